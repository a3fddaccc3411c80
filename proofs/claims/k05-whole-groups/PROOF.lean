import PyProof.Rows.All
import Wide.All
import OpenK.AllK
import Wide.FinOn
import HandS.ForMost
import HandS.Exc
import HandS.TryOnly
import HandS.ExcOwn
import HandS.WordsExc
import HandS.Style
import HandS.Deep
import HandS.TupAny
import HandS.TupLe
import HandS.Conv
import HandS.Strs
import HandS.IsInst
import HandS.More
import HandS.Small
import HandS.EndBits
import HandS.SortInts
import KE.SortData
import KE.OsSort
import PySem.Challenge.RW_checkins_k05_whole_groups
set_option Elab.async false
set_option linter.all false
set_option maxRecDepth 100000
set_option maxHeartbeats 0
/-! Ck1: the interpreter over the IR. -/
namespace Ck
open PySem L2

/-- what stands in the own heap -/
inductive O where
  | lst (xs : List V) | tup (xs : List V) | rdl (xs : List V)
  | dK (kvs : List (Key × V)) | dT (kvs : List (List Key × V)) | lkT (kvs : List (List Key × V))
  | ins (c : Nat) (fs : List (Nat × V)) | set (ns : List Int)
abbrev Hs := List O
abbrev Sts := List (Option V)

inductive R (A : Type) where
  | ok (a : A) (h : Hs) | ex (c : Nat) (h : Hs) | no
def R.bind {A B : Type} : R A → (A → Hs → R B) → R B
  | .ok a h, f => f a h
  | .ex c h, _ => .ex c h
  | .no, _ => .no
def R.ofOpt {A : Type} (h : Hs) : Option A → R A
  | some a => .ok a h
  | none => .no

inductive Op2 where
  | add | sub | mul | fdiv | mod | pow | eq | ne | lt | le | gt | ge | isin | notin | is_ | isnot | idx
  deriving DecidableEq
inductive Bm where
  | append | extend | pop | get | clear | reverse | index | count
inductive Bf where
  | len | list | sorted | set | min1 | max1 | min2 | max2 | any | all | sum | abs | int | tuple
inductive Ty where
  | int | bool | str | list | tuple | cls (c : Nat)
inductive Tg where
  | name (i : Nat) | tup (is : List Nat)
mutual
inductive Ex where
  | var (i : Nat) | cst (v : V)
  | op2 (o : Op2) (a b : Ex) | neg (a : Ex) | not (a : Ex)
  | and (a b : Ex) | or (a b : Ex) | ite (c a b : Ex)
  | chain (o p : Op2) (a b c : Ex)
  | tup (es : Exs) | lst (es : Exs) | dnew (t : Bool) | disp (ks : List Str) (es : Exs)
  | slice (a : Ex) (lo hi : Option Ex) | rev (a : Ex) | step (a lo k : Ex)
  | fld (a : Ex) (f : Nat)
  | call (f : Nat) (es : Exs) | make (c : Nat) (es : Exs) | meth (m : Nat) (a : Ex) (es : Exs)
  | bm (m : Bm) (a : Ex) (es : Exs) | bf (f : Bf) (es : Exs) | isi (a : Ex) (t : Ty)
  | lrng (a : Ex)
  | comp (ws : List Nat) (tg : Tg) (it : It) (cond : Ex) (elt : Ex)
  | lock (d : Ex) (e : Ex)
inductive Exs where
  | nil | cons (e : Ex) (es : Exs)
inductive It where
  | seq (e : Ex) | rng1 (e : Ex) | rng2 (a b : Ex) | rng3 (a b c : Ex) | enum (e : Ex) | zip (a b : Ex) | dict (e : Ex)
end
inductive Stm where
  | pass | seq (a b : Stm)
  | asg (tg : Tg) (e : Ex) | par (is : List Nat) (es : Exs)
  | sub (o i e : Ex) | fldS (o : Ex) (f : Nat) (e : Ex)
  | aug (i : Nat) (o : Op2) (e : Ex)
  | expr (e : Ex) | for_ (tg : Tg) (it : It) (b : Stm) | while_ (c : Ex) (b : Stm) | if_ (c : Ex) (a b : Stm)
  | ret (e : Ex) | raise (c : Nat)

structure Fd where
  np : Nat
  ns : Nat
  body : Stm
  /-- nothing that is raised leaves it -/
  nx : Bool
structure Cd where
  init : Option Nat
  /-- its methods: names, defs -/
  meths : List (Nat × Nat)
  /-- the fields that its instances may have -/
  flds : List Nat
  /-- the classes that it stands under, itself too -/
  ups : List Nat
def Cd.meth (d : Cd) (m : Nat) : Option Nat := d.meths.lookup m
structure Prog where
  fns : List (Nat × Fd)
  clss : List (Nat × Cd)
def Prog.fn (P : Prog) (f : Nat) : Option Fd := P.fns.lookup f
def Prog.cls (P : Prog) (c : Nat) : Option Cd := P.clss.lookup c
/-- class c is d or stands under it -/
def Prog.isa (P : Prog) (c d : Nat) : Bool := match P.cls c with
  | some x => x.ups.contains d
  | none => false
def Prog.fld (P : Prog) (c f : Nat) : Bool := match P.cls c with
  | some x => x.flds.contains f
  | none => false

/-! ### values -/
def SZ : Nat := 1000000
def dataOf : Nat → Hs → V → Option PyData
  | 0, _, _ => none
  | n + 1, h, v => match v with
    | .non => some .none
    | .bl b => some (.bool b)
    | .int i => some (.int i)
    | .str x => if PyData.strOk x then some (.str x) else none
    | .ref a => match h[a]? with
      | some (.lst xs) => (xs.mapM (dataOf n h)).map .list
      | some (.rdl xs) => (xs.mapM (dataOf n h)).map .list
      | some (.tup xs) => (xs.mapM (dataOf n h)).map .tuple
      | _ => none
    | _ => none
/-- the depth to which data is looked at -/
def DP : Nat := 20
def eqD (x y : V) (h : Hs) : Option Bool := match x, y with
  | .int i, .int j => some (decide (i = j))
  | .bl i, .bl j => some (decide (i = j))
  | .str i, .str j => some (decide (i = j))
  | _, _ => match dataOf DP h x, dataOf DP h y with
    | some d, some e => some (PyData.eqv d e)
    | _, _ => none
def lstAt (h : Hs) (a : Nat) : Option (List V) := match h[a]? with
  | some (.lst xs) => some xs
  | some (.rdl xs) => some xs
  | _ => none
def tupAt (h : Hs) (a : Nat) : Option (List V) := match h[a]? with
  | some (.tup xs) => some xs
  | _ => none
def seqAt (h : Hs) (a : Nat) : Option (List V) := match h[a]? with
  | some (.lst xs) => some xs
  | some (.rdl xs) => some xs
  | some (.tup xs) => some xs
  | _ => none
def keyV : V → Option Key
  | .int i => some (.inl i)
  | .str x => some (.inr x)
  | _ => none
def keysV (xs : List V) : Option (List Key) := xs.mapM keyV
def tkey (h : Hs) : V → Option (List Key)
  | .ref b => (tupAt h b).bind keysV
  | _ => none
/-- what a dict holds under y: none: no such dict or key -/
def dget (h : Hs) (a : Nat) (y : V) : Option (Option V) := match h[a]? with
  | some (.dK kvs) => (keyV y).map (valV kvs)
  | some (.dT kvs) => (tkey h y).map (valV kvs)
  | some (.lkT kvs) => (tkey h y).map (valV kvs)
  | _ => none
def intsOf (xs : List V) : Option (List Int) := xs.mapM fun v => match v with
  | .int i => some i
  | _ => none
def boolsOf (xs : List V) : Option (List Bool) := xs.mapM fun v => match v with
  | .bl i => some i
  | _ => none
def new (h : Hs) (o : O) : R V := .ok (.ref h.length) (h ++ [o])

/-- a tuple of ints as a list -/
def tupInts (h : Hs) : V → Option (List Int)
  | .ref a => (tupAt h a).bind intsOf
  | _ => none
/-- t >= u of tuples of ints -/
def geT (ns ms : List Int) : Bool := Ob.lexAt (fun j => decide (ns.getD j 0 = ms.getD j 0)) (fun j => decide (ms.getD j 0 ≤ ns.getD j 0)) (decide (ns.length ≥ ms.length)) 0 (min ns.length ms.length)
/-- the order of lists of ints -/
def lexLe : List Int → List Int → Bool
  | [], _ => true
  | _ :: _, [] => false
  | x :: xs, y :: ys => if x = y then lexLe xs ys else decide (x < y)
/-- the order of tuples of ints -/
def tupKey (h : Hs) (v : V) : List Int := (tupInts h v).getD []
def tupLe (h : Hs) : V → V → Bool := PySem.W.dataLe false fun v => .tuple ((tupKey h v).map .int)
def isort {A : Type} (le : A → A → Bool) (xs : List A) : List A := xs.mergeSort le

def opAdd (x y : V) (h : Hs) : R V := match x, y with
  | .int i, .int j => .ok (.int (i + j)) h
  | .ref a, .ref b => match h[a]?, h[b]? with
    | some (.lst xs), some (.lst ys) => if xs.length + ys.length ≤ SZ then new h (.lst (xs ++ ys)) else .no
    | some (.tup xs), some (.tup ys) => if xs.length + ys.length ≤ SZ then (if xs.isEmpty then .ok y h else if ys.isEmpty then .ok x h else new h (.tup (xs ++ ys))) else .no
    | _, _ => .no
  | _, _ => .no
def mulOk (i j : Int) : Bool := decide (i.natAbs.log2 + j.natAbs.log2 < 100000000)
def opMul (x y : V) (h : Hs) : R V := match x, y with
  | .int i, .int j => if mulOk i j then .ok (.int (i * j)) h else .no
  | .ref a, .int k => match h[a]? with
    | some (.lst xs) => if decide (k < 1000000) && decide (-1000000 < k) && decide (xs.length * k.toNat ≤ SZ) then new h (.lst (List.replicate k.toNat xs).flatten) else .no
    | _ => .no
  | _, _ => .no
def opIn (x y : V) (h : Hs) : Option Bool := match y with
  | .ref a => match h[a]? with
    | some (.dK _) => (dget h a x).map (·.isSome)
    | some (.dT _) => (dget h a x).map (·.isSome)
    | some (.lkT _) => (dget h a x).map (·.isSome)
    | _ => match seqAt h a with
      | some xs => if flatV x && xs.all flatV then some (inV x xs) else match lstAt h a with
        | some xs => match dataOf DP h x, xs.mapM (dataOf DP h) with
          | some d, some ds => some (ds.any fun z => PyData.eqv z d)
          | _, _ => none
        | none => none
      | none => none
  | _ => none
def opIs (x y : V) : Option Bool := match x, y with
  | .bl a, .bl b => some (decide (a = b))
  | x, .non => some (decide (x = .non))
  | _, _ => none
def opIdx (x y : V) (h : Hs) : Option V := match x with
  | .ref a => match h[a]? with
    | some (.dK _) => (dget h a y).bind id
    | some (.dT _) => (dget h a y).bind id
    | some (.lkT _) => (dget h a y).bind id
    | _ => match seqAt h a, y with
      | some xs, .int i => atI xs i
      | _, _ => none
  | _ => none
def cmpI (p : Int → Int → Bool) (x y : V) (h : Hs) : R V := match x, y with
  | .int i, .int j => .ok (.bl (p i j)) h
  | _, _ => .no
def opGe (x y : V) (h : Hs) : R V := match x, y with
  | .int i, .int j => .ok (.bl (decide (j ≤ i))) h
  | _, _ => match tupInts h x, tupInts h y with
    | some ns, some ms => .ok (.bl (geT ns ms)) h
    | _, _ => .no
def prim2 (o : Op2) (x y : V) (h : Hs) : R V := match o with
  | .add => opAdd x y h
  | .sub => match x, y with
    | .int i, .int j => .ok (.int (i - j)) h
    | _, _ => .no
  | .mul => opMul x y h
  | .fdiv => match x, y with
    | .int i, .int j => if decide (0 < j) && decide (j < 1073741824) then .ok (.int (i / j)) h else .no
    | _, _ => .no
  | .mod => match x, y with
    | .int i, .int j => if decide (0 < j) then .ok (.int (i % j)) h else .no
    | _, _ => .no
  | .pow => match x, y with
    | .int i, .int j => if decide (0 ≤ j) && decide (j ≤ 1000) && decide (i.natAbs < 1000) then .ok (.int (i ^ j.toNat)) h else .no
    | _, _ => .no
  | .eq => (R.ofOpt h (eqD x y h)).bind fun b h => .ok (.bl b) h
  | .ne => (R.ofOpt h (eqD x y h)).bind fun b h => .ok (.bl (!b)) h
  | .lt => cmpI (fun i j => decide (i < j)) x y h
  | .le => cmpI (fun i j => decide (i ≤ j)) x y h
  | .gt => cmpI (fun i j => decide (j < i)) x y h
  | .ge => opGe x y h
  | .isin => (R.ofOpt h (opIn x y h)).bind fun b h => .ok (.bl b) h
  | .notin => (R.ofOpt h (opIn x y h)).bind fun b h => .ok (.bl (!b)) h
  | .is_ => (R.ofOpt h (opIs x y)).bind fun b h => .ok (.bl b) h
  | .isnot => (R.ofOpt h (opIs x y)).bind fun b h => .ok (.bl (!b)) h
  | .idx => R.ofOpt h (opIdx x y h)
def optInt : Option V → Option (Option Int)
  | none => some none
  | some (.int i) => some (some i)
  | _ => none
def sliceP (x : V) (lo hi : Option Int) (h : Hs) : R V := match x with
  | .ref a => match h[a]? with
    | some (.tup xs) => if HT.sIx xs.length 0 lo = 0 ∧ HT.sIx xs.length xs.length hi = xs.length then .ok x h else new h (.tup (cutV xs lo hi))
    | _ => match lstAt h a with
      | some xs => new h (.lst (cutV xs lo hi))
      | none => .no
  | _ => .no
/-- every k-th item from lo on -/
def everyK (k : Nat) : Nat → List V → List V
  | _, [] => []
  | 0, x :: xs => x :: everyK k (k - 1) xs
  | n + 1, _ :: xs => everyK k n xs
def stepP (x : V) (lo k : Int) (h : Hs) : R V := match x with
  | .ref a => match lstAt h a with
    | some xs => if decide (0 ≤ lo) && decide (1 ≤ k) && decide (k < 1000) && decide (lo < 1000) then new h (.lst (everyK k.toNat lo.toNat xs)) else .no
    | none => .no
  | _ => .no
def bmApp (x : V) (vs : List V) (h : Hs) : R V := match x, vs with
  | .ref a, [y] => match h[a]? with
    | some (.lst xs) => if xs.length < SZ then .ok .non (h.set a (.lst (xs ++ [y]))) else .no
    | _ => .no
  | _, _ => .no
def bmExt (x : V) (vs : List V) (h : Hs) : R V := match x, vs with
  | .ref a, [.ref b] => match h[a]?, h[b]? with
    | some (.lst xs), some (.lst ys) => if xs.length + ys.length ≤ SZ then .ok .non (h.set a (.lst (xs ++ ys))) else .no
    | _, _ => .no
  | _, _ => .no
def bmPop (x : V) (vs : List V) (h : Hs) : R V := match x, vs with
  | .ref a, [] => match h[a]? with
    | some (.lst xs) => match xs[xs.length - 1]? with
      | some y => .ok y (h.set a (.lst xs.dropLast))
      | none => .no
    | _ => .no
  | _, _ => .no
def bmClr (x : V) (vs : List V) (h : Hs) : R V := match x, vs with
  | .ref a, [] => match h[a]? with
    | some (.lst _) => .ok .non (h.set a (.lst []))
    | _ => .no
  | _, _ => .no
def bmRev (x : V) (vs : List V) (h : Hs) : R V := match x, vs with
  | .ref a, [] => match h[a]? with
    | some (.lst xs) => .ok .non (h.set a (.lst xs.reverse))
    | _ => .no
  | _, _ => .no
def bmGet (x : V) (vs : List V) (h : Hs) : R V := match x, vs with
  | .ref a, [y, z] => match dget h a y with
    | some o => .ok (o.getD z) h
    | none => .no
  | _, _ => .no
def bmP (m : Bm) (x : V) (vs : List V) (h : Hs) : R V := match m with
  | .append => bmApp x vs h
  | .extend => bmExt x vs h
  | .pop => bmPop x vs h
  | .clear => bmClr x vs h
  | .reverse => bmRev x vs h
  | .get => bmGet x vs h
  | _ => .no
/-- what stands there has such a method -/
def isDic (x : V) (h : Hs) : Bool := match x with
  | .ref a => match h[a]? with
    | some (.dK _) => true
    | some (.dT _) => true
    | _ => false
  | _ => false
def isLst (x : V) (h : Hs) : Bool := match x with
  | .ref a => match h[a]? with
    | some (.lst _) => true
    | _ => false
  | _ => false
def bmIs (m : Bm) (x : V) (h : Hs) : Bool := match m with
  | .get => isDic x h
  | _ => isLst x h
def maxL (m : Int) (ns : List Int) : Int := ns.foldl (fun a b => if a < b then b else a) m
def minL (m : Int) (ns : List Int) : Int := ns.foldl (fun a b => if b < a then b else a) m
def dedup (ns : List Int) : List Int := ns.foldl (fun acc n => if n ∈ acc then acc else acc ++ [n]) []
def bfLen (vs : List V) (h : Hs) : R V := match vs with
  | [.ref a] => match h[a]? with
    | some (.dK kvs) => .ok (.int kvs.length) h
    | _ => match seqAt h a with
      | some xs => .ok (.int xs.length) h
      | none => .no
  | _ => .no
def bfList (vs : List V) (h : Hs) : R V := match vs with
  | [.ref a] => match h[a]? with
    | some (.dK kvs) => new h (.lst (kvs.map fun kv => kV kv.1))
    | _ => match seqAt h a with
      | some xs => new h (.lst xs)
      | none => .no
  | _ => .no
def isTupI (h : Hs) (v : V) : Bool := match tupInts h v with
  | some (_ :: _) => true
  | _ => false
def bfSorted (vs : List V) (h : Hs) : R V := match vs with
  | [.ref a] => match h[a]? with
    | some (.set ns) => if ns.length < 64 then new h (.lst ((isort (fun i j => decide (i ≤ j)) ns).map .int)) else .no
    | _ => match lstAt h a with
      | some xs => match intsOf xs with
        | some ns => new h (.lst ((isort (fun i j => decide (i ≤ j)) ns).map .int))
        | none => if xs.all (isTupI h) then new h (.lst (xs.mergeSort (tupLe h))) else .no
      | none => .no
  | _ => .no
def bfSet (vs : List V) (h : Hs) : R V := match vs with
  | [.ref a] => match (lstAt h a).bind intsOf with
    | some ns => if ns.length < 1000 then new h (.set (dedup ns)) else .no
    | none => .no
  | _ => .no
def bfInts (f : List Int → Option V) (vs : List V) (h : Hs) : R V := match vs with
  | [.ref a] => match (lstAt h a).bind intsOf with
    | some ns => R.ofOpt h (f ns)
    | none => .no
  | _ => .no
def bfBools (f : List Bool → V) (vs : List V) (h : Hs) : R V := match vs with
  | [.ref a] => match (lstAt h a).bind boolsOf with
    | some bs => .ok (f bs) h
    | none => .no
  | _ => .no
def bfTwo (f : Int → Int → V) (vs : List V) (h : Hs) : R V := match vs with
  | [.int i, .int j] => .ok (f i j) h
  | _ => .no
def bfAbs (vs : List V) (h : Hs) : R V := match vs with
  | [.int i] => .ok (.int (if i < 0 then -i else i)) h
  | _ => .no
def bfInt (vs : List V) (h : Hs) : R V := match vs with
  | [.int i] => .ok (.int i) h
  | [.bl b] => .ok (.int (if b then 1 else 0)) h
  | _ => .no
def bfTuple (vs : List V) (h : Hs) : R V := match vs with
  | [.ref a] => match h[a]? with
    | some (.tup _) => .ok (.ref a) h
    | some (.lst xs) => new h (.tup xs)
    | _ => .no
  | _ => .no
def minI : List Int → Option V
  | n :: ns => some (.int (minL n ns))
  | [] => none
def maxI : List Int → Option V
  | n :: ns => some (.int (maxL n ns))
  | [] => none
def bfP (f : Bf) (vs : List V) (h : Hs) : R V := match f with
  | .len => bfLen vs h
  | .list => bfList vs h
  | .sorted => bfSorted vs h
  | .set => bfSet vs h
  | .min1 => bfInts minI vs h
  | .max1 => bfInts maxI vs h
  | .sum => bfInts (fun ns => some (.int ns.sum)) vs h
  | .any => bfBools (fun bs => .bl (bs.any id)) vs h
  | .all => bfBools (fun bs => .bl (bs.all id)) vs h
  | .min2 => bfTwo (fun i j => .int (if j < i then j else i)) vs h
  | .max2 => bfTwo (fun i j => .int (if j > i then j else i)) vs h
  | .abs => bfAbs vs h
  | .int => bfInt vs h
  | .tuple => bfTuple vs h
def isiP (isa : Nat → Nat → Bool) (x : V) (t : Ty) (h : Hs) : Option Bool := match t with
  | .cls d => match x with
    | .ref a => match h[a]? with
      | some (.ins c _) => some (isa c d)
      | _ => none
    | _ => none
  | t => match x with
    | .non => some false
    | .bl _ => some (match t with | .bool => true | .int => true | _ => false)
    | .int _ => some (match t with | .int => true | _ => false)
    | .str _ => some (match t with | .str => true | _ => false)
    | .ref a => match h[a]? with
      | some (.lst _) => some (match t with | .list => true | _ => false)
      | some (.tup _) => some (match t with | .tuple => true | _ => false)
      | some (.dK _) => some false
      | _ => none
    | _ => none

/-! ### iterators, targets -/
inductive ItD where
  | seq (a : Nat) | tseq (a : Nat) | rng (lo c : Int) (n : Nat) | enum (a : Nat) | zip (a b : Nat) | dict (a : Nat) (kvs : List (List Key × V))
def itGet (d : ItD) (i : Nat) (h : Hs) : R (Option V) := match d with
  | .seq a => match lstAt h a with
    | some xs => .ok xs[i]? h
    | none => .no
  | .tseq a => match tupAt h a with
    | some xs => .ok xs[i]? h
    | none => .no
  | .rng lo c n => .ok (if i < n then some (.int (lo + (i : Nat) * c)) else none) h
  | .enum a => match lstAt h a with
    | some xs => match xs[i]? with
      | some x => .ok (some (.ref h.length)) (h ++ [.tup [.int (i : Nat), x]])
      | none => .ok none h
    | none => .no
  | .zip a b => match lstAt h a, lstAt h b with
    | some xs, some ys => match xs[i]?, ys[i]? with
      | some x, some y => .ok (some (.ref h.length)) (h ++ [.tup [x, y]])
      | _, _ => .ok none h
    | _, _ => .no
  | .dict a kvs => match h[a]? with
    | some (.lkT kvs') => if kvs' = kvs then match kvs[i]? with
      | some kv => .ok (some (.ref h.length)) (h ++ [.tup (kv.1.map kV)])
      | none => .ok none h else .no
    | _ => .no
def setAll : List Nat → List V → Sts → Option Sts
  | [], [], s => some s
  | i :: is, v :: vs, s => setAll is vs (s.set i (some v))
  | _, _, _ => none
def bindTg (tg : Tg) (x : V) (s : Sts) (h : Hs) : Option Sts := match tg with
  | .name i => some (s.set i (some x))
  | .tup is => match x with
    | .ref a => match tupAt h a with
      | some xs => setAll is xs s
      | none => none
    | _ => none
def slotsTg : Tg → List Nat
  | .name i => [i]
  | .tup is => is

/-! ### the machine -/
inductive Rs where
  | nx (s : Sts) | rt (v : V)
structure Evs where
  e : Ex → Sts → Hs → R V
  s : Stm → Sts → Hs → R Rs
def evL (f : Ex → Hs → R V) : Exs → Hs → R (List V)
  | .nil, h => .ok [] h
  | .cons e es, h => (f e h).bind fun v h => (evL f es h).bind fun vs h => .ok (v :: vs) h
def evO (f : Ex → Hs → R V) : Option Ex → Hs → R (Option Int)
  | none, h => .ok none h
  | some e, h => (f e h).bind fun v h => match v with
    | .int i => .ok (some i) h
    | _ => .no
def asBool (v : V) (h : Hs) : R Bool := match v with
  | .bl b => .ok b h
  | _ => .no
def R.noex {A : Type} : R A → R A
  | .ex _ _ => .no
  | r => r
def R.noexIf {A : Type} (b : Bool) (x : R A) : R A := if b then x.noex else x
def retV (r : Rs) (h : Hs) : R V := match r with
  | .nx _ => .ok .non h
  | .rt v => .ok v h
def start1 (ns : Nat) (vs : List V) : Sts := vs.map some ++ List.replicate (ns - vs.length) none
def callF (P : Prog) (S : Stm → Sts → Hs → R Rs) (f : Nat) (vs : List V) (h : Hs) : R V := match P.fn f with
  | some d => if vs.length = d.np then ((S d.body (start1 d.ns vs) h).noexIf d.nx).bind retV else .no
  | none => .no
def evI (f : Ex → Hs → R V) (it : It) (h : Hs) : R ItD := match it with
  | .seq e => (f e h).bind fun v h => match v with
    | .ref a => match lstAt h a with
      | some _ => .ok (.seq a) h
      | none => match tupAt h a with
        | some _ => .ok (.tseq a) h
        | none => .no
    | _ => .no
  | .rng1 e => (f e h).bind fun v h => match v with
    | .int j => if decide (-1000000 ≤ j) && decide (j < 1000000) then .ok (.rng 0 1 j.toNat) h else .no
    | _ => .no
  | .rng2 a b => (f a h).bind fun v h => (f b h).bind fun w h => match v, w with
    | .int i, .int j => if decide (-1000000 ≤ i) && decide (i < 1000000) && decide (-1000000 ≤ j) && decide (j < 1000000) then .ok (.rng i 1 (j - i).toNat) h else .no
    | _, _ => .no
  | .rng3 a b c => (f a h).bind fun v h => (f b h).bind fun w h => (f c h).bind fun u h => match v, w, u with
    | .int i, .int j, .int k => if decide (0 ≤ i) && decide (i < 1000000) && decide (0 ≤ j) && decide (j < 1000000) && decide (k = 2) then .ok (.rng i 2 ((j - i + 1) / 2).toNat) h else .no
    | _, _, _ => .no
  | .enum e => (f e h).bind fun v h => match v with
    | .ref a => match lstAt h a with
      | some _ => .ok (.enum a) h
      | none => .no
    | _ => .no
  | .zip a b => (f a h).bind fun v h => (f b h).bind fun w h => match v, w with
    | .ref a, .ref b => match lstAt h a, lstAt h b with
      | some _, some _ => .ok (.zip a b) h
      | _, _ => .no
    | _, _ => .no
  | .dict e => (f e h).bind fun v h => match v with
    | .ref a => match h[a]? with
      | some (.lkT kvs) => .ok (.dict a kvs) h
      | _ => .no
    | _ => .no
def lcLoop (f : Ex → Sts → Hs → R V) (d : ItD) (tg : Tg) (cond elt : Ex) (s : Sts) (D : Nat) : Nat → Nat → Hs → R Unit
  | 0, _, _ => .no
  | m + 1, i, h => (itGet d i h).bind fun o h => match o with
    | none => .ok () h
    | some x => (R.ofOpt h (bindTg tg x s h)).bind fun s2 h => (f cond s2 h).bind fun c h => (asBool c h).bind fun b h =>
      if b then (f elt s2 h).bind fun y h => match h[D]? with
        | some (.lst acc) => if acc.length < SZ then lcLoop f d tg cond elt s D m (i + 1) (h.set D (.lst (acc ++ [y]))) else .no
        | _ => .no
      else lcLoop f d tg cond elt s D m (i + 1) h
def dispP : List (Str × V) → List (Key × V) := fun kvs => mergeK [] (kvs.map fun p => (Sum.inr p.1, p.2))
def initF (P : Prog) (S : Stm → Sts → Hs → R Rs) (c : Nat) (vs : List V) (h : Hs) : R V := match P.cls c with
  | some d => match d.init with
    | some f => (callF P S f (.ref h.length :: vs) (h ++ [.ins c []])).bind fun v h' => match v with
      | .non => .ok (.ref h.length) h'
      | _ => .no
    | none => if vs.isEmpty then new h (.ins c []) else .no
  | none => .no
def stepE (P : Prog) (n : Nat) (E : Evs) (e : Ex) (s : Sts) (h : Hs) : R V := match e with
  | .var i => match s[i]? with
    | some (some v) => .ok v h
    | _ => .no
  | .cst v => .ok v h
  | .op2 o a b => (E.e a s h).bind fun x h => (E.e b s h).bind fun y h => prim2 o x y h
  | .neg a => (E.e a s h).bind fun x h => match x with
    | .int i => .ok (.int (-i)) h
    | _ => .no
  | .not a => (E.e a s h).bind fun x h => (asBool x h).bind fun b h => .ok (.bl (!b)) h
  | .and a b => (E.e a s h).bind fun x h => (asBool x h).bind fun k h => if k then E.e b s h else .ok (.bl false) h
  | .or a b => (E.e a s h).bind fun x h => (asBool x h).bind fun k h => if k then .ok (.bl true) h else E.e b s h
  | .ite c a b => (E.e c s h).bind fun x h => (asBool x h).bind fun k h => if k then E.e a s h else E.e b s h
  | .chain o p a b c => (E.e a s h).bind fun x h => (E.e b s h).bind fun y h => (prim2 o x y h).bind fun z h => (asBool z h).bind fun k h =>
      if k then (E.e c s h).bind fun w h => prim2 p y w h else .ok (.bl false) h
  | .tup es => (evL (fun e h => E.e e s h) es h).bind fun vs h => if vs.length ≤ SZ then new h (.tup vs) else .no
  | .lst es => (evL (fun e h => E.e e s h) es h).bind fun vs h => if vs.length ≤ SZ then new h (.lst vs) else .no
  | .dnew t => new h (if t then .dT [] else .dK [])
  | .disp ks es => (evL (fun e h => E.e e s h) es (h ++ [.dK []])).bind fun vs h' =>
      match h'[h.length]? with
      | some (.dK []) => if ks.length = vs.length ∧ ks.length ≤ 15 then .ok (.ref h.length) (h'.set h.length (.dK (dispP (ks.zip vs)))) else .no
      | _ => .no
  | .slice a lo hi => (E.e a s h).bind fun x h => (evO (fun e h => E.e e s h) lo h).bind fun l h => (evO (fun e h => E.e e s h) hi h).bind fun u h => sliceP x l u h
  | .rev a => (E.e a s h).bind fun x h => match x with
    | .ref a => match lstAt h a with
      | some xs => new h (.lst xs.reverse)
      | none => .no
    | _ => .no
  | .step a lo k => (E.e a s h).bind fun x h => (E.e lo s h).bind fun l h => (E.e k s h).bind fun u h => match l, u with
    | .int l, .int u => stepP x l u h
    | _, _ => .no
  | .fld a f => (E.e a s h).bind fun x h => match x with
    | .ref p => match h[p]? with
      | some (.ins c fs) => if P.fld c f then R.ofOpt h (fs.lookup f) else .no
      | _ => .no
    | _ => .no
  | .call f es => (evL (fun e h => E.e e s h) es h).bind fun vs h => callF P E.s f vs h
  | .make c es => (evL (fun e h => E.e e s h) es h).bind fun vs h => initF P E.s c vs h
  | .meth m a es => (E.e a s h).bind fun x h => match x with
    | .ref p => match h[p]? with
      | some (.ins c _) => match (P.cls c).bind fun d => d.meth m with
        | some f => (evL (fun e h => E.e e s h) es h).bind fun vs h => callF P E.s f (x :: vs) h
        | none => .no
      | _ => .no
    | _ => .no
  | .bm m a es => (E.e a s h).bind fun x h => if bmIs m x h then (evL (fun e h => E.e e s h) es h).bind fun vs h => bmP m x vs h else .no
  | .bf f es => (evL (fun e h => E.e e s h) es h).bind fun vs h => bfP f vs h
  | .isi a t => (E.e a s h).bind fun x h => (R.ofOpt h (isiP P.isa x t h)).bind fun b h => .ok (.bl b) h
  | .lrng a => (E.e a s h).bind fun x h => match x with
    | .int j => if decide (0 ≤ j) && decide (j < 1000000) then new h (.lst ((List.range j.toNat).map fun i : Nat => .int i)) else .no
    | _ => .no
  | .comp ws tg it cond elt => (evI (fun e h => E.e e s h) it h).bind fun d h => (lcLoop E.e d tg cond elt (wipe s ws) h.length n 0 (h ++ [.lst []])).noex.bind fun _ h' => .ok (.ref h.length) h'
  | .lock d e => (E.e d s h).bind fun x h => match x with
    | .ref a => match h[a]? with
      | some (.dT kvs) => (E.e e s (h.set a (.lkT kvs))).noex.bind fun v h => match h[a]? with
        | some (.lkT kvs') => if kvs' = kvs then .ok v (h.set a (.dT kvs)) else .no
        | _ => .no
      | _ => .no
    | _ => .no
def forLoop (S : Stm → Sts → Hs → R Rs) (d : ItD) (tg : Tg) (b : Stm) : Nat → Nat → Sts → Hs → R Rs
  | 0, _, _, _ => .no
  | m + 1, i, s, h => (itGet d i h).bind fun o h => match o with
    | none => .ok (.nx s) h
    | some x => (R.ofOpt h (bindTg tg x s h)).bind fun s2 h => (S b s2 h).bind fun r h => match r with
      | .nx s => forLoop S d tg b m (i + 1) s h
      | .rt v => .ok (.rt v) h
def whLoop (E : Evs) (c : Ex) (b : Stm) : Nat → Sts → Hs → R Rs
  | 0, _, _ => .no
  | m + 1, s, h => (E.e c s h).bind fun x h => (asBool x h).bind fun k h => if k then (E.s b s h).bind fun r h => match r with
      | .nx s => whLoop E c b m s h
      | .rt v => .ok (.rt v) h
    else .ok (.nx s) h
def subP (o i v : V) (h : Hs) : R Unit := match o with
  | .ref a => match h[a]? with
    | some (.lst xs) => match i with
      | .int k => match ixN xs.length k with
        | some j => .ok () (h.set a (.lst (xs.set j v)))
        | none => .no
      | _ => .no
    | some (.dK kvs) => match keyV i with
      | some k => if kvs.length < SZ then .ok () (h.set a (.dK (putK kvs k v))) else .no
      | none => .no
    | some (.dT kvs) => match tkey h i with
      | some k => if kvs.length < SZ then .ok () (h.set a (.dT (putK kvs k v))) else .no
      | none => .no
    | _ => .no
  | _ => .no
def putN (f : Nat) (v : V) : List (Nat × V) → List (Nat × V)
  | [] => [(f, v)]
  | (g, x) :: r => if g = f then (g, v) :: r else (g, x) :: putN f v r
/-- how many codes of fields there are -/
def NF : Nat := 12
def augV (o : Op2) (x y : V) : Option V := match o with
  | .add => match x, y with
    | .int a, .int b => some (.int (a + b))
    | _, _ => none
  | .sub => match x, y with
    | .int a, .int b => some (.int (a - b))
    | _, _ => none
  | _ => none
def stepS (P : Prog) (n : Nat) (E : Evs) (st : Stm) (s : Sts) (h : Hs) : R Rs := match st with
  | .pass => .ok (.nx s) h
  | .seq a b => (E.s a s h).bind fun r h => match r with
    | .nx s => E.s b s h
    | .rt v => .ok (.rt v) h
  | .asg tg e => (E.e e s h).bind fun x h => (R.ofOpt h (bindTg tg x s h)).bind fun s2 h => .ok (.nx s2) h
  | .par is es => (evL (fun e h => E.e e s h) es h).bind fun vs h => (R.ofOpt h (setAll is vs s)).bind fun s2 h => .ok (.nx s2) h
  | .sub o i e => (E.e e s h).bind fun v h => (E.e o s h).bind fun x h => (E.e i s h).bind fun y h => (subP x y v h).bind fun _ h => .ok (.nx s) h
  | .fldS o f e => (E.e e s h).bind fun v h => (E.e o s h).bind fun x h => match x with
    | .ref p => match h[p]? with
      | some (.ins c fs) => if P.fld c f && decide (f < NF) && decide (fs.length < 100) then .ok (.nx s) (h.set p (.ins c (putN f v fs))) else .no
      | _ => .no
    | _ => .no
  | .aug i o e => match s[i]? with
    | some (some x) => (E.e e s h).bind fun y h => (R.ofOpt h (augV o x y)).bind fun z h => .ok (.nx (s.set i (some z))) h
    | _ => .no
  | .expr e => (E.e e s h).bind fun _ h => .ok (.nx s) h
  | .for_ tg it b => (evI (fun e h => E.e e s h) it h).bind fun d h => forLoop E.s d tg b n 0 s h
  | .while_ c b => whLoop E c b n s h
  | .if_ c a b => (E.e c s h).bind fun x h => (asBool x h).bind fun k h => if k then E.s a s h else E.s b s h
  | .ret e => (E.e e s h).bind fun v h => .ok (.rt v) h
  | .raise c => .ex c h
def evs (P : Prog) : Nat → Evs
  | 0 => ⟨fun _ _ _ => .no, fun _ _ _ => .no⟩
  | n + 1 => ⟨stepE P n (evs P n), stepS P n (evs P n)⟩
end Ck
/-! Ck2: the own heap beside the abstract heap of HandS; readings that are runs. -/
namespace Ck
open PySem L2

/-- the fields' names -/
def fldS : Nat → Str
  | 0 => "way" | 1 => "side" | 2 => "quality" | 3 => "marks" | 4 => "line" | 5 => "air" | 6 => "least" | 7 => "chair"
  | 8 => "good" | 9 => "called" | 10 => "roll" | 11 => "lines" | _ => ""
theorem fldS_inj : ∀ i j : Nat, i < NF → j < NF → fldS i = fldS j → i = j := by
  have h : ∀ i : _root_.Fin 12, ∀ j : _root_.Fin 12, fldS i.1 = fldS j.1 → i = j := by decide +kernel
  intro i j hi hj e
  have := h ⟨i, hi⟩ ⟨j, hj⟩ e
  exact congrArg _root_.Fin.val this

structure Glo where
  K : PySem.W.Frag
  prog : Program
  w : World
  P : Prog
  cls : Nat → Addr
  exc : Nat → Addr

/-- own addresses as the layer's; the records of what is locked -/
structure Rho where
  m : Nat → Addr
  F : Addr → Obj
instance : CoeFun Rho fun _ => Nat → Addr := ⟨Rho.m⟩
def mapV (r : Rho) : V → V
  | .ref a => .ref (r a)
  | v => v
def mapL (r : Rho) (xs : List V) : List V := xs.map (mapV r)
def mapS (r : Rho) (s : Sts) : St := s.map (Option.map (mapV r))
def wf (n : Nat) : V → Prop
  | .ref a => a < n
  | _ => True
def wfL (n : Nat) (xs : List V) : Prop := ∀ v ∈ xs, wf n v
structure Agree (n : Nat) (r q : Rho) : Prop where
  e : ∀ i, i < n → r i = q i
  f : r.F = q.F
instance {n : Nat} {r q : Rho} : CoeFun (Agree n r q) fun _ => ∀ i, i < n → r i = q i := ⟨Agree.e⟩
theorem Agree.refl {n : Nat} {r : Rho} : Agree n r r := ⟨fun _ _ => rfl, rfl⟩
theorem Agree.trans {n m : Nat} {r q t : Rho} (a : Agree n r q) (h : n ≤ m) (b : Agree m q t) : Agree n r t := ⟨fun i hi => (a i hi).trans (b i (Nat.lt_of_lt_of_le hi h)), a.f.trans b.f⟩
theorem wf.mono {n m : Nat} {v : V} (w : wf n v) (h : n ≤ m) : wf m v := by
  cases v <;> first | trivial | exact Nat.lt_of_lt_of_le w h
theorem wfL.mono {n m : Nat} {xs : List V} (w : wfL n xs) (h : n ≤ m) : wfL m xs := fun v hv => (w v hv).mono h
theorem mapV_eq {n : Nat} {r q : Rho} {v : V} (w : wf n v) (a : Agree n r q) : mapV r v = mapV q v := by
  cases v <;> first | rfl | (show V.ref _ = V.ref _; rw [a _ w])
theorem mapL_eq {n : Nat} {r q : Rho} {xs : List V} (w : wfL n xs) (a : Agree n r q) : mapL r xs = mapL q xs :=
  List.map_congr_left fun v hv => mapV_eq (w v hv) a
theorem mapV_kV (r : Rho) (k : Key) : mapV r (kV k) = kV k := by cases k <;> rfl
theorem mapL_length {r : Rho} {xs : List V} : (mapL r xs).length = xs.length := List.length_map ..

/-! ### objects -/
def mK (r : Rho) {A : Type} (kvs : List (A × V)) : List (A × V) := kvs.map fun p => (p.1, mapV r p.2)
def mF (r : Rho) (fs : List (Nat × V)) : List (Str × V) := fs.map fun p => (fldS p.1, mapV r p.2)
/-- a list of the written part -/
def KL (K : PySem.W.Frag) (a : Addr) (xs : List V) : Prop :=
  ∃ (o : Obj) (its : Array Value) (n : Nat), K.lookup a = some o ∧ o.cls = .type "list" ∧ o.dict = none ∧ o.data = .seq its n ∧ its.size ≤ sizeLine ∧ Vals xs its.toList
def ObjS (G : Glo) (r : Rho) (H : Hp) (a : Addr) : O → Prop
  | .lst xs => H a = some (.lst (mapL r xs))
  | .tup xs => H a = some (.tup (mapL r xs))
  | .rdl xs => (∃ od, H a = some (.frz od (.lst (mapL r xs)))) ∨ KL G.K a (mapL r xs)
  | .dK kvs => H a = some (.dK (mK r kvs))
  | .dT kvs => H a = some (.dT (mK r kvs))
  | .lkT kvs => H a = some (.frz (r.F a) (.dT (mK r kvs)))
  | .ins c fs => ∃ dx, H a = some (.ins (G.cls c) dx (mF r fs))
  | .set ns => H a = some (SetO G.w a (fun k => decide (k ∈ ns)) ns.length)
def wfO (n : Nat) : O → Prop
  | .lst xs => wfL n xs
  | .tup xs => wfL n xs
  | .rdl xs => wfL n xs
  | .dK kvs => ∀ p ∈ kvs, wf n p.2
  | .dT kvs => ∀ p ∈ kvs, wf n p.2
  | .lkT kvs => ∀ p ∈ kvs, wf n p.2
  | .ins _ fs => ∀ p ∈ fs, p.1 < NF ∧ wf n p.2
  | .set ns => ns.Nodup
def mu : O → Bool
  | .tup _ => false
  | .rdl _ => false
  | _ => true
theorem wfO.mono {n m : Nat} {o : O} (w : wfO n o) (h : n ≤ m) : wfO m o := by
  cases o with
  | lst xs => exact wfL.mono w h
  | tup xs => exact wfL.mono w h
  | rdl xs => exact wfL.mono w h
  | dK kvs => exact fun p hp => (w p hp).mono h
  | dT kvs => exact fun p hp => (w p hp).mono h
  | lkT kvs => exact fun p hp => (w p hp).mono h
  | ins c fs => exact fun p hp => ⟨(w p hp).1, (w p hp).2.mono h⟩
  | set _ => exact w
theorem mK_eq {A : Type} {n : Nat} {r q : Rho} {kvs : List (A × V)} (w : ∀ p ∈ kvs, wf n p.2) (a : Agree n r q) : mK r kvs = mK q kvs :=
  List.map_congr_left fun p hp => by rw [mapV_eq (w p hp) a]
theorem mF_eq {n : Nat} {r q : Rho} {fs : List (Nat × V)} (w : ∀ p ∈ fs, p.1 < NF ∧ wf n p.2) (a : Agree n r q) : mF r fs = mF q fs :=
  List.map_congr_left fun p hp => by rw [mapV_eq (w p hp).2 a]
theorem ObjS.agree {G : Glo} {n : Nat} {r q : Rho} {H : Hp} {b : Addr} {o : O} (x : ObjS G r H b o) (w : wfO n o) (a : Agree n r q) : ObjS G q H b o := by
  cases o with
  | lst xs => exact (show H b = _ from x).trans (by rw [mapL_eq w a])
  | tup xs => exact (show H b = _ from x).trans (by rw [mapL_eq w a])
  | rdl xs =>
    have e := mapL_eq w a
    rcases x with ⟨od, x⟩ | x
    · exact .inl ⟨od, by rw [← e]; exact x⟩
    · exact .inr (by rw [← e]; exact x)
  | dK kvs => exact (show H b = _ from x).trans (by rw [mK_eq w a])
  | dT kvs => exact (show H b = _ from x).trans (by rw [mK_eq w a])
  | lkT kvs => exact (show H b = _ from x).trans (by rw [mK_eq w a, a.f])
  | ins c fs =>
    obtain ⟨dx, x⟩ := x
    exact ⟨dx, x.trans (by rw [mF_eq w a])⟩
  | set _ => exact x
/-- kinds -/
def kd : HO → Nat
  | .lst _ => 0 | .tup _ => 1 | .dK _ => 2 | .dT _ => 3 | .set _ _ => 4 | .ins _ _ _ => 5 | .own _ => 6 | .xd _ => 7 | .met _ _ => 8 | .rng _ _ => 9
  | .frz _ (.lst _) => 10 | .frz _ (.dT _) => 11 | .frz _ _ => 12 | .tbl _ => 13 | .ext _ => 14
def kdO : O → Nat
  | .lst _ => 0 | .tup _ => 1 | .rdl _ => 10 | .dK _ => 2 | .dT _ => 3 | .lkT _ => 11 | .ins _ _ => 5 | .set _ => 14
theorem ObjS.kind {G : Glo} {r : Rho} {H : Hp} {b : Addr} {o : O} (x : ObjS G r H b o) (m : mu o = true ∨ ∃ xs, o = .tup xs) : ∃ u, H b = some u ∧ kd u = kdO o := by
  cases o with
  | lst xs => exact ⟨_, x, rfl⟩
  | tup xs => exact ⟨_, x, rfl⟩
  | rdl xs => rcases m with m | ⟨_, m⟩ <;> cases m
  | dK kvs => exact ⟨_, x, rfl⟩
  | dT kvs => exact ⟨_, x, rfl⟩
  | lkT kvs => exact ⟨_, x, rfl⟩
  | ins c fs =>
    obtain ⟨dx, x⟩ := x
    exact ⟨_, x, rfl⟩
  | set _ => exact ⟨_, x, rfl⟩
/-- another heap that holds the same there -/
theorem ObjS.at {G : Glo} {r : Rho} {H H' : Hp} {b : Addr} {o : O} (x : ObjS G r H b o) (e : ∀ u, H b = some u → H' b = some u) : ObjS G r H' b o := by
  cases o with
  | lst xs => exact e _ x
  | tup xs => exact e _ x
  | rdl xs =>
    rcases x with ⟨od, x⟩ | x
    · exact .inl ⟨od, e _ x⟩
    · exact .inr x
  | dK kvs => exact e _ x
  | dT kvs => exact e _ x
  | lkT kvs => exact e _ x
  | ins c fs =>
    obtain ⟨dx, x⟩ := x
    exact ⟨dx, e _ x⟩
  | set _ => exact e _ x

structure Sim (G : Glo) (r : Rho) (h : Hs) (H : Hp) : Prop where
  obj : ∀ (i : Nat) (o : O), h[i]? = some o → ObjS G r H (r i) o ∧ wfO h.length o
  inj : ∀ (i j : Nat) (o u : O), h[i]? = some o → h[j]? = some u → mu o = true → mu u = true → r i = r j → i = j

section
variable {G : Glo} {r : Rho} {h : Hs} {H : Hp}
theorem lt_of_get {A : Type} {l : List A} {i : Nat} {o : A} (e : l[i]? = some o) : i < l.length := (List.getElem?_eq_some_iff.mp e).1
/-- one object is changed -/
theorem Sim.set {i : Nat} {o o' : O} {u : HO} (S : Sim G r h H) (e : h[i]? = some o) (m : mu o = true) (m' : mu o' = true) (w : wfO h.length o') (x : ObjS G r (upd H (r i) u) (r i) o') : Sim G r (h.set i o') (upd H (r i) u) := by
  have hi := lt_of_get e
  obtain ⟨v, hv, kv⟩ := (S.obj i o e).1.kind (.inl m)
  refine ⟨fun j p ep => ?_, fun j k p q ep eq mp mq ejk => ?_⟩
  · rw [List.length_set]
    by_cases hj : i = j
    · subst hj
      rw [List.getElem?_set_self hi] at ep
      cases ep
      exact ⟨x, w⟩
    · rw [List.getElem?_set_ne hj] at ep
      obtain ⟨xp, wp⟩ := S.obj j p ep
      refine ⟨?_, wp⟩
      by_cases hb : r j = r i
      · by_cases mp : mu p = true
        · exact absurd (S.inj i j o p e ep m mp hb.symm) hj
        · cases p with
          | tup xs =>
            have xp' : H (r j) = some (.tup (mapL r xs)) := xp
            rw [hb, hv] at xp'
            cases xp'
            cases o <;> first | (cases m; done) | (simp [kd, kdO] at kv)
          | rdl xs =>
            rcases xp with ⟨od, xp⟩ | xp
            · rw [hb, hv] at xp
              cases xp
              cases o <;> first | (cases m; done) | (simp [kd, kdO] at kv)
            · exact .inr xp
          | _ => exact absurd rfl mp
      · exact xp.at fun z hz => by rw [upd_ne hb]; exact hz
  · have key : ∀ (l : Nat) (z : O), (h.set i o')[l]? = some z → mu z = true → ∃ z', h[l]? = some z' ∧ mu z' = true := by
      intro l z ez mz
      by_cases hl : i = l
      · subst hl; exact ⟨o, e, m⟩
      · rw [List.getElem?_set_ne hl] at ez
        exact ⟨z, ez, mz⟩
    obtain ⟨p', ep', mp'⟩ := key j p ep mp
    obtain ⟨q', eq', mq'⟩ := key k q eq mq
    exact S.inj j k p' q' ep' eq' mp' mq' ejk
/-- the map with one more address -/
def ext (r : Rho) (n : Nat) (p : Addr) : Rho := ⟨fun k => if k = n then p else r k, r.F⟩
theorem ext_agree {n : Nat} {p : Addr} : Agree n r (ext r n p) := ⟨fun i hi => (if_neg (Nat.ne_of_lt hi)).symm, rfl⟩
theorem ext_self {n : Nat} {p : Addr} : ext r n p n = p := if_pos rfl
/-- a new object -/
theorem Sim.alloc {H' : Hp} {p : Addr} {o : O} (S : Sim G r h H) (n : H p = none) (e : Same H H') (x : ObjS G (ext r h.length p) H' p o) (w : wfO (h.length + 1) o) : Sim G (ext r h.length p) (h ++ [o]) H' := by
  have old : ∀ (i : Nat) (u : O), (h ++ [o])[i]? = some u → (i < h.length ∧ h[i]? = some u) ∨ (i = h.length ∧ u = o) := by
    intro i u eu
    rcases Nat.lt_trichotomy i h.length with hl | hl | hl
    · rw [List.getElem?_append_left hl] at eu
      exact .inl ⟨hl, eu⟩
    · subst hl
      rw [List.getElem?_append_right (Nat.le_refl _), Nat.sub_self] at eu
      exact .inr ⟨rfl, (Option.some.inj eu).symm⟩
    · have := lt_of_get eu
      rw [List.length_append, List.length_singleton] at this
      omega
  have ne : ∀ (i : Nat) (u : O), h[i]? = some u → mu u = true → r i ≠ p := fun i u eu m z => by
    obtain ⟨v, hv, _⟩ := (S.obj i u eu).1.kind (.inl m)
    rw [z, n] at hv
    cases hv
  refine ⟨fun i u eu => ?_, fun i j u v eu ev mu' mv eij => ?_⟩
  · rw [List.length_append, List.length_singleton]
    rcases old i u eu with ⟨hl, eu⟩ | ⟨rfl, rfl⟩
    · obtain ⟨a, b⟩ := S.obj i u eu
      have hr : ext r h.length p i = r i := (ext_agree i hl).symm
      rw [hr]
      exact ⟨(a.agree b ext_agree).at fun z hz => e _ _ hz, b.mono (Nat.le_succ _)⟩
    · rw [ext_self]
      exact ⟨x, w⟩
  · rcases old i u eu with ⟨hi, eu1⟩ | ⟨hi, hu⟩
    · rcases old j v ev with ⟨hj, ev1⟩ | ⟨hj, hv⟩
      · rw [← ext_agree i hi, ← ext_agree j hj] at eij
        exact S.inj i j u v eu1 ev1 mu' mv eij
      · rw [← ext_agree i hi, hj, ext_self] at eij
        exact absurd eij (ne i u eu1 mu')
    · rcases old j v ev with ⟨hj, ev1⟩ | ⟨hj, hv⟩
      · rw [← ext_agree j hj, hi, ext_self] at eij
        exact absurd eij.symm (ne j v ev1 mv)
      · rw [hi, hj]
theorem same_upd {p : Addr} {u : HO} (n : H p = none) : Same H (upd H p u) := fun b o e => by
  rw [upd_ne (ne_of_none e n)]
  exact e
end
end Ck
/-! Ck3: readings that are runs; names, operators. -/
namespace Ck
open PySem L2

structure Rl (G : Glo) (r : Rho) (s : Sts) (h : Hs) (σ : St) (H : Hp) : Prop where
  sim : Sim G r h H
  st : σ = mapS r s
  ws : ∀ (i : Nat) (v : V), s[i]? = some (some v) → wf h.length v
section
variable {G : Glo} {E : XK} {r q : Rho} {s : Sts} {h h' : Hs} {σ : St} {H H' : Hp}
theorem mapS_eq {n : Nat} (w : ∀ (i : Nat) (v : V), s[i]? = some (some v) → wf n v) (a : Agree n r q) : mapS r s = mapS q s := by
  refine List.map_congr_left fun x hx => ?_
  cases x with
  | none => rfl
  | some v =>
    obtain ⟨i, hi⟩ := List.getElem?_of_mem hx
    show some (mapV r v) = some (mapV q v)
    rw [mapV_eq (w i v hi) a]
theorem Rl.next (R : Rl G r s h σ H) (a : Agree h.length r q) (l : h.length ≤ h'.length) (S : Sim G q h' H') : Rl G q s h' σ H' :=
  ⟨S, R.st.trans (mapS_eq R.ws a), fun i v e => (R.ws i v e).mono l⟩
/-- what is wanted of a run's end -/
def Out {A : Type} (G : Glo) (E : XK) (W : Nat → A → Prop) (r : Rho) (n : Nat) (x : R A) (k : Rho → A → Hs → Hp → Prop) : Prop := match x with
  | .ok a h' => ∀ q H', Agree n r q → n ≤ h'.length → Sim G q h' H' → W h'.length a → k q a h' H'
  | .ex c h' => ∀ q H', Agree n r q → n ≤ h'.length → Sim G q h' H' → E (.ref (G.exc c)) none H'
  | .no => False
variable {A B : Type} {WA : Nat → A → Prop} {WB : Nat → B → Prop} {n m : Nat} {x : R A} {f : A → Hs → R B}
theorem Out.mono {k : Rho → A → Hs → Hp → Prop} (o : Out G E WA r n x k) (a : Agree n r q) (l : n ≤ m) : Out G E WA q m x k := by
  cases x with
  | ok b h' => exact fun t H' a' l' S w => o t H' (a.trans l a') (Nat.le_trans l l') S w
  | ex c h' => exact fun t H' a' l' S => o t H' (a.trans l a') (Nat.le_trans l l') S
  | no => exact o
theorem Out.bind {k : Rho → B → Hs → Hp → Prop} (o : Out G E WB r n (x.bind f) k) : Out G E WA r n x fun q a h' _ => Out G E WB q h'.length (f a h') k := by
  cases x with
  | ok b h' => exact fun t H' a l S w => Out.mono o a l
  | ex c h' => exact o
  | no => exact o
theorem Out.imp {k k' : Rho → A → Hs → Hp → Prop} (o : Out G E WA r n x k) (i : ∀ q a h' H', Agree n r q → n ≤ h'.length → Sim G q h' H' → WA h'.length a → k q a h' H' → k' q a h' H') : Out G E WA r n x k' := by
  cases x with
  | ok b h' => exact fun t H' a l S w => i t b h' H' a l S w (o t H' a l S w)
  | ex c h' => exact o
  | no => exact o
theorem Out.ok {k : Rho → A → Hs → Hp → Prop} {a : A} (o : Out G E WA r n (.ok a h) k) (l : n ≤ h.length) (S : Sim G r h H) (w : WA h.length a) : k r a h H := o r H Agree.refl l S w
theorem Out.ofOpt {k : Rho → A → Hs → Hp → Prop} {a : Option A} (o : Out G E WA r n (R.ofOpt h a) k) : ∃ b, a = some b ∧ Out G E WA r n (.ok b h) k := by
  cases a with
  | none => exact o.elim
  | some b => exact ⟨b, rfl, o⟩
theorem Out.ofOptB {k : Rho → B → Hs → Hp → Prop} {a : Option A} (o : Out G E WB r n ((R.ofOpt h a).bind f) k) : ∃ b, a = some b ∧ Out G E WB r n (f b h) k := by
  cases a with
  | none => exact o.elim
  | some b => exact ⟨b, rfl, o⟩

/-- the reading of an expression, of arguments, of a test: its run -/
def semE (G : Glo) (E : XK) (e : Ex) : TE := fun σ H Q => ∃ n r s h, Rl G r s h σ H ∧ Out G E wf r h.length ((evs G.P n).e e s h) fun q v _ H' => Q (mapV q v) H'
def semA (G : Glo) (E : XK) (es : Exs) : TA := fun σ H Q => ∃ n r s h, Rl G r s h σ H ∧ Out G E wfL r h.length (evL (fun e h => (evs G.P n).e e s h) es h) fun q vs _ H' => Q (mapL q vs) H'
def semT (G : Glo) (E : XK) (e : Ex) : TT := fun σ H Q => ∃ n r s h, Rl G r s h σ H ∧ Out G E wf r h.length ((evs G.P n).e e s h) fun _ v _ H' => ∃ b, v = .bl b ∧ Q b H'
theorem toE {Q : VK} {e : Ex} {k : Rho → V → Hs → Hp → Prop} (R : Rl G r s h σ H) (o : Out G E wf r h.length ((evs G.P n).e e s h) k)
    (i : ∀ q v h' H', Agree h.length r q → h.length ≤ h'.length → Sim G q h' H' → wf h'.length v → k q v h' H' → Q (mapV q v) H') : semE G E e σ H Q := ⟨n, r, s, h, R, o.imp i⟩
theorem toA {Q : List V → Hp → Prop} {es : Exs} {k : Rho → List V → Hs → Hp → Prop} (R : Rl G r s h σ H) (o : Out G E wfL r h.length (evL (fun e h => (evs G.P n).e e s h) es h) k)
    (i : ∀ q v h' H', Agree h.length r q → h.length ≤ h'.length → Sim G q h' H' → wfL h'.length v → k q v h' H' → Q (mapL q v) H') : semA G E es σ H Q := ⟨n, r, s, h, R, o.imp i⟩
theorem toT {Q : Bool → Hp → Prop} {e : Ex} {k : Rho → V → Hs → Hp → Prop} (R : Rl G r s h σ H) (o : Out G E wf r h.length ((evs G.P n).e e s h) k)
    (i : ∀ q v h' H', Agree h.length r q → h.length ≤ h'.length → Sim G q h' H' → wf h'.length v → k q v h' H' → ∃ b, v = .bl b ∧ Q b H') : semT G E e σ H Q := ⟨n, r, s, h, R, o.imp i⟩
/-- a run has turns -/
theorem Out.succ {k : Rho → V → Hs → Hp → Prop} {e : Ex} (o : Out G E wf r m ((evs G.P n).e e s h) k) : ∃ l, n = l + 1 ∧ Out G E wf r m (stepE G.P l (evs G.P l) e s h) k := by
  cases n with
  | zero => exact o.elim
  | succ l => exact ⟨l, rfl, o⟩
theorem Out.succS {k : Rho → Rs → Hs → Hp → Prop} {WR : Nat → Rs → Prop} {e : Stm} (o : Out G E WR r m ((evs G.P n).s e s h) k) : ∃ l, n = l + 1 ∧ Out G E WR r m (stepS G.P l (evs G.P l) e s h) k := by
  cases n with
  | zero => exact o.elim
  | succ l => exact ⟨l, rfl, o⟩
end

section
variable {X : Cx} {G : Glo} {E : XK} {ea eb ec : Expr} {a b c : Ex} {pos : Pos}
theorem PE.weak {e : Expr} {t t' : TE} (p : PE X e t) (i : ∀ σ H Q, t' σ H Q → t σ H Q) : PE X e t' := ⟨fun pins s σ H Q I h => p.run pins s σ H Q I (i σ H Q h)⟩
theorem PT.weak {e : Expr} {t t' : TT} (p : PT X e t) (i : ∀ σ H Q, t' σ H Q → t σ H Q) : PT X e t' := ⟨fun pins s σ H Q I h => p.run pins s σ H Q I (i σ H Q h)⟩
theorem PW.weak {e : Expr} {t t' : TT} (p : PW X e t) (i : ∀ σ H Q, t' σ H Q → t σ H Q) : PW X e t' := ⟨fun wh pins s σ H Q I h => p.run wh pins s σ H Q I (i σ H Q h)⟩
theorem PA.weak {e : List Expr} {t t' : TA} (p : PA X e t) (i : ∀ σ H Q, t' σ H Q → t σ H Q) : PA X e t' := ⟨fun po pins s σ H Q I h => p.run po pins s σ H Q I (i σ H Q h)⟩
theorem PS.weak {e : Stmt} {t t' : TS} (p : PS X e t) (i : ∀ D σ H, t' D σ H → t D σ H) : PS X e t' := ⟨fun pins s σ H D I h => p.run pins s σ H D I (i D σ H h)⟩
theorem PSs.weak {e : List Stmt} {t t' : TS} (p : PSs X e t) (i : ∀ D σ H, t' D σ H → t D σ H) : PSs X e t' := ⟨fun pins s σ H D I h => p.run pins s σ H D I (i D σ H h)⟩

theorem mapS_get {r : Rho} {s : Sts} {i : Nat} {v : V} (e : s[i]? = some (some v)) : (mapS r s)[i]? = some (some (mapV r v)) := by
  unfold mapS
  rw [List.getElem?_map, e]
  rfl
theorem d_var (i : Nat) {x : Str} (hN : X.N[i]? = some x := by rfl) (hv : Vis X.env.scope x := by first | exact Or.inl rfl | exact Or.inr (Or.inl rfl) | exact Or.inr (Or.inr rfl)) (hd : (x == ("__debug__" : Str)) = false := by decide)
    (hcd : (x == ("__classdict__" : Str)) = false := by decide) : PE X (.Name x pos) (semE G E (.var i)) :=
  PE.weak (pe_var hN hv hd hcd) fun σ H Q ⟨n, r, s, h, R, o⟩ => by
    obtain ⟨l, rfl, o⟩ := o.succ
    have o' : Out G E wf r h.length (match s[i]? with | some (some v) => Ck.R.ok v h | _ => .no) _ := o
    cases e : s[i]? with
    | none =>
      rw [e] at o'
      exact o'.elim
    | some u =>
      cases u with
      | none =>
        rw [e] at o'
        exact o'.elim
      | some v =>
        rw [e] at o'
        refine ⟨mapV r v, ?_, o'.ok (Nat.le_refl _) R.sim (R.ws i v e)⟩
        rw [R.st]
        exact mapS_get e
theorem sem_cst {v : V} {σ : St} {H : Hp} {Q : VK} (hm : ∀ r, mapV r v = v) (x : semE G E (.cst v) σ H Q) : Q v H := by
  obtain ⟨n, r, s, h, R, o⟩ := x
  obtain ⟨l, rfl, o⟩ := o.succ
  have o' : Out G E wf r h.length (Ck.R.ok v h) _ := o
  have w : wf h.length v := by
    cases v with
    | ref a =>
      have h1 := hm ⟨fun _ => a + 1, fun _ => default⟩
      have h2 : V.ref (a + 1) = V.ref a := h1
      exact absurd (V.ref.inj h2) (Nat.succ_ne_self a)
    | _ => trivial
  have := o'.ok (Nat.le_refl _) R.sim w
  rw [hm r] at this
  exact this
theorem d_int {i : Int} {j} : PE X (.Constant (.int i) j pos) (semE G E (.cst (.int i))) := PE.weak pe_int fun _ _ _ x => sem_cst (fun _ => rfl) x
theorem d_bl {i : Bool} {j} : PE X (.Constant (.bool i) j pos) (semE G E (.cst (.bl i))) := PE.weak pe_bl fun _ _ _ x => sem_cst (fun _ => rfl) x
theorem d_str {i : Str} {j} : PE X (.Constant (.str i) j pos) (semE G E (.cst (.str i))) := PE.weak pe_str fun _ _ _ x => sem_cst (fun _ => rfl) x
theorem d_non {j} : PE X (.Constant .none j pos) (semE G E (.cst .non)) := PE.weak pe_non fun _ _ _ x => sem_cst (fun _ => rfl) x

/-! ### two operands -/
/-- a two-place operation of the machine, by the layer's rule -/
def P2 (G : Glo) (o : Op2) (t : R2) : Prop := ∀ (E : XK) (r : Rho) (h : Hs) (H : Hp) (x y : V) (Q : VK), Sim G r h H → wf h.length x → wf h.length y →
  Out G E wf r h.length (prim2 o x y h) (fun q v _ H' => Q (mapV q v) H') → t (mapV r x) (mapV r y) H Q
theorem sem_op2 {o : Op2} {t : R2} (p : P2 G o t) {σ : St} {H : Hp} {Q : VK} (x : semE G E (.op2 o a b) σ H Q) : tOp t (semE G E a) (semE G E b) σ H Q := by
  obtain ⟨n, r, s, h, R, o⟩ := x
  obtain ⟨l, rfl, o⟩ := o.succ
  refine toE R (Out.bind o) fun q1 x h1 H1 a1 l1 S1 w1 o1 => ?_
  have R1 := R.next a1 l1 S1
  refine toE R1 (Out.bind o1) fun q2 y h2 H2 a2 l2 S2 w2 o2 => ?_
  rw [mapV_eq w1 a2]
  exact p E q2 h2 H2 x y Q S2 (w1.mono l2) w2 o2
theorem d_bin {o : Op2} {op : Operator} {t : R2} (p : P2 G o t) (ho : OpR X (binaryOp op) t) (ha : PE X ea (semE G E a)) (hb : PE X eb (semE G E b)) : PE X (.BinOp ea op eb pos) (semE G E (.op2 o a b)) :=
  PE.weak (pe_op ho ha hb) fun _ _ _ x => sem_op2 p x
theorem d_cmp {o : Op2} {op : CmpOp} {t : R2} (p : P2 G o t) (ho : OpR X (compareOp op) t) (hm : behindInMarks op eb = false) (ha : PE X ea (semE G E a)) (hb : PE X eb (semE G E b)) : PE X (.Compare ea [op] [eb] pos) (semE G E (.op2 o a b)) :=
  PE.weak (pe_cmpR ho ha hb hm) fun _ _ _ x => sem_op2 p x
theorem sem_test {e : Ex} {σ : St} {H : Hp} {Q : Bool → Hp → Prop} (x : semT G E e σ H Q) : semE G E e σ H fun v H' => ∃ k, v = .bl k ∧ Q k H' := by
  obtain ⟨n, r, s, h, R, o⟩ := x
  refine toE R o fun q v h' H' _ _ _ _ ⟨b, e, k⟩ => ?_
  subst e
  exact ⟨b, rfl, k⟩
theorem d_cmpT {o : Op2} {op : CmpOp} {t : R2} (p : P2 G o t) (ho : OpR X (compareOp op) t) (hm : behindInMarks op eb = false) (ha : PE X ea (semE G E a)) (hb : PE X eb (semE G E b)) : PT X (.Compare ea [op] [eb] pos) (semT G E (.op2 o a b)) :=
  PT.weak (pt_cmpR ho ha hb hm) fun _ _ _ x => sem_op2 p (sem_test x)
/-- any expression as a test -/
theorem d_tv (ha : PE X ea (semE G E a)) (he : ∀ whole, isTrue ea X.env whole = (do let v ← whole; standAt ea.pos; holding [v] (truthy v)) := by intro _; rfl) : PT X ea (semT G E a) :=
  PT.weak (pt_val ha he) fun _ _ _ x => sem_test x
end
end Ck
/-! Ck4: operators. -/
namespace Ck
open PySem L2

section
variable {G : Glo} {E : XK} {r q : Rho} {s : Sts} {h h' : Hs} {σ : St} {H H' : Hp} {n m : Nat}
theorem lstAt_ok {a : Nat} {xs : List V} (S : Sim G r h H) (e : lstAt h a = some xs) : SqL G.K H (r a) (mapL r xs) ∧ wfL h.length xs := by
  unfold lstAt at e
  split at e
  · rename_i ys e1
    cases e
    obtain ⟨x, w⟩ := S.obj a _ e1
    exact ⟨SqL.of x, w⟩
  · rename_i ys e1
    cases e
    obtain ⟨x, w⟩ := S.obj a _ e1
    refine ⟨?_, w⟩
    rcases x with ⟨od, x⟩ | x
    · exact .inl (.inr ⟨od, x⟩)
    · exact .inr x
  · cases e
theorem tupAt_ok {a : Nat} {xs : List V} (S : Sim G r h H) (e : tupAt h a = some xs) : SqT G.K H (r a) (mapL r xs) ∧ wfL h.length xs := by
  unfold tupAt at e
  split at e
  · rename_i ys e1
    cases e
    obtain ⟨x, w⟩ := S.obj a _ e1
    exact ⟨SqT.of x, w⟩
  · cases e
theorem tupAt_raw {a : Nat} {xs : List V} (S : Sim G r h H) (e : tupAt h a = some xs) : H (r a) = some (.tup (mapL r xs)) := by
  unfold tupAt at e
  split at e
  · rename_i ys e1
    cases e
    exact (S.obj a _ e1).1
  · cases e
theorem seqAt_ok {a : Nat} {xs : List V} (S : Sim G r h H) (e : seqAt h a = some xs) : (SqL G.K H (r a) (mapL r xs) ∨ SqT G.K H (r a) (mapL r xs)) ∧ wfL h.length xs := by
  unfold seqAt at e
  split at e
  · rename_i ys e1
    have : lstAt h a = some ys := by unfold lstAt; rw [e1]
    cases e
    obtain ⟨x, w⟩ := lstAt_ok S this
    exact ⟨.inl x, w⟩
  · rename_i ys e1
    have : lstAt h a = some ys := by unfold lstAt; rw [e1]
    cases e
    obtain ⟨x, w⟩ := lstAt_ok S this
    exact ⟨.inl x, w⟩
  · rename_i ys e1
    have : tupAt h a = some ys := by unfold tupAt; rw [e1]
    cases e
    obtain ⟨x, w⟩ := tupAt_ok S this
    exact ⟨.inr x, w⟩
  · cases e
theorem SZ_line {n : Nat} (h : n ≤ SZ) : n ≤ sizeLine := Nat.le_trans h (by decide)
theorem SZ_lt {n : Nat} (h : n < SZ) : n < sizeLine := Nat.lt_trans h (by decide)
theorem len1 {o : O} : (h ++ [o]).length = h.length + 1 := by rw [List.length_append, List.length_singleton]
/-- a new list -/
theorem Out.newL {k : Rho → V → Hs → Hp → Prop} {xs : List V} (o : Out G E wf r n (new h (.lst xs)) k) (l : n ≤ h.length) (S : Sim G r h H) (w : wfL h.length xs) :
    ∀ p, H p = none → k (ext r h.length p) (.ref h.length) (h ++ [.lst xs]) (upd H p (.lst (mapL r xs))) := fun p hp => by
  have S' : Sim G (ext r h.length p) (h ++ [.lst xs]) (upd H p (.lst (mapL r xs))) := S.alloc hp (same_upd hp) (by
    show upd H p _ p = _
    rw [upd_same, mapL_eq w ext_agree]) (wfL.mono w (Nat.le_succ _))
  exact o _ _ ⟨fun i hi => ext_agree i (Nat.lt_of_lt_of_le hi l), rfl⟩ (by rw [len1]; omega) S' (by show h.length < _; rw [len1]; omega)
theorem Out.newT {k : Rho → V → Hs → Hp → Prop} {xs : List V} (o : Out G E wf r n (new h (.tup xs)) k) (l : n ≤ h.length) (S : Sim G r h H) (w : wfL h.length xs) :
    ∀ p, H p = none → k (ext r h.length p) (.ref h.length) (h ++ [.tup xs]) (upd H p (.tup (mapL r xs))) := fun p hp => by
  have S' : Sim G (ext r h.length p) (h ++ [.tup xs]) (upd H p (.tup (mapL r xs))) := S.alloc hp (same_upd hp) (by
    show upd H p _ p = _
    rw [upd_same, mapL_eq w ext_agree]) (wfL.mono w (Nat.le_succ _))
  exact o _ _ ⟨fun i hi => ext_agree i (Nat.lt_of_lt_of_le hi l), rfl⟩ (by rw [len1]; omega) S' (by show h.length < _; rw [len1]; omega)
theorem ext_ref {p : Addr} : mapV (ext r h.length p) (.ref h.length) = .ref p := by
  show V.ref _ = V.ref _
  rw [ext_self]
theorem wfL.app {xs ys : List V} (a : wfL n xs) (b : wfL n ys) : wfL n (xs ++ ys) := fun v hv => (List.mem_append.mp hv).elim (a v) (b v)
theorem mapL_app {xs ys : List V} : mapL r (xs ++ ys) = mapL r xs ++ mapL r ys := List.map_append
theorem mapL_nil_iff {xs : List V} : mapL r xs = [] ↔ xs = [] := List.map_eq_nil_iff
end

/-! ### + -/
def rAdd2 (K : PySem.W.Frag) : R2 := fun x y H Q => rI0 (fun i j => .int (i + j)) x y H Q ∨ (rCat x y H Q ∨ rCatA K x y H Q)
theorem op_add2 {X : Cx} : OpR X (binaryOp .Add) (rAdd2 X.K) := OpR.or op_add (OpR.or op_cat op_catA)
theorem p_add {G : Glo} : P2 G .add (rAdd2 G.K) := by
  intro E r h H x y Q S wx wy o
  change Out G E wf r h.length (opAdd x y h) _ at o
  unfold opAdd at o
  split at o
  · exact .inl ⟨_, _, rfl, rfl, o.ok (Nat.le_refl _) S trivial⟩
  · rename_i a b
    split at o
    · rename_i xs ys ex ey
      split at o
      · rename_i hz
        obtain ⟨sx, wxs⟩ := S.obj a _ ex
        obtain ⟨sy, wys⟩ := S.obj b _ ey
        refine .inr (.inl ⟨r a, r b, mapL r xs, mapL r ys, rfl, rfl, sx, sy, ?_, fun p hp => ?_⟩)
        · rw [mapL_length, mapL_length]; exact SZ_line hz
        · have := o.newL (Nat.le_refl _) S (wfL.app wxs wys) p hp
          rw [ext_ref, mapL_app] at this
          exact this
      · exact False.elim o
    · rename_i xs ys ex ey
      split at o
      · rename_i hz
        obtain ⟨sx, wxs⟩ := S.obj a _ ex
        obtain ⟨sy, wys⟩ := S.obj b _ ey
        refine .inr (.inr ⟨r a, r b, mapL r xs, mapL r ys, rfl, rfl, SqT.of sx, SqT.of sy, ?_, fun e => ?_, fun e1 e2 => ?_, fun e1 e2 p hp => ?_⟩)
        · rw [mapL_length, mapL_length]; exact SZ_line hz
        · rw [mapL_nil_iff.mp e] at o
          exact o.ok (Nat.le_refl _) S wy
        · have n1 : xs.isEmpty = false := by
            cases xs with
            | nil => exact absurd rfl e1
            | cons _ _ => rfl
          rw [n1, mapL_nil_iff.mp e2] at o
          exact o.ok (Nat.le_refl _) S wx
        · have n1 : xs.isEmpty = false := by
            cases xs with
            | nil => exact absurd rfl e1
            | cons _ _ => rfl
          have n2 : ys.isEmpty = false := by
            cases ys with
            | nil => exact absurd rfl e2
            | cons _ _ => rfl
          rw [n1, n2] at o
          have := Out.newT (xs := xs ++ ys) o (Nat.le_refl _) S (wfL.app wxs wys) p hp
          rw [ext_ref, mapL_app] at this
          exact this
      · exact False.elim o
    · exact False.elim o
  · exact False.elim o

/-! ### numbers -/
theorem p_sub {G : Glo} : P2 G .sub (rI0 fun i j => .int (i - j)) := by
  intro E r h H x y Q S wx wy o
  cases x <;> cases y <;> first
    | exact ⟨_, _, rfl, rfl, Out.ok o (Nat.le_refl _) S trivial⟩
    | exact False.elim o
def rFdiv : R2 := rI CDiv fun i j => .int (i / j)
theorem p_fdiv {G : Glo} : P2 G .fdiv rFdiv := by
  intro E r h H x y Q S wx wy o
  cases x <;> cases y <;> first
    | (rename_i i j
       change Out G E wf r h.length (if (decide (0 < j) && decide (j < 1073741824)) = true then Ck.R.ok (.int (i / j)) h else .no) _ at o
       split at o
       · rename_i c
         rw [Bool.and_eq_true] at c
         exact ⟨_, _, rfl, rfl, ⟨of_decide_eq_true c.1, of_decide_eq_true c.2⟩, o.ok (Nat.le_refl _) S trivial⟩
       · exact False.elim o)
    | exact False.elim o
def rMod : R2 := rI (fun _ j => 0 < j) fun i j => .int (i % j)
theorem p_mod {G : Glo} : P2 G .mod rMod := by
  intro E r h H x y Q S wx wy o
  cases x <;> cases y <;> first
    | (rename_i i j
       change Out G E wf r h.length (if (decide (0 < j)) = true then Ck.R.ok (.int (i % j)) h else .no) _ at o
       split at o
       · rename_i c
         exact ⟨_, _, rfl, rfl, of_decide_eq_true c, o.ok (Nat.le_refl _) S trivial⟩
       · exact False.elim o)
    | exact False.elim o
def rPow : R2 := rI CPow fun i j => .int (i ^ j.toNat)
theorem p_pow {G : Glo} : P2 G .pow rPow := by
  intro E r h H x y Q S wx wy o
  cases x <;> cases y <;> first
    | (rename_i i j
       change Out G E wf r h.length (if (decide (0 ≤ j) && decide (j ≤ 1000) && decide (i.natAbs < 1000)) = true then Ck.R.ok (.int (i ^ j.toNat)) h else .no) _ at o
       split at o
       · rename_i c
         rw [Bool.and_eq_true, Bool.and_eq_true] at c
         have c1 := of_decide_eq_true c.1.1
         have c2 := of_decide_eq_true c.1.2
         have c3 := of_decide_eq_true c.2
         exact ⟨_, _, rfl, rfl, ⟨c1, by omega, by omega⟩, o.ok (Nat.le_refl _) S trivial⟩
       · exact False.elim o)
    | exact False.elim o
def rMul2 : R2 := fun x y H Q => rI IntMulOk (fun i j => .int (i * j)) x y H Q ∨ rRep x y H Q
theorem op_mul2 {X : Cx} : OpR X (binaryOp .Mult) rMul2 := OpR.or (opI fun _ _ _ _ _ _ _ hc q => PyProof.Rows.mul_int q hc) op_rep
theorem mulOk_ok {i j : Int} (h : mulOk i j = true) : IntMulOk i j := by
  have b : ∀ x : Int, Builtin.Int.intBits x ≤ x.natAbs.log2 + 1 := fun x => by
    unfold Builtin.Int.intBits
    split <;> omega
  have h1 := b i
  have h2 := b j
  have h3 : i.natAbs.log2 + j.natAbs.log2 < 100000000 := of_decide_eq_true h
  have e : bitsLine = 134217728 := by decide
  unfold IntMulOk
  intro z
  rw [Bool.and_eq_true] at z
  have z2 := z.2
  unfold Builtin.Int.intTooBig at z2
  have z3 := of_decide_eq_true z2
  rw [e] at z3
  omega
theorem p_mul {G : Glo} : P2 G .mul rMul2 := by
  intro E r h H x y Q S wx wy o
  change Out G E wf r h.length (opMul x y h) _ at o
  unfold opMul at o
  split at o
  · split at o
    · rename_i c
      exact .inl ⟨_, _, rfl, rfl, mulOk_ok c, o.ok (Nat.le_refl _) S trivial⟩
    · exact False.elim o
  · rename_i a k
    split at o
    · rename_i xs ex
      split at o
      · rename_i c
        rw [Bool.and_eq_true, Bool.and_eq_true] at c
        have c1 := of_decide_eq_true c.1.1
        have c2 := of_decide_eq_true c.1.2
        have c3 := of_decide_eq_true c.2
        obtain ⟨sx, wxs⟩ := S.obj a _ ex
        have wr : wfL h.length (List.replicate k.toNat xs).flatten := fun v hv => by
          obtain ⟨l, hl, hv⟩ := List.mem_flatten.mp hv
          rw [(List.mem_replicate.mp hl).2] at hv
          exact wxs v hv
        refine .inr ⟨r a, k, mapL r xs, rfl, rfl, sx, by omega, by omega, ?_, fun p hp => ?_⟩
        · rw [mapL_length]; exact SZ_line c3
        · have := o.newL (Nat.le_refl _) S wr p hp
          rw [ext_ref] at this
          have e : mapL r (List.replicate k.toNat xs).flatten = (List.replicate k.toNat (mapL r xs)).flatten := by
            unfold mapL
            rw [List.map_flatten, List.map_replicate]
          rw [e] at this
          exact this
      · exact False.elim o
    · exact False.elim o
  · exact False.elim o
theorem p_cmpI {G : Glo} {o : Op2} {p : Int → Int → Bool} (ho : ∀ x y h, prim2 o x y h = cmpI p x y h) : P2 G o (rI0 fun i j => .bl (p i j)) := by
  intro E r h H x y Q S wx wy o
  rw [ho] at o
  cases x <;> cases y <;> first
    | exact ⟨_, _, rfl, rfl, Out.ok o (Nat.le_refl _) S trivial⟩
    | exact False.elim o
theorem p_lt {G : Glo} : P2 G .lt (rI0 fun i j => .bl (decide (i < j))) := p_cmpI fun _ _ _ => rfl
theorem p_le {G : Glo} : P2 G .le (rI0 fun i j => .bl (decide (i ≤ j))) := p_cmpI fun _ _ _ => rfl
theorem p_gt {G : Glo} : P2 G .gt (rI0 fun i j => .bl (decide (j < i))) := p_cmpI fun _ _ _ => rfl

/-! ### >= of ints, of tuples of ints -/
def rGeT (K : PySem.W.Frag) : R2 := fun x y H Q => ∃ (a b : Addr) (ns ms : List Int), x = .ref a ∧ y = .ref b ∧ SqT K H a (ns.map V.int) ∧ SqT K H b (ms.map V.int) ∧ Q (.bl (geT ns ms)) H
open PySem.Spec PyProof.Rows in
theorem op_geT {X : Cx} (hu : X.A.units < cLine) : OpR X (compareOp .GtE) (rGeT X.K) := by
  intro pins s σ H x y v u Q I rx ry h
  obtain ⟨a, b, ns, ms, rfl, rfl, ha, hb, q⟩ := h
  cases rx
  cases ry
  obtain ⟨its, r1, p1, _⟩ := I.tuple ha
  obtain ⟨its2, r2, p2, _⟩ := I.tuple hb
  have i1 : IntsAre its ns := Vals.ints r1
  have i2 : IntsAre its2 ms := Vals.ints r2
  have e1 : its.toArray.size = ns.length := by rw [List.size_toArray]; exact i1.length
  have e2 : its2.toArray.size = ms.length := by rw [List.size_toArray]; exact i2.length
  have at1 : ∀ j (h1 : j < its.toArray.size), ∃ t, its.toArray[j] = .int (ns.getD j 0) t := fun j h1 => PyProof.Rows.IntsAre.int_at i1 _ _ (by simp at h1; simp [h1])
  have at2 : ∀ j (h1 : j < its2.toArray.size), ∃ t, its2.toArray[j] = .int (ms.getD j 0) t := fun j h1 => PyProof.Rows.IntsAre.int_at i2 _ _ (by simp at h1; simp [h1])
  have R := Ob.RcOp.tuples_ge (A := X.A) (s := s) (e := fun j => decide (ns.getD j 0 = ms.getD j 0)) (r := fun j => decide (ms.getD j 0 ≤ ns.getD j 0)) p1 p2 hu (fun j h1 h2 => by
    obtain ⟨t, et⟩ := at1 j h1
    obtain ⟨t', et'⟩ := at2 j h2
    rw [et, et']
    have z : (ns.getD j 0 == ms.getD j 0) = decide (ns.getD j 0 = ms.getD j 0) := by
      by_cases q : ns.getD j 0 = ms.getD j 0
      · rw [decide_eq_true q]; exact beq_iff_eq.mpr q
      · rw [decide_eq_false q]; exact beq_eq_false_iff_ne.mpr q
    rw [← z]
    exact SeqAt.EqAt.int_int _ _ _ _) (fun j h1 h2 _ => by
    obtain ⟨t, et⟩ := at1 j h1
    obtain ⟨t', et'⟩ := at2 j h2
    rw [et, et']
    exact Ob.RcOp.ge_int _ _ _ _)
  rw [e1, e2] at R
  have z : wpAny (model X.prog X.w) X.A (compareOp .GtE (.ref a) (.ref b)) (EP X pins σ Q) X.xe s := R X.prog X.w X.xe (EP X pins σ Q) ⟨.bl _, H, I, rfl, q⟩
  exact z
def rGe2 (K : PySem.W.Frag) : R2 := fun x y H Q => rI0 (fun i j => .bl (decide (j ≤ i))) x y H Q ∨ rGeT K x y H Q
theorem op_ge2 {X : Cx} (hu : X.A.units < cLine) : OpR X (compareOp .GtE) (rGe2 X.K) := OpR.or op_ge (op_geT hu)
theorem intsOf_ok : ∀ {xs : List V} {ns : List Int}, intsOf xs = some ns → xs = ns.map V.int
  | [], ns, e => by
    have e' : some [] = some ns := e
    cases e'
    rfl
  | x :: xs, ns, e => by
    unfold intsOf at e
    rw [List.mapM_cons] at e
    simp only [Option.bind_eq_bind, Option.bind_eq_some_iff, Option.pure_def, Option.some.injEq] at e
    obtain ⟨i, e1, l, e2, rfl⟩ := e
    have := intsOf_ok (xs := xs) e2
    subst this
    cases x <;> first | (cases e1; rfl) | cases e1
theorem mapL_ints {r : Rho} {ns : List Int} : mapL r (ns.map V.int) = ns.map V.int := by
  unfold mapL
  rw [List.map_map]
  rfl
theorem wfL_ints {n : Nat} {ns : List Int} : wfL n (ns.map V.int) := fun v hv => by
  obtain ⟨i, _, rfl⟩ := List.mem_map.mp hv
  trivial
theorem tupInts_ok {G : Glo} {r : Rho} {h : Hs} {H : Hp} {x : V} {ns : List Int} (S : Sim G r h H) (e : tupInts h x = some ns) : ∃ a, x = .ref a ∧ tupAt h a = some (ns.map V.int) ∧ SqT G.K H (r a) (ns.map V.int) := by
  cases x with
  | ref a =>
    have e : (tupAt h a).bind intsOf = some ns := e
    rw [Option.bind_eq_some_iff] at e
    obtain ⟨xs, e1, e2⟩ := e
    have := intsOf_ok e2
    subst this
    refine ⟨a, rfl, e1, ?_⟩
    have := (tupAt_ok S e1).1
    rw [mapL_ints] at this
    exact this
  | _ => cases e
theorem p_ge {G : Glo} : P2 G .ge (rGe2 G.K) := by
  intro E r h H x y Q S wx wy o
  change Out G E wf r h.length (opGe x y h) _ at o
  unfold opGe at o
  split at o
  · exact .inl ⟨_, _, rfl, rfl, o.ok (Nat.le_refl _) S trivial⟩
  · split at o
    · rename_i ns ms e1 e2
      obtain ⟨a, rfl, _, sa⟩ := tupInts_ok S e1
      obtain ⟨b, rfl, _, sb⟩ := tupInts_ok S e2
      exact .inr ⟨_, _, ns, ms, rfl, rfl, sa, sb, o.ok (Nat.le_refl _) S trivial⟩
    · exact False.elim o

/-! ### is -/
def rIs2 (f : Bool → Bool) : R2 := fun x y H Q => (∃ a b, x = .bl a ∧ y = .bl b ∧ Q (.bl (f (decide (a = b)))) H) ∨ (y = .non ∧ Q (.bl (f (decide (x = .non)))) H)
theorem op_is2 {X : Cx} : OpR X (compareOp .Is) (rIs2 fun b => b) := OpR.or op_is_bl op_isN
theorem op_isnot2 {X : Cx} : OpR X (compareOp .IsNot) (rIs2 fun b => !b) := OpR.or op_isnot_bl op_notN
theorem mapV_non {r : Rho} {x : V} : (mapV r x = .non) ↔ x = .non := by
  cases x <;> first | (constructor <;> intro e <;> first | rfl | cases e)
theorem p_isX {G : Glo} {o : Op2} {f : Bool → Bool} (ho : ∀ x y h, prim2 o x y h = (R.ofOpt h (opIs x y)).bind fun b h => .ok (.bl (f b)) h) : P2 G o (rIs2 f) := by
  intro E r h H x y Q S wx wy o
  rw [ho] at o
  obtain ⟨b, e, o⟩ := o.ofOptB
  have q := o.ok (Nat.le_refl _) S trivial
  unfold opIs at e
  split at e
  · cases e
    exact .inl ⟨_, _, rfl, rfl, q⟩
  · cases e
    refine .inr ⟨rfl, ?_⟩
    have : decide (mapV r x = V.non) = decide (x = V.non) := decide_eq_decide.mpr mapV_non
    rw [this]
    exact q
  · cases e
theorem p_is {G : Glo} : P2 G .is_ (rIs2 fun b => b) := p_isX fun _ _ _ => rfl
theorem p_isnot {G : Glo} : P2 G .isnot (rIs2 fun b => !b) := p_isX fun _ _ _ => rfl
end Ck
/-! Ck5: equality, in, subscripts. -/
namespace Ck
open PySem L2
section
variable {G : Glo} {E : XK} {r q : Rho} {s : Sts} {h h' : Hs} {σ : St} {H H' : Hp} {n m : Nat}
/-! ### data -/
theorem data_list {f : V → Option PyData} {k : Nat} : ∀ {xs : List V} {ds : List PyData}, xs.mapM f = some ds →
    (∀ v d, v ∈ xs → f v = some d → Dp G.K H (mapV r v) d ∧ d.canLay0 = true ∧ d.depth ≤ k) → DpAll G.K H (mapL r xs) ds ∧ PyData.canLayAll0 ds = true ∧ PyData.depthAll ds ≤ k
  | [], ds, e, _ => by
    rw [List.mapM_nil] at e
    cases e
    exact ⟨.nil, rfl, Nat.zero_le _⟩
  | x :: xs, ds, e, hf => by
    rw [List.mapM_cons] at e
    simp only [Option.bind_eq_bind, Option.bind_eq_some_iff, Option.pure_def, Option.some.injEq] at e
    obtain ⟨d, e1, l, e2, rfl⟩ := e
    obtain ⟨a, b, c⟩ := hf x d List.mem_cons_self e1
    obtain ⟨a', b', c'⟩ := data_list e2 fun v d hv => hf v d (List.mem_cons_of_mem _ hv)
    refine ⟨.cons a a', ?_, ?_⟩
    · simp only [PyData.canLayAll0, b, b', Bool.and_self]
    · simp only [PyData.depthAll]
      exact Nat.max_le.mpr ⟨c, c'⟩
theorem data_ok (S : Sim G r h H) : ∀ {n : Nat} {v : V} {d : PyData}, dataOf n h v = some d → Dp G.K H (mapV r v) d ∧ d.canLay0 = true ∧ d.depth ≤ n := by
  intro n
  induction n with
  | zero => intro v d e; cases e
  | succ n ih =>
    intro v d e
    unfold dataOf at e
    cases v with
    | non => cases e; exact ⟨.non, rfl, Nat.zero_le _⟩
    | bl b => cases e; exact ⟨.bl b, rfl, Nat.zero_le _⟩
    | int i => cases e; exact ⟨.int i, rfl, Nat.zero_le _⟩
    | str x =>
      simp only at e
      split at e
      · rename_i hx
        cases e
        exact ⟨.str x, by simp only [PyData.canLay0]; exact hx, Nat.zero_le _⟩
      · cases e
    | ref a =>
      simp only at e
      split at e
      · rename_i xs ex
        rw [Option.map_eq_some_iff] at e
        obtain ⟨ds, e1, rfl⟩ := e
        obtain ⟨a1, b1, c1⟩ := data_list (r := r) (H := H) (G := G) e1 fun v d _ hv => ih hv
        have : lstAt h a = some xs := by unfold lstAt; rw [ex]
        refine ⟨.lst (lstAt_ok S this).1 a1, by simp only [PyData.canLay0]; exact b1, ?_⟩
        simp only [PyData.depth]
        exact Nat.succ_le_succ c1
      · rename_i xs ex
        rw [Option.map_eq_some_iff] at e
        obtain ⟨ds, e1, rfl⟩ := e
        obtain ⟨a1, b1, c1⟩ := data_list (r := r) (H := H) (G := G) e1 fun v d _ hv => ih hv
        have : lstAt h a = some xs := by unfold lstAt; rw [ex]
        refine ⟨.lst (lstAt_ok S this).1 a1, by simp only [PyData.canLay0]; exact b1, ?_⟩
        simp only [PyData.depth]
        exact Nat.succ_le_succ c1
      · rename_i xs ex
        rw [Option.map_eq_some_iff] at e
        obtain ⟨ds, e1, rfl⟩ := e
        obtain ⟨a1, b1, c1⟩ := data_list (r := r) (H := H) (G := G) e1 fun v d _ hv => ih hv
        have : tupAt h a = some xs := by unfold tupAt; rw [ex]
        refine ⟨.tup (tupAt_ok S this).1 a1, by simp only [PyData.canLay0]; exact b1, ?_⟩
        simp only [PyData.depth]
        exact Nat.succ_le_succ c1
      · cases e
    | _ => cases e
theorem data_shaped (S : Sim G r h H) {v : V} {d : PyData} (e : dataOf DP h v = some d) : Dp G.K H (mapV r v) d ∧ SeqAt.shaped d = true := by
  obtain ⟨a, b, c⟩ := data_ok S e
  refine ⟨a, ?_⟩
  unfold SeqAt.shaped
  rw [b, Bool.true_and]
  have c' : d.depth ≤ 20 := c
  exact decide_eq_true (by omega)
theorem datas_shaped (S : Sim G r h H) {xs : List V} {ds : List PyData} (e : xs.mapM (dataOf DP h) = some ds) : DpAll G.K H (mapL r xs) ds ∧ SeqAt.shaped (.list ds) = true := by
  obtain ⟨a, b, c⟩ := data_list (r := r) (H := H) (G := G) e fun v d _ hv => data_ok S hv
  refine ⟨a, ?_⟩
  unfold SeqAt.shaped
  simp only [PyData.canLay0, PyData.depth, b, Bool.true_and]
  have c' : PyData.depthAll ds ≤ 20 := c
  exact decide_eq_true (by omega)
end
/-! ### ==, != -/
def rEq2 (K : PySem.W.Frag) (f : Bool → Bool) : R2 := fun x y H Q => (scal x y = true ∧ Q (.bl (f (decide (x = y)))) H) ∨
  ∃ d e, Dp K H x d ∧ Dp K H y e ∧ SeqAt.shaped d = true ∧ SeqAt.shaped e = true ∧ Q (.bl (f (PyData.eqv d e))) H
theorem op_eq2 {X : Cx} (hu : X.A.units + 64 < cLine) : OpR X (compareOp .Eq) (rEq2 X.K fun b => b) := OpR.or op_eq (op_eqD hu)
theorem op_ne2 {X : Cx} (hu : X.A.units + 64 < cLine) : OpR X (compareOp .NotEq) (rEq2 X.K fun b => !b) := OpR.or op_ne (op_neD hu)
theorem p_eqX {G : Glo} {o : Op2} {f : Bool → Bool} (ho : ∀ x y h, prim2 o x y h = (R.ofOpt h (eqD x y h)).bind fun b h => .ok (.bl (f b)) h) : P2 G o (rEq2 G.K f) := by
  intro E r h H x y Q S wx wy o
  rw [ho] at o
  obtain ⟨b, e, o⟩ := o.ofOptB
  have q := o.ok (Nat.le_refl _) S trivial
  unfold eqD at e
  split at e
  · rename_i i j
    cases e
    refine .inl ⟨rfl, ?_⟩
    have : decide (mapV r (V.int i) = mapV r (V.int j)) = decide (i = j) := decide_eq_decide.mpr ⟨fun z => V.int.inj z, fun z => by rw [z]⟩
    rw [this]
    exact q
  · rename_i i j
    cases e
    refine .inl ⟨rfl, ?_⟩
    have : decide (mapV r (V.bl i) = mapV r (V.bl j)) = decide (i = j) := decide_eq_decide.mpr ⟨fun z => V.bl.inj z, fun z => by rw [z]⟩
    rw [this]
    exact q
  · rename_i i j
    cases e
    refine .inl ⟨rfl, ?_⟩
    have : decide (mapV r (V.str i) = mapV r (V.str j)) = decide (i = j) := decide_eq_decide.mpr ⟨fun z => V.str.inj z, fun z => by rw [z]⟩
    rw [this]
    exact q
  · split at e
    · rename_i d1 d2 e1 e2
      cases e
      obtain ⟨a1, b1⟩ := data_shaped S e1
      obtain ⟨a2, b2⟩ := data_shaped S e2
      exact .inr ⟨d1, d2, a1, a2, b1, b2, q⟩
    · cases e
theorem p_eq {G : Glo} : P2 G .eq (rEq2 G.K fun b => b) := p_eqX fun _ _ _ => rfl
theorem p_ne {G : Glo} : P2 G .ne (rEq2 G.K fun b => !b) := p_eqX fun _ _ _ => rfl

/-! ### dicts asked -/
theorem keyV_ok {y : V} {k : Key} (e : keyV y = some k) : y = kV k := by
  cases y <;> first | (cases e; rfl) | cases e
theorem keysV_ok : ∀ {xs : List V} {ks : List Key}, keysV xs = some ks → xs = ks.map kV
  | [], ks, e => by
    have e' : some [] = some ks := e
    cases e'
    rfl
  | x :: xs, ks, e => by
    unfold keysV at e
    rw [List.mapM_cons] at e
    simp only [Option.bind_eq_bind, Option.bind_eq_some_iff, Option.pure_def, Option.some.injEq] at e
    obtain ⟨i, e1, l, e2, rfl⟩ := e
    have := keysV_ok (xs := xs) e2
    subst this
    rw [keyV_ok e1]
    rfl
theorem mapL_keys {r : Rho} {ks : List Key} : mapL r (ks.map kV) = ks.map kV := by
  unfold mapL
  rw [List.map_map]
  exact List.map_congr_left fun k _ => mapV_kV r k
theorem valV_mK {A : Type} [DecidableEq A] {r : Rho} {kvs : List (A × V)} {k : A} : valV (mK r kvs) k = (valV kvs k).map (mapV r) := by
  induction kvs with
  | nil => rfl
  | cons p t ih =>
    by_cases e : p.1 = k
    · rw [show mK r (p :: t) = (p.1, mapV r p.2) :: mK r t from rfl, valV_pos (p := (p.1, mapV r p.2)) e, valV_pos e]
      rfl
    · rw [show mK r (p :: t) = (p.1, mapV r p.2) :: mK r t from rfl, valV_neg (p := (p.1, mapV r p.2)) e, valV_neg e]
      exact ih
theorem valV_mem {A : Type} [DecidableEq A] {kvs : List (A × V)} {k : A} {v : V} (e : valV kvs k = some v) : ∃ p ∈ kvs, p.2 = v := by
  unfold valV at e
  rw [Option.map_eq_some_iff] at e
  obtain ⟨p, e1, e2⟩ := e
  exact ⟨p, List.mem_of_find?_eq_some e1, e2⟩
theorem tkey_ok {G : Glo} {r : Rho} {h : Hs} {H : Hp} {y : V} {ks : List Key} (S : Sim G r h H) (e : tkey h y = some ks) : ∃ b, y = .ref b ∧ H (r b) = some (.tup (ks.map kV)) := by
  cases y with
  | ref b =>
    have e3 : (tupAt h b).bind keysV = some ks := e
    rw [Option.bind_eq_some_iff] at e3
    obtain ⟨xs, e4, e5⟩ := e3
    have := keysV_ok e5
    subst this
    have hb := tupAt_raw S e4
    rw [mapL_keys] at hb
    exact ⟨b, rfl, hb⟩
  | _ => cases e
theorem dget_ok {G : Glo} {r : Rho} {h : Hs} {H : Hp} {a : Nat} {y : V} {o : Option V} (S : Sim G r h H) (e : dget h a y = some o) : DGet H (r a) (mapV r y) (o.map (mapV r)) ∧ ∀ v, o = some v → wf h.length v := by
  have tk : ∀ (kvs : List (List Key × V)) (e2 : (tkey h y).map (valV kvs) = some o) (hr : Rd H (r a) (.dT (mK r kvs))) (w : ∀ p ∈ kvs, wf h.length p.2),
      DGet H (r a) (mapV r y) (o.map (mapV r)) ∧ ∀ v, o = some v → wf h.length v := by
    intro kvs e2 hr w
    rw [Option.map_eq_some_iff] at e2
    obtain ⟨ks, e3, rfl⟩ := e2
    obtain ⟨b, rfl, hb⟩ := tkey_ok S e3
    refine ⟨.inr ⟨mK r kvs, ks, r b, hr, rfl, hb, valV_mK.symm⟩, fun v ev => ?_⟩
    obtain ⟨p, hp, rfl⟩ := valV_mem ev
    exact w p hp
  unfold dget at e
  split at e
  · rename_i kvs ek
    obtain ⟨x, w⟩ := S.obj a _ ek
    rw [Option.map_eq_some_iff] at e
    obtain ⟨k, e1, rfl⟩ := e
    have := keyV_ok e1
    subst this
    refine ⟨.inl ⟨mK r kvs, k, .inl x, mapV_kV r k, valV_mK.symm⟩, fun v ev => ?_⟩
    obtain ⟨p, hp, rfl⟩ := valV_mem ev
    exact w p hp
  · rename_i kvs ek
    obtain ⟨x, w⟩ := S.obj a _ ek
    exact tk kvs e (.inl x) w
  · rename_i kvs ek
    obtain ⟨x, w⟩ := S.obj a _ ek
    exact tk kvs e (.inr ⟨_, x⟩) w
  · cases e

/-! ### in, not in -/
theorem flat_map {r : Rho} {x : V} (f : flatV x = true) : mapV r x = x := by
  cases x <;> first | rfl | cases f
theorem flat_maps {r : Rho} {xs : List V} (f : xs.all flatV = true) : mapL r xs = xs := by
  unfold mapL
  exact (List.map_congr_left (g := fun v => v) fun v hv => flat_map (List.all_eq_true.mp f v hv)).trans (List.map_id' xs)
def rDIn2 (f : Bool → Bool) : R2 := fun y x H Q => ∃ a o, x = .ref a ∧ DGet H a y o ∧ Q (.bl (f o.isSome)) H
theorem op_din {X : Cx} (hu : X.A.units + 1 < cLine) : OpR X (compareOp .In) (rDIn2 fun b => b) := by
  intro pins s σ H y x iv u Q I ry rx q
  obtain ⟨a, o, rfl, g, q⟩ := q
  obtain rfl : u = Value.ref a := rx
  exact d_in hu I g ry fun s3 I3 => ⟨.bl o.isSome, H, I3, rfl, q⟩
theorem op_dnotin {X : Cx} (hu : X.A.units + 1 < cLine) : OpR X (compareOp .NotIn) (rDIn2 fun b => !b) := by
  intro pins s σ H y x iv u Q I ry rx q
  obtain ⟨a, o, rfl, g, q⟩ := q
  obtain rfl : u = Value.ref a := rx
  exact d_notIn hu I g ry fun s3 I3 => ⟨.bl (!o.isSome), H, I3, rfl, q⟩
def rInS (K : PySem.W.Frag) (f : Bool → Bool) : R2 := fun x y H Q => ∃ p xs, y = .ref p ∧ (SqL K H p xs ∨ SqT K H p xs) ∧ flatV x = true ∧ xs.all flatV = true ∧ Q (.bl (f (inV x xs))) H
def rInL (K : PySem.W.Frag) (f : Bool → Bool) : R2 := fun x y H Q => ∃ d ds, Dp K H x d ∧ Dp K H y (.list ds) ∧ SeqAt.shaped d = true ∧ SeqAt.shaped (.list ds) = true ∧ Q (.bl (f (ds.any fun z => PyData.eqv z d))) H
def rIn2 (K : PySem.W.Frag) (f : Bool → Bool) : R2 := fun x y H Q => rDIn2 f x y H Q ∨ (rInS K f x y H Q ∨ rInL K f x y H Q)
theorem op_in2 {X : Cx} (hu : X.A.units + 65 < cLine) : OpR X (compareOp .In) (rIn2 X.K fun b => b) := OpR.or (op_din (by omega)) (OpR.or op_in_seq (op_inD hu))
theorem op_notin2 {X : Cx} (hu : X.A.units + 65 < cLine) : OpR X (compareOp .NotIn) (rIn2 X.K fun b => !b) := OpR.or (op_dnotin (by omega)) (OpR.or op_notIn_seq (op_notInD hu))
theorem p_inX {G : Glo} {o : Op2} {f : Bool → Bool} (ho : ∀ x y h, prim2 o x y h = (R.ofOpt h (opIn x y h)).bind fun b h => .ok (.bl (f b)) h) : P2 G o (rIn2 G.K f) := by
  intro E r h H x y Q S wx wy o
  rw [ho] at o
  obtain ⟨b, e, o⟩ := o.ofOptB
  have q := o.ok (Nat.le_refl _) S trivial
  have dk : ∀ a, (dget h a x).map (·.isSome) = some b → rIn2 G.K f (mapV r x) (mapV r (.ref a)) H Q := by
    intro a e
    rw [Option.map_eq_some_iff] at e
    obtain ⟨ov, e1, rfl⟩ := e
    refine .inl ⟨r a, ov.map (mapV r), rfl, (dget_ok S e1).1, ?_⟩
    rw [Option.isSome_map]
    exact q
  unfold opIn at e
  split at e
  · rename_i a
    split at e
    · exact dk a e
    · exact dk a e
    · exact dk a e
    · split at e
      · rename_i xs ex
        split at e
        · rename_i c
          cases e
          rw [Bool.and_eq_true] at c
          obtain ⟨sx, _⟩ := seqAt_ok S ex
          rw [flat_maps c.2] at sx
          rw [flat_map c.1]
          exact .inr (.inl ⟨r a, xs, rfl, sx, c.1, c.2, q⟩)
        · split at e
          · rename_i ys ey
            split at e
            · rename_i d ds e1 e2
              cases e
              obtain ⟨a1, b1⟩ := data_shaped S e1
              obtain ⟨a2, b2⟩ := datas_shaped S e2
              exact .inr (.inr ⟨d, ds, a1, .lst (lstAt_ok S ey).1 a2, b1, b2, q⟩)
            · cases e
          · cases e
      · cases e
  · cases e
theorem p_in {G : Glo} : P2 G .isin (rIn2 G.K fun b => b) := p_inX fun _ _ _ => rfl
theorem p_notin {G : Glo} : P2 G .notin (rIn2 G.K fun b => !b) := p_inX fun _ _ _ => rfl

/-! ### subscripts -/
def rIxD2 : R2 := fun x y H Q => ∃ a v, x = .ref a ∧ DGet H a y (some v) ∧ Q v H
theorem ix_dict {X : Cx} (hu : X.A.units + 1 < cLine) : IxR X rIxD2 := by
  intro value slice pins s σ H x y v u Q I rx ry q hs
  obtain ⟨a, w, rfl, g, q⟩ := q
  obtain rfl : v = Value.ref a := rx
  exact PyProof.Rows.tail_any (dict_typeIs I g) PySem.F.slot_dict_getitem.lookup (d_getItem hu I g ry fun w' s3 I3 rw' => ⟨w, H, I3, rw', q⟩) hs
def rIx2 (K : PySem.W.Frag) : R2 := fun x y H Q => rIxD2 x y H Q ∨ (rIxL K x y H Q ∨ rIxT K x y H Q)
theorem ix_2 {X : Cx} (hu : X.A.units + 1 < cLine) : IxR X (rIx2 X.K) := IxR.or (ix_dict hu) (IxR.or ix_list ix_tup)
theorem atI_map {r : Rho} {xs : List V} {i : Int} {v : V} (e : atI xs i = some v) : atI (mapL r xs) i = some (mapV r v) := by
  unfold atI at e ⊢
  rw [mapL_length]
  rw [Option.bind_eq_some_iff] at e ⊢
  obtain ⟨j, e1, e2⟩ := e
  exact ⟨j, e1, by unfold mapL; rw [List.getElem?_map, e2]; rfl⟩
theorem atI_mem {xs : List V} {i : Int} {v : V} (e : atI xs i = some v) : v ∈ xs := by
  unfold atI at e
  rw [Option.bind_eq_some_iff] at e
  obtain ⟨j, e1, e2⟩ := e
  exact List.mem_of_getElem? e2
theorem p_idx {G : Glo} : P2 G .idx (rIx2 G.K) := by
  intro E r h H x y Q S wx wy o
  obtain ⟨v, e, o2⟩ := Out.ofOpt (a := opIdx x y h) o
  have dk : ∀ a, x = .ref a → (dget h a y).bind id = some v → rIx2 G.K (mapV r x) (mapV r y) H Q := by
    rintro a rfl e
    rw [Option.bind_eq_some_iff] at e
    obtain ⟨ov, e1, e2⟩ := e
    have e2 : ov = some v := e2
    subst e2
    obtain ⟨g, w⟩ := dget_ok S e1
    exact .inl ⟨r a, mapV r v, rfl, g, o2.ok (Nat.le_refl _) S (w v rfl)⟩
  unfold opIdx at e
  split at e
  · rename_i a
    split at e
    · exact dk a rfl e
    · exact dk a rfl e
    · exact dk a rfl e
    · split at e
      · rename_i xs i ex
        obtain ⟨sx, w⟩ := seqAt_ok S ex
        have q := o2.ok (Nat.le_refl _) S (w v (atI_mem e))
        rcases sx with sx | sx
        · exact .inr (.inl ⟨r a, _, i, _, rfl, rfl, sx, atI_map e, q⟩)
        · exact .inr (.inr ⟨r a, _, i, _, rfl, rfl, sx, atI_map e, q⟩)
      · cases e
  · cases e
section
variable {X : Cx} {G : Glo} {E : XK} {ea eb : Expr} {a b : Ex} {pos : Pos}
structure Fit (X : Cx) (G : Glo) : Prop where
  k : G.K = X.K
theorem room_u {k : Nat} {A : Around} (hr : Room k A) : A.units + 65 < cLine := by
  have := hr.un
  omega
theorem d_idx {k : Nat} (hr : Room k X.A) (ha : PE X ea (semE G E a)) (hb : PE X eb (semE G E b)) (hs : PlainIx eb := by exact fun _ _ => rfl) (hG : Fit X G := by exact ⟨rfl⟩) : PE X (.Subscript ea eb pos) (semE G E (.op2 .idx a b)) :=
  PE.weak (pe_ix (ix_2 (by have := room_u hr; omega)) ha hb hs) fun _ _ _ x => sem_op2 (by rw [← hG.k]; exact p_idx) x
end
end Ck
/-! Ck6: other expressions. -/
namespace Ck
open PySem L2
section
variable {X : Cx} {G : Glo} {E : XK} {ea eb ec : Expr} {a b c : Ex} {pos : Pos} {rest : List Expr}
theorem Out.boolB {A : Type} {W : Nat → A → Prop} {r : Rho} {n : Nat} {v : V} {h : Hs} {f : Bool → Hs → R A} {k : Rho → A → Hs → Hp → Prop} (o : Out G E W r n ((asBool v h).bind f) k) : ∃ b, v = .bl b ∧ Out G E W r n (f b h) k := by
  cases v <;> first | exact ⟨_, rfl, o⟩ | exact False.elim o
theorem d_neg (ha : PE X ea (semE G E a)) : PE X (.UnaryOp .USub ea pos) (semE G E (.neg a)) :=
  PE.weak (pe_un un_neg ha) fun σ H Q ⟨n, r, s, h, R, o⟩ => by
    obtain ⟨l, rfl, o⟩ := o.succ
    refine toE R (Out.bind o) fun q1 x h1 H1 a1 l1 S1 w1 o1 => ?_
    cases x <;> first
      | exact ⟨_, rfl, Out.ok o1 (Nat.le_refl _) S1 trivial⟩
      | exact False.elim o1
theorem d_not (ha : PE X ea (semE G E a)) : PE X (.UnaryOp .Not ea pos) (semE G E (.not a)) :=
  PE.weak (pe_not ha) fun σ H Q ⟨n, r, s, h, R, o⟩ => by
    obtain ⟨l, rfl, o⟩ := o.succ
    refine toE R (Out.bind o) fun q1 x h1 H1 a1 l1 S1 w1 o1 => ?_
    obtain ⟨b, rfl, o1⟩ := o1.boolB
    exact ⟨b, rfl, Out.ok o1 (Nat.le_refl _) S1 trivial⟩
theorem d_notT (ha : PT X ea (semT G E a)) : PT X (.UnaryOp .Not ea pos) (semT G E (.not a)) :=
  PT.weak (pt_not ha) fun σ H Q ⟨n, r, s, h, R, o⟩ => by
    obtain ⟨l, rfl, o⟩ := o.succ
    refine toT R (Out.bind o) fun q1 x h1 H1 a1 l1 S1 w1 o1 => ?_
    obtain ⟨b, rfl, o1⟩ := o1.boolB
    obtain ⟨c, e, k⟩ := Out.ok o1 (Nat.le_refl _) S1 trivial
    cases e
    exact ⟨b, rfl, k⟩
theorem d_one {op : BoolOp} (ha : PE X ea (semE G E a)) : PE X (.BoolOp op [ea] pos) (semE G E a) := pe_one ha
theorem d_and (ha : PE X ea (semE G E a)) (hb : PE X (.BoolOp .And (eb :: rest) pos) (semE G E b)) : PE X (.BoolOp .And (ea :: eb :: rest) pos) (semE G E (.and a b)) :=
  PE.weak (pe_and ha hb) fun σ H Q ⟨n, r, s, h, R, o⟩ => by
    obtain ⟨l, rfl, o⟩ := o.succ
    refine toE R (Out.bind o) fun q1 x h1 H1 a1 l1 S1 w1 o1 => ?_
    obtain ⟨b, rfl, o1⟩ := o1.boolB
    refine ⟨b, rfl, ?_⟩
    cases b with
    | true => exact iteT (toE (R.next a1 l1 S1) o1 fun _ _ _ _ _ _ _ _ k => k)
    | false => exact iteF (Out.ok o1 (Nat.le_refl _) S1 trivial)
theorem d_or (ha : PE X ea (semE G E a)) (hb : PE X (.BoolOp .Or (eb :: rest) pos) (semE G E b)) : PE X (.BoolOp .Or (ea :: eb :: rest) pos) (semE G E (.or a b)) :=
  PE.weak (pe_or ha hb) fun σ H Q ⟨n, r, s, h, R, o⟩ => by
    obtain ⟨l, rfl, o⟩ := o.succ
    refine toE R (Out.bind o) fun q1 x h1 H1 a1 l1 S1 w1 o1 => ?_
    obtain ⟨b, rfl, o1⟩ := o1.boolB
    refine ⟨b, rfl, ?_⟩
    cases b with
    | true => exact iteT (Out.ok o1 (Nat.le_refl _) S1 trivial)
    | false => exact iteF (toE (R.next a1 l1 S1) o1 fun _ _ _ _ _ _ _ _ k => k)
theorem d_oneA (ha : PT X ea (semT G E a)) : PW X (.BoolOp .And [ea] pos) (semT G E a) := pw_and1 ha
theorem d_oneO (ha : PT X ea (semT G E a)) : PW X (.BoolOp .Or [ea] pos) (semT G E a) := pw_or1 ha
theorem d_andW (ha : PT X ea (semT G E a)) (hb : PW X (.BoolOp .And (eb :: rest) pos) (semT G E b)) : PW X (.BoolOp .And (ea :: eb :: rest) pos) (semT G E (.and a b)) :=
  PW.weak (pw_and ha hb) fun σ H Q ⟨n, r, s, h, R, o⟩ => by
    obtain ⟨l, rfl, o⟩ := o.succ
    refine toT R (Out.bind o) fun q1 x h1 H1 a1 l1 S1 w1 o1 => ?_
    obtain ⟨b, rfl, o1⟩ := o1.boolB
    refine ⟨b, rfl, ?_⟩
    cases b with
    | true => exact iteT (toT (R.next a1 l1 S1) o1 fun _ _ _ _ _ _ _ _ k => k)
    | false =>
      refine iteF ?_
      obtain ⟨c, e, k⟩ := Out.ok o1 (Nat.le_refl _) S1 trivial
      cases e
      exact k
theorem d_orW (ha : PT X ea (semT G E a)) (hb : PW X (.BoolOp .Or (eb :: rest) pos) (semT G E b)) : PW X (.BoolOp .Or (ea :: eb :: rest) pos) (semT G E (.or a b)) :=
  PW.weak (pw_or ha hb) fun σ H Q ⟨n, r, s, h, R, o⟩ => by
    obtain ⟨l, rfl, o⟩ := o.succ
    refine toT R (Out.bind o) fun q1 x h1 H1 a1 l1 S1 w1 o1 => ?_
    obtain ⟨b, rfl, o1⟩ := o1.boolB
    refine ⟨b, rfl, ?_⟩
    cases b with
    | true =>
      refine iteT ?_
      obtain ⟨c, e, k⟩ := Out.ok o1 (Nat.le_refl _) S1 trivial
      cases e
      exact k
    | false => exact iteF (toT (R.next a1 l1 S1) o1 fun _ _ _ _ _ _ _ _ k => k)
theorem d_ite (hc : PT X ec (semT G E c)) (ha : PE X ea (semE G E a)) (hb : PE X eb (semE G E b)) : PE X (.IfExp ec ea eb pos) (semE G E (.ite c a b)) :=
  PE.weak (pe_ifExp hc ha hb) fun σ H Q ⟨n, r, s, h, R, o⟩ => by
    obtain ⟨l, rfl, o⟩ := o.succ
    refine toT R (Out.bind o) fun q1 x h1 H1 a1 l1 S1 w1 o1 => ?_
    obtain ⟨b, rfl, o1⟩ := o1.boolB
    refine ⟨b, rfl, ?_⟩
    cases b with
    | true => exact iteT (toE (R.next a1 l1 S1) o1 fun _ _ _ _ _ _ _ _ k => k)
    | false => exact iteF (toE (R.next a1 l1 S1) o1 fun _ _ _ _ _ _ _ _ k => k)

/-! ### chains -/
theorem P2.use {o : Op2} {t : R2} (p : P2 G o t) {r : Rho} {h : Hs} {H : Hp} {x y : V} {k : Rho → V → Hs → Hp → Prop} {Q : VK} (S : Sim G r h H) (wx : wf h.length x) (wy : wf h.length y)
    (out : Out G E wf r h.length (prim2 o x y h) k) (i : ∀ q v h' H', Agree h.length r q → h.length ≤ h'.length → Sim G q h' H' → wf h'.length v → k q v h' H' → Q (mapV q v) H') : t (mapV r x) (mapV r y) H Q :=
  p E r h H x y Q S wx wy (out.imp i)
theorem sem_chain {o1 o2 : Op2} {t1 t2 : R2} (p1 : P2 G o1 t1) (p2 : P2 G o2 t2) {σ : St} {H : Hp} {Q : VK} (x : semE G E (.chain o1 o2 a b c) σ H Q) : tChain t1 t2 (semE G E a) (semE G E b) (semE G E c) σ H Q := by
  obtain ⟨n, r, s, h, R, o⟩ := x
  obtain ⟨l, rfl, o⟩ := o.succ
  refine toE R (Out.bind o) fun q1 x h1 H1 a1 l1 S1 w1 o1 => ?_
  have R1 := R.next a1 l1 S1
  refine toE R1 (Out.bind o1) fun q2 y h2 H2 a2 l2 S2 w2 o2 => ?_
  have R2 := R1.next a2 l2 S2
  rw [mapV_eq w1 a2]
  refine p1.use S2 (w1.mono l2) w2 (Out.bind o2) fun q3 z h3 H3 a3 l3 S3 w3 o3 => ?_
  obtain ⟨k, rfl, o3⟩ := o3.boolB
  refine ⟨k, rfl, ?_⟩
  cases k with
  | false => exact iteF (Out.ok o3 (Nat.le_refl _) S3 trivial)
  | true =>
    refine iteT (toE (R2.next a3 l3 S3) (Out.bind o3) fun q4 w h4 H4 a4 l4 S4 w4 o4 => ?_)
    rw [mapV_eq w2 a3, mapV_eq (w2.mono l3) a4]
    exact p2 E q4 h4 H4 y w Q S4 (w2.mono (Nat.le_trans l3 l4)) w4 o4
theorem d_chain {o1 o2 : Op2} {t1 t2 : R2} {op1 op2 : CmpOp} (p1 : P2 G o1 t1) (p2 : P2 G o2 t2) (h1 : OpR X (compareOp op1) t1) (h2 : OpR X (compareOp op2) t2) (ha : PE X ea (semE G E a)) (hb : PE X eb (semE G E b)) (hc : PE X ec (semE G E c))
    (hm : lastMarks [op1, op2] [eb, ec] = false := by with_unfolding_all rfl) : PE X (.Compare ea [op1, op2] [eb, ec] pos) (semE G E (.chain o1 o2 a b c)) :=
  PE.weak (pe_chain h1 h2 ha hb hc hm) fun _ _ _ x => sem_chain p1 p2 x
theorem d_chainT {o1 o2 : Op2} {t1 t2 : R2} {op1 op2 : CmpOp} (p1 : P2 G o1 t1) (p2 : P2 G o2 t2) (h1 : OpR X (compareOp op1) t1) (h2 : OpR X (compareOp op2) t2) (ha : PE X ea (semE G E a)) (hb : PE X eb (semE G E b)) (hc : PE X ec (semE G E c))
    (hm : lastMarks [op1, op2] [eb, ec] = false := by with_unfolding_all rfl) : PT X (.Compare ea [op1, op2] [eb, ec] pos) (semT G E (.chain o1 o2 a b c)) :=
  PT.weak (pt_chain h1 h2 ha hb hc hm) fun _ _ _ x => sem_chain p1 p2 (sem_test x)

/-! ### lists of expressions, displays -/
variable {es : List Expr} {ax : Exs}
theorem d_nil : PA X [] (semA G E .nil) := PA.weak pa_nil fun σ H Q ⟨n, r, s, h, R, o⟩ => Out.ok o (Nat.le_refl _) R.sim (fun _ hv => nomatch hv)
theorem d_cons (ha : PE X ea (semE G E a)) (hs : PA X es (semA G E ax)) (hst : starEach (ea :: es) X.env = (false, eval ea X.env) :: starEach es X.env := by rfl) : PA X (ea :: es) (semA G E (.cons a ax)) :=
  PA.weak (pa_cons ha hs hst) fun σ H Q ⟨n, r, s, h, R, o⟩ => by
    refine toE R (Out.bind o) fun q1 x h1 H1 a1 l1 S1 w1 o1 => ?_
    refine toA (R.next a1 l1 S1) (Out.bind o1) fun q2 xs h2 H2 a2 l2 S2 w2 o2 => ?_
    have := Out.ok (a := x :: xs) o2 (Nat.le_refl _) S2 (fun v hv => (List.mem_cons.mp hv).elim (fun e => e ▸ w1.mono l2) (w2 v))
    rw [mapV_eq w1 a2]
    exact this
theorem d_tup {k : Nat} (hs : PA X es (semA G E ax)) (hz : es.length ≤ 1000 := by decide) : PE X (.Tuple es k pos) (semE G E (.tup ax)) :=
  PE.weak (pe_tup hs) fun σ H Q ⟨n, r, s, h, R, o⟩ => by
    obtain ⟨l, rfl, o⟩ := o.succ
    refine toA R (Out.bind o) fun q1 xs h1 H1 a1 l1 S1 w1 o1 => ?_
    have o1 : Out G E wf q1 h1.length (if xs.length ≤ SZ then new h1 (.tup xs) else .no) _ := o1
    split at o1
    · rename_i hz
      refine ⟨by rw [mapL_length]; exact SZ_line hz, fun p hp => ?_⟩
      have := Out.newT (xs := xs) o1 (Nat.le_refl _) S1 w1 p hp
      rw [ext_ref] at this
      exact this
    · exact False.elim o1
theorem d_lst (hs : PA X es (semA G E ax)) : PE X (.List es pos) (semE G E (.lst ax)) :=
  PE.weak (pe_lst hs) fun σ H Q ⟨n, r, s, h, R, o⟩ => by
    obtain ⟨l, rfl, o⟩ := o.succ
    refine toA R (Out.bind o) fun q1 xs h1 H1 a1 l1 S1 w1 o1 => ?_
    have o1 : Out G E wf q1 h1.length (if xs.length ≤ SZ then new h1 (.lst xs) else .no) _ := o1
    split at o1
    · rename_i hz
      refine ⟨by rw [mapL_length]; exact SZ_line hz, fun p hp => ?_⟩
      have := Out.newL (xs := xs) o1 (Nat.le_refl _) S1 w1 p hp
      rw [ext_ref] at this
      exact this
    · exact False.elim o1
theorem Out.newO {r : Rho} {h : Hs} {H : Hp} {k : Rho → V → Hs → Hp → Prop} {o : O} {u : HO} (out : Out G E wf r h.length (new h o) k) (S : Sim G r h H) (hw : wfO (h.length + 1) o)
    {p : Addr} (hp : H p = none) (hx : ObjS G (ext r h.length p) (upd H p u) p o) : k (ext r h.length p) (.ref h.length) (h ++ [o]) (upd H p u) :=
  out _ _ ext_agree (by rw [len1]; omega) (S.alloc hp (same_upd hp) hx hw) (by show h.length < _; rw [len1]; omega)
theorem d_dnewK : PE X (.Dict [] [] pos) (semE G E (.dnew false)) :=
  PE.weak pe_dnewK fun σ H Q ⟨n, r, s, h, R, o⟩ => by
    obtain ⟨l, rfl, o⟩ := o.succ
    intro p hp
    have o : Out G E wf r h.length (new h (.dK [])) _ := o
    have := Out.newO (u := .dK []) o R.sim (fun _ hv => nomatch hv) hp (by show upd H p _ p = _; rw [upd_same]; rfl)
    rw [ext_ref] at this
    exact this
theorem d_dnewT : PE X (.Dict [] [] pos) (semE G E (.dnew true)) :=
  PE.weak pe_dnewT fun σ H Q ⟨n, r, s, h, R, o⟩ => by
    obtain ⟨l, rfl, o⟩ := o.succ
    intro p hp
    have o : Out G E wf r h.length (new h (.dT [])) _ := o
    have := Out.newO (u := .dT []) o R.sim (fun _ hv => nomatch hv) hp (by show upd H p _ p = _; rw [upd_same]; rfl)
    rw [ext_ref] at this
    exact this
/-- the keys and values of a display -/
structure PD (X : Cx) (G : Glo) (E : XK) (pos : Pos) (keys : List (Option Expr)) (values : List Expr) (ks : List Str) (ax : Exs) : Prop where
  len : keys.length = ks.length
  all : keys.all (·.isSome) = true
  run : ∃ trs, PPs X pos keys values trs ∧ ∀ (n : Nat) (r : Rho) (s : Sts) (h : Hs) (σ : St) (H : Hp) (k : Rho → List V → Hs → Hp → Prop) (Q : List (V × V) → Hp → Prop), Rl G r s h σ H → Out G E wfL r h.length (evL (fun e h => (evs G.P n).e e s h) ax h) k →
    (∀ q vs h' H', Agree h.length r q → h.length ≤ h'.length → Sim G q h' H' → wfL h'.length vs → k q vs h' H' → Q ((ks.map V.str).zip (mapL q vs)) H') → tPairs trs σ H Q
theorem d_pnil : PD X G E pos [] [] [] .nil := ⟨rfl, rfl, [], pps_nil, fun n r s h σ H k Q R o i => i r [] h H Agree.refl (Nat.le_refl _) R.sim (fun _ hv => nomatch hv) (Out.ok o (Nat.le_refl _) R.sim (fun _ hv => nomatch hv))⟩
theorem d_pcons {x : Str} {j : Nat} {p2 : Pos} {keys : List (Option Expr)} {values : List Expr} {ks : List Str} (hv : PE X ea (semE G E a)) (hr : PD X G E pos keys values ks ax) :
    PD X G E pos (some (.Constant (.str x) j p2) :: keys) (ea :: values) (x :: ks) (.cons a ax) := by
  obtain ⟨l, al, trs, hp, hrun⟩ := hr
  refine ⟨by rw [List.length_cons, List.length_cons, l], by rw [List.all_cons, al]; rfl, _, pps_cons (pe_str (x := x)) hv hp, fun n r s h σ H k Q R o i => ?_⟩
  show semE G E a σ H fun y H2 => tPairs trs σ H2 fun ps H3 => Q ((V.str x, y) :: ps) H3
  refine toE R (Out.bind o) fun q1 y h1 H1 a1 l1 S1 w1 o1 => ?_
  refine hrun n q1 s h1 σ H1 _ _ (R.next a1 l1 S1) (Out.bind o1) fun q2 ys h2 H2 a2 l2 S2 w2 o2 => ?_
  have wl : wfL h2.length (y :: ys) := fun v hv => (List.mem_cons.mp hv).elim (fun e => e ▸ w1.mono l2) (w2 v)
  have := i q2 (y :: ys) h2 H2 (a1.trans l1 a2) (Nat.le_trans l1 l2) S2 wl (Out.ok (a := y :: ys) o2 (Nat.le_refl _) S2 wl)
  rw [mapV_eq w1 a2]
  exact this
theorem putK_mK {A : Type} [DecidableEq A] {r : Rho} {kvs : List (A × V)} {k : A} {v : V} : mK r (putK kvs k v) = putK (mK r kvs) k (mapV r v) := by
  have e : ∀ kvs : List (A × V), ((mK r kvs).any fun kv => decide (kv.1 = k)) = (kvs.any fun kv => decide (kv.1 = k)) := fun kvs => by
    unfold mK
    rw [List.any_map]
    rfl
  unfold putK
  rw [e kvs]
  split
  · unfold mK
    rw [List.map_map, List.map_map]
    refine List.map_congr_left fun p _ => ?_
    show (((if p.1 = k then (p.1, v) else p).1, mapV r (if p.1 = k then (p.1, v) else p).2) : A × V) = if p.1 = k then (p.1, mapV r v) else (p.1, mapV r p.2)
    split <;> rfl
  · unfold mK
    rw [List.map_append]
    rfl
theorem putK_wf {A : Type} [DecidableEq A] {n : Nat} {kvs : List (A × V)} {k : A} {v : V} (w : ∀ p ∈ kvs, wf n p.2) (wv : wf n v) : ∀ p ∈ putK kvs k v, wf n p.2 := by
  intro p hp
  unfold putK at hp
  split at hp
  · obtain ⟨q, hq, rfl⟩ := List.mem_map.mp hp
    split
    · exact wv
    · exact w q hq
  · rcases List.mem_append.mp hp with hp | hp
    · exact w p hp
    · cases List.mem_singleton.mp hp
      exact wv
theorem mergeK_mK {r : Rho} : ∀ {more kvs : List (Key × V)}, mK r (mergeK kvs more) = mergeK (mK r kvs) (mK r more)
  | [], kvs => rfl
  | p :: t, kvs => by
    show mK r (mergeK (putK kvs p.1 p.2) t) = mergeK (putK (mK r kvs) p.1 (mapV r p.2)) (mK r t)
    rw [mergeK_mK, putK_mK]
theorem mergeK_wf {n : Nat} : ∀ {more kvs : List (Key × V)}, (∀ p ∈ kvs, wf n p.2) → (∀ p ∈ more, wf n p.2) → ∀ p ∈ mergeK kvs more, wf n p.2
  | [], kvs, w, _ => w
  | p :: t, kvs, w, wm => mergeK_wf (more := t) (kvs := putK kvs p.1 p.2) (putK_wf w (wm p List.mem_cons_self)) fun q hq => wm q (List.mem_cons_of_mem _ hq)
theorem d_disp {keys : List (Option Expr)} {values : List Expr} {ks : List Str} (d : PD X G E pos keys values ks ax) (hl : keys.length = values.length := by rfl) (h0 : keys ≠ [] := by exact List.cons_ne_nil _ _) (h15 : keys.length ≤ 15 := by decide) :
    PE X (.Dict keys values pos) (semE G E (.disp ks ax)) := by
  obtain ⟨l, al, trs, hp, hrun⟩ := d
  refine PE.weak (pe_disp hp al hl h0 h15) fun σ H Q ⟨n, r, s, h, R, o⟩ => ?_
  obtain ⟨m, rfl, o⟩ := o.succ
  intro p hp
  have S1 : Sim G (ext r h.length p) (h ++ [.dK []]) (upd H p (.dK [])) := R.sim.alloc hp (same_upd hp) (by show upd H p _ p = _; rw [upd_same]; rfl) (fun _ hv => nomatch hv)
  have R1 := R.next ext_agree (by rw [len1]; omega) S1
  have o1 := Out.mono (Out.bind (WA := wfL) o) (q := ext r h.length p) (m := (h ++ [O.dK []]).length) ext_agree (by rw [len1]; omega)
  refine hrun m _ s _ σ _ _ _ R1 o1 fun q vs h' H' a1 l1 S' w' o2 => ?_
  split at o2
  · rename_i e0
    obtain ⟨x0, _⟩ := S'.obj h.length _ e0
    have x0 : H' (q h.length) = some (.dK []) := x0
    have hq : q h.length = p := by
      rw [← a1 h.length (by rw [len1]; omega), ext_self]
    rw [hq] at x0
    split at o2
    · rename_i hk
      refine ⟨x0, (ks.zip vs).map (fun t => (Sum.inr t.1, mapV q t.2)), ?_, ?_, ?_⟩
      · unfold mapL
        rw [List.map_map]
        have : ∀ (ks : List Str) (vs : List V), (ks.map V.str).zip (vs.map (mapV q)) = (ks.zip vs).map ((fun kv : Key × V => (kV kv.1, kv.2)) ∘ fun t => (Sum.inr t.1, mapV q t.2)) := by
          intro ks
          induction ks with
          | nil => intro vs; rfl
          | cons k ks ih =>
            intro vs
            cases vs with
            | nil => rfl
            | cons v vs =>
              exact congrArg (List.cons (V.str k, mapV q v)) (ih vs)
        exact this ks vs
      · rw [List.length_map, List.length_zip]
        omega
      · have hlt : h.length < h'.length := lt_of_get e0
        have wd : ∀ t ∈ dispP (ks.zip vs), wf h'.length t.2 := by
          refine mergeK_wf (fun _ hv => nomatch hv) fun t ht => ?_
          obtain ⟨u, hu, rfl⟩ := List.mem_map.mp ht
          exact w' _ (List.of_mem_zip hu).2
        have ed : mK q (dispP (ks.zip vs)) = mergeK [] ((ks.zip vs).map (fun t => (Sum.inr t.1, mapV q t.2))) := by
          unfold dispP
          rw [mergeK_mK]
          unfold mK
          rw [List.map_map]
          rfl
        have S2 : Sim G q (h'.set h.length (.dK (dispP (ks.zip vs)))) (upd H' (q h.length) (.dK (mergeK [] ((ks.zip vs).map (fun t => (Sum.inr t.1, mapV q t.2)))))) :=
          S'.set e0 rfl rfl wd (by show upd H' _ _ _ = _; rw [upd_same, ed])
        rw [hq] at S2
        have this : Q (mapV q (.ref h.length)) _ := o2 q _ Agree.refl (by rw [List.length_set]; exact Nat.le_refl _) S2 (by show h.length < _; rw [List.length_set]; exact hlt)
        have ev : mapV q (.ref h.length) = .ref p := by show V.ref _ = _; rw [hq]
        rw [ev] at this
        exact this
    · exact False.elim o2
  · exact False.elim o2

/-! ### slices -/
def semO (G : Glo) (E : XK) (e : Option Ex) : TO := fun σ H Q => ∃ n r s h, Rl G r s h σ H ∧ Out G E (fun _ _ => True) r h.length (evO (fun e h => (evs G.P n).e e s h) e h) fun q v _ H' => Q v H'
theorem PO.weak {e : Option Expr} {t t' : TO} (p : PO X e t) (i : ∀ σ H Q, t' σ H Q → t σ H Q) : PO X e t' := ⟨fun pins s σ H Q I h => p.run pins s σ H Q I (i σ H Q h)⟩
theorem d_onone : PO X none (semO G E none) := PO.weak po_none fun σ H Q ⟨n, r, s, h, R, o⟩ => Out.ok o (Nat.le_refl _) R.sim trivial
theorem d_osome (ha : PE X ea (semE G E a)) : PO X (some ea) (semO G E (some a)) := PO.weak (po_some ha) fun σ H Q ⟨n, r, s, h, R, o⟩ => by
  refine toE R (Out.bind o) fun q1 x h1 H1 a1 l1 S1 w1 o1 => ?_
  cases x <;> first
    | exact ⟨_, rfl, Out.ok o1 (Nat.le_refl _) S1 trivial⟩
    | exact False.elim o1
def rSl2 (K : PySem.W.Frag) : V → Option Int → Option Int → Hp → VK → Prop := fun x lo hi H Q => rSlL K x lo hi H Q ∨ rSlA K x lo hi H Q
theorem cutV_map {r : Rho} {xs : List V} {lo hi : Option Int} : mapL r (cutV xs lo hi) = cutV (mapL r xs) lo hi := by
  unfold cutV
  rw [mapL_length]
  unfold mapL
  rw [List.map_take, List.map_drop]
theorem cutV_mem {xs : List V} {lo hi : Option Int} {v : V} (h : v ∈ cutV xs lo hi) : v ∈ xs := List.mem_of_mem_drop (List.mem_of_mem_take h)
theorem d_slice {lo hi : Option Expr} {l u : Option Ex} {p2 : Pos} (ha : PE X ea (semE G E a)) (hl : PO X lo (semO G E l)) (hu : PO X hi (semO G E u)) (hG : Fit X G := by exact ⟨rfl⟩) : PE X (.Subscript ea (.Slice lo hi none p2) pos) (semE G E (.slice a l u)) :=
  PE.weak (pe_slice (SlR.or sl_list sl_tupA) ha hl hu) fun σ H Q ⟨n, r, s, h, R, o⟩ => by
    rw [← hG.k]
    obtain ⟨m, rfl, o⟩ := o.succ
    refine toE R (Out.bind o) fun q1 x h1 H1 a1 l1 S1 w1 o1 => ?_
    have R1 := R.next a1 l1 S1
    refine ⟨m, q1, s, h1, R1, (Out.bind (WA := fun _ _ => True) o1).imp fun q2 lo h2 H2 a2 l2 S2 _ o2 => ?_⟩
    have R2 := R1.next a2 l2 S2
    refine ⟨m, q2, s, h2, R2, (Out.bind (WA := fun _ _ => True) o2).imp fun q3 hi h3 H3 a3 l3 S3 _ o3 => ?_⟩
    rw [mapV_eq w1 a2, mapV_eq (w1.mono l2) a3]
    have w3 := w1.mono (Nat.le_trans l2 l3)
    change Out G E wf q3 h3.length (sliceP x lo hi h3) _ at o3
    unfold sliceP at o3
    split at o3
    · rename_i b
      split at o3
      · rename_i xs ex
        obtain ⟨sx, wx⟩ := S3.obj b _ ex
        refine .inr ⟨q3 b, mapL q3 xs, rfl, SqT.of sx, ?_, ?_⟩
        · rw [mapL_length]
          intro c
          rw [if_pos c] at o3
          exact o3.ok (Nat.le_refl _) S3 w3
        · rw [mapL_length]
          intro c
          rw [if_neg c] at o3
          intro p hp
          have := o3.newT (Nat.le_refl _) S3 (fun v hv => wx v (cutV_mem hv)) p hp
          rw [ext_ref, cutV_map] at this
          exact this
      · split at o3
        · rename_i xs ex
          obtain ⟨sx, wx⟩ := lstAt_ok S3 ex
          refine .inl ⟨q3 b, mapL q3 xs, rfl, sx, fun p hp => ?_⟩
          have := o3.newL (Nat.le_refl _) S3 (fun v hv => wx v (cutV_mem hv)) p hp
          rw [ext_ref, cutV_map] at this
          exact this
        · exact False.elim o3
    · exact False.elim o3
theorem d_rev {k : Nat} {p1 p2 p3 : Pos} (ha : PE X ea (semE G E a)) (hG : Fit X G := by exact ⟨rfl⟩) : PE X (.Subscript ea (.Slice none none (some (.UnaryOp .USub (.Constant (.int 1) k p1) p2)) p3) pos) (semE G E (.rev a)) :=
  PE.weak (pe_revL ha) fun σ H Q ⟨n, r, s, h, R, o⟩ => by
    rw [← hG.k]
    obtain ⟨m, rfl, o⟩ := o.succ
    refine toE R (Out.bind o) fun q1 x h1 H1 a1 l1 S1 w1 o1 => ?_
    cases x with
    | ref b =>
      have o1 : Out G E wf q1 h1.length (match lstAt h1 b with | some xs => new h1 (.lst xs.reverse) | none => .no) _ := o1
      split at o1
      · rename_i xs ex
        obtain ⟨sx, wx⟩ := lstAt_ok S1 ex
        refine ⟨q1 b, mapL q1 xs, rfl, sx, fun p hp => ?_⟩
        have := o1.newL (Nat.le_refl _) S1 (fun v hv => wx v (List.mem_reverse.mp hv)) p hp
        rw [ext_ref] at this
        have e : mapL q1 xs.reverse = (mapL q1 xs).reverse := List.map_reverse
        rw [e] at this
        exact this
      · exact False.elim o1
    | _ => exact False.elim o1
end
end Ck
/-! Ck7: fields, defs, methods. -/
namespace Ck
open PySem L2
/-- the methods' names -/
def methS : Nat → Str
  | 0 => "shows" | 1 => "reaches" | 2 => "note" | 3 => "set_link" | 4 => "changes" | 5 => "comes" | 6 => "check" | 7 => "call"
  | 8 => "hand_over" | 9 => "chair_now" | 10 => "heard" | 11 => "missed" | 12 => "left" | 13 => "log" | _ => "__init__"
def NM : Nat := 14
theorem fld_meth : ∀ i j : Nat, i < NF → j < NM → fldS i ≠ methS j := by
  have h : ∀ i : _root_.Fin 12, ∀ j : _root_.Fin 14, fldS i.1 ≠ methS j.1 := by decide +kernel
  exact fun i j hi hj => h ⟨i, hi⟩ ⟨j, hj⟩
/-- what the written part holds of the classes -/
structure Facts (G : Glo) : Prop where
  cl : ∀ c d, G.P.cls c = some d → Cls G.K (G.cls c)
  na : ∀ c f, G.P.fld c f = true → f < NF ∧ Cls G.K (G.cls c) ∧ NoAttr G.K (G.cls c) (fldS f)
  mt : ∀ c d m f, G.P.cls c = some d → d.meth m = some f → m < NM

theorem mF_lookup {r : Rho} {n : Nat} {f : Nat} (hf : f < NF) : ∀ {fs : List (Nat × V)}, (∀ p ∈ fs, p.1 < NF ∧ wf n p.2) → (mF r fs).lookup (fldS f) = (fs.lookup f).map (mapV r)
  | [], _ => rfl
  | (g, v) :: t, w => by
    have ih := mF_lookup (r := r) hf fun p hp => w p (List.mem_cons_of_mem _ hp)
    show List.lookup (fldS f) ((fldS g, mapV r v) :: mF r t) = _
    rw [List.lookup_cons, List.lookup_cons]
    by_cases e : f = g
    · subst e
      simp
    · have e1 : (f == g) = false := beq_eq_false_iff_ne.mpr e
      have e2 : (fldS f == fldS g) = false := beq_eq_false_iff_ne.mpr fun z => e (fldS_inj f g hf (w (g, v) List.mem_cons_self).1 z)
      rw [e1, e2]
      exact ih
theorem mF_none {r : Rho} {n : Nat} {m : Nat} (hm : m < NM) : ∀ {fs : List (Nat × V)}, (∀ p ∈ fs, p.1 < NF ∧ wf n p.2) → (mF r fs).lookup (methS m) = none
  | [], _ => rfl
  | (g, v) :: t, w => by
    have ih := mF_none (r := r) hm fun p hp => w p (List.mem_cons_of_mem _ hp)
    show List.lookup (methS m) ((fldS g, mapV r v) :: mF r t) = none
    rw [List.lookup_cons]
    have e2 : (methS m == fldS g) = false := beq_eq_false_iff_ne.mpr fun z => fld_meth g m (w (g, v) List.mem_cons_self).1 hm z.symm
    rw [e2]
    exact ih
theorem mF_put {r : Rho} {n : Nat} {f : Nat} {v : V} (hf : f < NF) : ∀ {fs : List (Nat × V)}, (∀ p ∈ fs, p.1 < NF ∧ wf n p.2) → mF r (putN f v fs) = putF (fldS f) (mapV r v) (mF r fs)
  | [], _ => rfl
  | (g, x) :: t, w => by
    have ih := mF_put (r := r) (v := v) hf fun p hp => w p (List.mem_cons_of_mem _ hp)
    have hg := (w (g, x) List.mem_cons_self).1
    show mF r (if g = f then (g, v) :: t else (g, x) :: putN f v t) = if fldS g = fldS f then (fldS g, mapV r v) :: mF r t else (fldS g, mapV r x) :: putF (fldS f) (mapV r v) (mF r t)
    by_cases e : g = f
    · rw [if_pos e, if_pos (by rw [e])]
      rfl
    · rw [if_neg e, if_neg fun z => e (fldS_inj g f hg hf z), ← ih]
      rfl
theorem putN_wf {n : Nat} {f : Nat} {v : V} (hf : f < NF) (wv : wf n v) : ∀ {fs : List (Nat × V)}, (∀ p ∈ fs, p.1 < NF ∧ wf n p.2) → ∀ p ∈ putN f v fs, p.1 < NF ∧ wf n p.2
  | [], _, p, hp => by
    cases List.mem_singleton.mp hp
    exact ⟨hf, wv⟩
  | (g, x) :: t, w, p, hp => by
    have hp : p ∈ (if g = f then (g, v) :: t else (g, x) :: putN f v t) := hp
    split at hp
    · rcases List.mem_cons.mp hp with rfl | hp
      · exact ⟨(w (g, x) List.mem_cons_self).1, wv⟩
      · exact w p (List.mem_cons_of_mem _ hp)
    · rcases List.mem_cons.mp hp with rfl | hp
      · exact w (g, x) List.mem_cons_self
      · exact putN_wf hf wv (fun p hp => w p (List.mem_cons_of_mem _ hp)) p hp
theorem putN_length {f : Nat} {v : V} : ∀ {fs : List (Nat × V)}, (putN f v fs).length ≤ fs.length + 1
  | [] => Nat.le_refl _
  | (g, x) :: t => by
    have ih := putN_length (f := f) (v := v) (fs := t)
    unfold putN
    split
    · exact Nat.le_succ _
    · rw [List.length_cons, List.length_cons]
      omega
theorem lookup_mem {A B : Type} [BEq A] [LawfulBEq A] {k : A} {v : B} : ∀ {l : List (A × B)}, l.lookup k = some v → (k, v) ∈ l
  | [], e => by cases e
  | (g, x) :: t, e => by
    rw [List.lookup_cons] at e
    split at e
    · rename_i hk
      cases e
      rw [eq_of_beq hk]
      exact List.mem_cons_self
    · exact List.mem_cons_of_mem _ (lookup_mem e)

section
variable {X : Cx} {G : Glo} {E : XK} {ea eb ec : Expr} {a b c : Ex} {pos apos : Pos} {es : List Expr} {ax : Exs}
theorem d_fld (T : Facts G) (f : Nat) {x : Str} (ha : PE X ea (semE G E a)) (hx : x = fldS f := by rfl) (hb : attributeBase ea x X.env (eval ea X.env) = eval ea X.env := by rfl) (hG : Fit X G := by exact ⟨rfl⟩) : PE X (.Attribute ea x pos) (semE G E (.fld a f)) :=
  PE.weak (pe_fld ha hb) fun σ H Q ⟨n, r, s, h, R, o⟩ => by
    subst hx
    rw [← hG.k]
    obtain ⟨l, rfl, o⟩ := o.succ
    refine toE R (Out.bind o) fun q1 x h1 H1 a1 l1 S1 w1 o1 => ?_
    cases x with
    | ref p =>
      change Out G E wf q1 h1.length (match h1[p]? with | some (.ins c fs) => if G.P.fld c f then Ck.R.ofOpt h1 (fs.lookup f) else .no | _ => .no) _ at o1
      split at o1
      · rename_i c fs ef
        split at o1
        · rename_i hcf
          obtain ⟨v, ev, o2⟩ := o1.ofOpt
          obtain ⟨⟨dx, hx⟩, wx⟩ := S1.obj p _ ef
          obtain ⟨hf, hc, na⟩ := T.na c f hcf
          refine ⟨q1 p, G.cls c, dx, mF q1 fs, mapV q1 v, rfl, hx, hc, na, ?_, ?_⟩
          · rw [mF_lookup hf wx, ev]
            rfl
          · exact o2.ok (Nat.le_refl _) S1 (wx _ (lookup_mem ev)).2
        · exact False.elim o1
      · exact False.elim o1
    | _ => exact False.elim o1

/-! ### statements: the reading -/
def wfR (n : Nat) : Rs → Prop
  | .nx s => ∀ (i : Nat) (v : V), s[i]? = some (some v) → wf n v
  | .rt v => wf n v
def rsP (D : Ends) (q : Rho) (x : Rs) (H : Hp) : Prop := match x with
  | .nx s => D.nx (mapS q s) H
  | .rt v => D.rt (mapV q v) H
def semS (G : Glo) (E : XK) (st : Stm) : TS := fun D σ H => ∃ n r s h, Rl G r s h σ H ∧ Out G E wfR r h.length ((evs G.P n).s st s h) fun q x _ H' => rsP D q x H'
theorem toS {n : Nat} {r : Rho} {s : Sts} {h : Hs} {σ : St} {H : Hp} {D : Ends} {st : Stm} {k : Rho → Rs → Hs → Hp → Prop} (R : Rl G r s h σ H) (o : Out G E wfR r h.length ((evs G.P n).s st s h) k)
    (i : ∀ q v h' H', Agree h.length r q → h.length ≤ h'.length → Sim G q h' H' → wfR h'.length v → k q v h' H' → rsP D q v H') : semS G E st D σ H := ⟨n, r, s, h, R, o.imp i⟩

/-! ### defs -/
def spF (G : Glo) (f : Nat) : Sp := fun vs H Q E => ∃ n r args h, Sim G r h H ∧ vs = mapL r args ∧ wfL h.length args ∧ (∃ d, G.P.fn f = some d ∧ args.length = d.np) ∧ Out G E wf r h.length (callF G.P (evs G.P n).s f args h) fun q v _ H' => Q (mapV q v) H'
theorem callF_some {A : Type} {n m : Nat} {r : Rho} {f : Nat} {vs : List V} {h : Hs} {k : Rho → V → Hs → Hp → Prop} {S : Stm → Sts → Hs → R Rs} (o : Out G E wf r m (callF G.P S f vs h) k) : ∃ d, G.P.fn f = some d ∧ vs.length = d.np := by
  unfold callF at o
  split at o
  · rename_i d e
    split at o
    · rename_i l
      exact ⟨d, e, l⟩
    · exact False.elim o
  · exact False.elim o
theorem sem_call {f : Nat} {σ : St} {H : Hp} {Q : VK} (x : semE G E (.call f ax) σ H Q) : tCall (spF G f) [] E (semA G E ax) σ H Q := by
  obtain ⟨n, r, s, h, R, o⟩ := x
  obtain ⟨l, rfl, o⟩ := o.succ
  refine toA R (Out.bind o) fun q1 xs h1 H1 a1 l1 S1 w1 o1 => ?_
  exact ⟨l, q1, xs, h1, S1, List.append_nil _, w1, callF_some (A := Unit) (n := 0) o1, o1⟩
/-- a def of the top, called by its name x -/
def FnS (P : Program) (w : World) (K : PySem.W.Frag) (mg : Str → Option Value) (base : Heap) (CX : CXT) (k : Nat) (G : Glo) (x : Str) (f : Nat) : Prop :=
  ∃ fa fd ps, FnOk P w K mg base CX k fa fd ps (spF G f) ∧ mg x = some (.ref fa) ∧ PySem.W.keepIn K (.ref fa) = true ∧ Binds K fd ps []
theorem d_call {f k j : Nat} {CX : CXT} {x : Str} {p : Pos} (F : FnS X.prog X.w X.K X.mg X.base CX k G x f) (hr : Room j X.A) (hx : Passes CX X E) (hs : PA X (ea :: es) (semA G E ax)) (hk : k ≤ j := by decide) (hg : Gl X x := by rfl)
    (hdb : (x == ("__debug__" : Str)) = false := by decide) (he : starEach (ea :: es) X.env = (false, eval ea X.env) :: starEach es X.env := by rfl) (hpl : (backTo pos (starEach es X.env)).any (·.1) = false := by rfl) :
    PE X (.Call (.Name x p) (ea :: es) [] pos) (semE G E (.call f ax)) := by
  obtain ⟨fa, fd, ps, F, hm, hkp, hb⟩ := F
  exact PE.weak (pe_call F (hr.mono hk) hg hm hkp hb .nil hx hs hdb he hpl) fun _ _ _ x => sem_call x
theorem d_call0 {f k j : Nat} {CX : CXT} {x : Str} {p : Pos} (F : FnS X.prog X.w X.K X.mg X.base CX k G x f) (hr : Room j X.A) (hx : Passes CX X E) (hk : k ≤ j := by decide) (hg : Gl X x := by rfl)
    (hdb : (x == ("__debug__" : Str)) = false := by decide) : PE X (.Call (.Name x p) [] [] pos) (semE G E (.call f .nil)) := by
  obtain ⟨fa, fd, ps, F, hm, hkp, hb⟩ := F
  refine PE.weak (pe_call0 F (hr.mono hk) hg hm hkp hb .nil hx hdb) fun σ H Q x => ?_
  obtain ⟨n, r, s, h, R, o⟩ := x
  obtain ⟨l, rfl, o⟩ := o.succ
  have o1 : Out G E wf r h.length (callF G.P (evs G.P l).s f [] h) fun q v _ H' => Q (mapV q v) H' := o
  exact ⟨l, r, [], h, R.sim, rfl, (fun _ hv => nomatch hv), callF_some (A := Unit) (n := 0) o1, o1⟩

/-! ### methods -/
/-- the method m of the class c -/
def MtS (P : Program) (w : World) (K : PySem.W.Frag) (mg : Str → Option Value) (base : Heap) (CX : CXT) (k : Nat) (G : Glo) (m c : Nat) : Prop :=
  ∃ d f fa fd ps, G.P.cls c = some d ∧ d.meth m = some f ∧ Cls K (G.cls c) ∧ FnOk P w K mg base CX k fa fd ps (spF G f) ∧ Meth K (G.cls c) (methS m) fa ∧ Binds K fd ps []
theorem sem_meth (T : Facts G) {m : Nat} (c0 : Nat) (hc0 : ∃ d f, G.P.cls c0 = some d ∧ d.meth m = some f) {σ : St} {H : Hp} {Q : VK} (x : semE G E (.meth m a ax) σ H Q) :
    ∃ c d f, G.P.cls c = some d ∧ d.meth m = some f ∧ tMeth (G.cls c) (methS m) (spF G f) [] E (semE G E a) (semA G E ax) σ H Q := by
  obtain ⟨n, r, s, h, R, o⟩ := x
  obtain ⟨l, rfl, o⟩ := o.succ
  have main : ∀ c d f, G.P.cls c = some d → d.meth m = some f → (∀ p h1 c' fs, (evs G.P l).e a s h = .ok (.ref p) h1 → h1[p]? = some (.ins c' fs) → c' = c) → tMeth (G.cls c) (methS m) (spF G f) [] E (semE G E a) (semA G E ax) σ H Q := by
    intro c d f ec em same
    change Out G E wf r h.length (((evs G.P l).e a s h).bind fun x h => match x with
      | .ref p => match h[p]? with
        | some (.ins c _) => match (G.P.cls c).bind fun d => d.meth m with
          | some f => (evL (fun e h => (evs G.P l).e e s h) ax h).bind fun vs h => callF G.P (evs G.P l).s f (x :: vs) h
          | none => .no
        | _ => .no
      | _ => .no) _ at o
    refine toE (n := l) R ?_ (k := fun q1 x h1 H1 => (evs G.P l).e a s h = .ok x h1 ∧ Out G E wf q1 h1.length (match x with
      | .ref p => match h1[p]? with
        | some (.ins c _) => match (G.P.cls c).bind fun d => d.meth m with
          | some f => (evL (fun e h => (evs G.P l).e e s h) ax h1).bind fun vs h => callF G.P (evs G.P l).s f (x :: vs) h
          | none => .no
        | _ => .no
      | _ => .no) fun q v _ H' => Q (mapV q v) H') fun q1 x h1 H1 a1 l1 S1 w1 ⟨e1, o1⟩ => ?_
    · have o2 := Out.bind (WA := wf) o
      cases e : (evs G.P l).e a s h with
      | ok y h1 =>
        rw [e] at o2
        exact fun q H' a1 l1 S1 w1 => ⟨rfl, o2 q H' a1 l1 S1 w1⟩
      | ex c h1 =>
        rw [e] at o2
        exact o2
      | no =>
        rw [e] at o2
        exact o2
    · cases x with
      | ref p =>
        simp only at o1
        split at o1
        · rename_i c' fs ef
          have hc := same p h1 c' fs e1 ef
          subst hc
          rw [show (G.P.cls c').bind (fun d => d.meth m) = some f by rw [ec]; exact em] at o1
          obtain ⟨⟨dx, hx⟩, wx⟩ := S1.obj p _ ef
          refine ⟨q1 p, dx, mF q1 fs, rfl, hx, mF_none (T.mt c' d m f ec em) wx, ?_⟩
          refine toA (R.next a1 l1 S1) (Out.bind o1) fun q2 xs h2 H2 a2 l2 S2 w2 o2 => ?_
          refine ⟨l, q2, .ref p :: xs, h2, S2, ?_, (fun v hv => (List.mem_cons.mp hv).elim (fun e => by rw [e]; exact w1.mono l2) (w2 v)), callF_some (A := Unit) (n := 0) o2, o2⟩
          rw [mapV_eq w1 a2]
          show _ :: (mapL q2 xs ++ []) = _ :: mapL q2 xs
          rw [List.append_nil]
        · exact False.elim o1
      | _ => exact False.elim o1
  cases e : (evs G.P l).e a s h with
  | ok y h1 =>
    cases y with
    | ref p =>
      cases ep : h1[p]? with
      | none =>
        obtain ⟨d, f, ec, em⟩ := hc0
        exact ⟨c0, d, f, ec, em, main c0 d f ec em fun p' h1' c' fs e1 e2 => by
          rw [e] at e1
          cases e1
          rw [ep] at e2
          cases e2⟩
      | some ob =>
        cases ob with
        | ins c fs =>
          by_cases hm : ∃ d f, G.P.cls c = some d ∧ d.meth m = some f
          · obtain ⟨d, f, ec, em⟩ := hm
            exact ⟨c, d, f, ec, em, main c d f ec em fun p' h1' c' fs e1 e2 => by
              rw [e] at e1
              cases e1
              rw [ep] at e2
              cases e2
              rfl⟩
          · exfalso
            change Out G E wf r h.length (((evs G.P l).e a s h).bind fun x h => match x with
              | .ref p => match h[p]? with
                | some (.ins c _) => match (G.P.cls c).bind fun d => d.meth m with
                  | some f => (evL (fun e h => (evs G.P l).e e s h) ax h).bind fun vs h => callF G.P (evs G.P l).s f (x :: vs) h
                  | none => .no
                | _ => .no
              | _ => .no) _ at o
            rw [e] at o
            change Out G E wf r h.length (match h1[p]? with
                | some (.ins c _) => match (G.P.cls c).bind fun d => d.meth m with
                  | some f => (evL (fun e h => (evs G.P l).e e s h) ax h1).bind fun vs h => callF G.P (evs G.P l).s f (.ref p :: vs) h
                  | none => .no
                | _ => .no) _ at o
            rw [ep] at o
            cases eb : (G.P.cls c).bind fun d => d.meth m with
            | none =>
              simp only [eb] at o
              exact o
            | some f =>
              rw [Option.bind_eq_some_iff] at eb
              obtain ⟨d, ec, em⟩ := eb
              exact hm ⟨d, f, ec, em⟩
        | _ =>
          obtain ⟨d, f, ec, em⟩ := hc0
          exact ⟨c0, d, f, ec, em, main c0 d f ec em fun p' h1' c' fs e1 e2 => by
            rw [e] at e1
            cases e1
            rw [ep] at e2
            cases e2⟩
    | _ =>
      obtain ⟨d, f, ec, em⟩ := hc0
      exact ⟨c0, d, f, ec, em, main c0 d f ec em fun p' h1' c' fs e1 e2 => by
        rw [e] at e1
        cases e1⟩
  | _ =>
    obtain ⟨d, f, ec, em⟩ := hc0
    exact ⟨c0, d, f, ec, em, main c0 d f ec em fun p' h1' c' fs e1 e2 => by
      rw [e] at e1
      cases e1⟩
/-- the classes that have a method -/
def withM (P : Prog) (m : Nat) : List Nat := P.clss.map (·.1) |>.filter fun c => ((P.cls c).bind fun d => d.meth m).isSome
theorem withM_mem {P : Prog} {m c f : Nat} {d : Cd} (ec : P.cls c = some d) (em : d.meth m = some f) : c ∈ withM P m := by
  refine List.mem_filter.mpr ⟨List.mem_map.mpr ⟨(c, d), lookup_mem ec, rfl⟩, ?_⟩
  rw [ec]
  show (d.meth m).isSome = true
  rw [em]
  rfl
theorem d_meth (T : Facts G) {m k j : Nat} {CX : CXT} {x : Str} {pl : Sem Bool} (cs : List Nat) (M : ∀ c, c ∈ cs → MtS X.prog X.w X.K X.mg X.base CX k G m c) (c0 : Nat) (hcs : withM G.P m = c0 :: cs.tail) (hcs0 : cs = c0 :: cs.tail) (hr : Room j X.A) (hx : Passes CX X E)
    (ha : PE X ea (semE G E a)) (hs : PA X (eb :: es) (semA G E ax)) (hk : k ≤ j := by decide) (hm : x = methS m := by rfl)
    (hst : starEach (eb :: es) X.env = (false, eval eb X.env) :: starEach es X.env := by rfl) (hpl : (backTo pos (starEach es X.env)).any (·.1) = false := by rfl)
    (ht : eval (.Call (.Attribute ea x apos) (eb :: es) [] pos) X.env = (do
      let ov ← eval ea X.env
      standAt apos.atName
      let (f, first) ← holding [ov] (getMethod ov x pl)
      callWith pos f first (backTo pos (starEach (eb :: es) X.env)) (backToKw pos (keywordEach [] X.env))) := by rfl) :
    PE X (.Call (.Attribute ea x apos) (eb :: es) [] pos) (semE G E (.meth m a ax)) := by
  subst hm
  have hmem : ∀ c d f, G.P.cls c = some d → d.meth m = some f → c ∈ cs := fun c d f ec em => by
    have := withM_mem ec em
    rw [hcs, ← hcs0] at this
    exact this
  refine ⟨fun pins s σ H Q I h => ?_⟩
  obtain ⟨c, d, f, ec, em, t⟩ := sem_meth T c0 (by
    have hc0 : c0 ∈ cs := by rw [hcs0]; exact List.mem_cons_self
    obtain ⟨d, f, _, _, _, ec, em, _⟩ := M c0 hc0
    exact ⟨d, f, ec, em⟩) h
  obtain ⟨d', f', fa, fd, ps, ec', em', hc, F, hme, hb⟩ := M c (hmem c d f ec em)
  rw [ec] at ec'
  cases ec'
  rw [em] at em'
  cases em'
  exact (pe_meth ha hc hme F (hr.mono hk) hb .nil hx hs hst hpl ht).run pins s σ H Q I t
theorem d_meth0 (T : Facts G) {m k j : Nat} {CX : CXT} {x : Str} {pl : Sem Bool} (cs : List Nat) (M : ∀ c, c ∈ cs → MtS X.prog X.w X.K X.mg X.base CX k G m c) (c0 : Nat) (hcs : withM G.P m = c0 :: cs.tail) (hcs0 : cs = c0 :: cs.tail) (hr : Room j X.A) (hx : Passes CX X E)
    (ha : PE X ea (semE G E a)) (hk : k ≤ j := by decide) (hm : x = methS m := by rfl)
    (ht : eval (.Call (.Attribute ea x apos) [] [] pos) X.env = (do
      let ov ← eval ea X.env
      standAt apos.atName
      let (f, first) ← holding [ov] (getMethod ov x pl)
      callWith pos f first (backTo pos (starEach [] X.env)) (backToKw pos (keywordEach [] X.env))) := by rfl) :
    PE X (.Call (.Attribute ea x apos) [] [] pos) (semE G E (.meth m a .nil)) := by
  subst hm
  have hmem : ∀ c d f, G.P.cls c = some d → d.meth m = some f → c ∈ cs := fun c d f ec em => by
    have := withM_mem ec em
    rw [hcs, ← hcs0] at this
    exact this
  refine ⟨fun pins s σ H Q I h => ?_⟩
  obtain ⟨c, d, f, ec, em, t⟩ := sem_meth T c0 (by
    have hc0 : c0 ∈ cs := by rw [hcs0]; exact List.mem_cons_self
    obtain ⟨d, f, _, _, _, ec, em, _⟩ := M c0 hc0
    exact ⟨d, f, ec, em⟩) h
  obtain ⟨d', f', fa, fd, ps, ec', em', hc, F, hme, hb⟩ := M c (hmem c d f ec em)
  rw [ec] at ec'
  cases ec'
  rw [em] at em'
  cases em'
  refine (pe_meth0 ha hc hme F (hr.mono hk) hb .nil hx ht).run pins s σ H Q I ?_
  have sh : ∀ σ H (Q : List V → Hp → Prop), semA G E .nil σ H Q → tNil σ H Q := fun σ H Q ⟨n, r, s, h, R, o⟩ => Out.ok o (Nat.le_refl _) R.sim (fun _ hv => nomatch hv)
  obtain ⟨n, r, s, h, R, o⟩ := t
  refine ⟨n, r, s, h, R, o.imp fun q v h' H' _ _ _ _ ⟨p, dx, fs, e1, e2, e3, e4⟩ => ⟨p, dx, fs, e1, e2, e3, sh _ _ _ e4⟩⟩

/-! ### instances made -/
def MkS (P : Program) (w : World) (K : PySem.W.Frag) (mg : Str → Option Value) (base : Heap) (CX : CXT) (k : Nat) (G : Glo) (x : Str) (c : Nat) : Prop :=
  ∃ d f fa fd ps, G.P.cls c = some d ∧ d.init = some f ∧ Mk K (G.cls c) fa ∧ FnOk P w K mg base CX k fa fd ps (spF G f) ∧ mg x = some (.ref (G.cls c)) ∧ Binds K fd ps []
theorem d_make {c k j : Nat} {CX : CXT} {x : Str} {p : Pos} (M : MkS X.prog X.w X.K X.mg X.base CX k G x c) (hr : Room j X.A) (hx : Passes CX X E) (hs : PA X (ea :: es) (semA G E ax)) (hk : k + 1 ≤ j := by decide) (hg : Gl X x := by rfl)
    (hdb : (x == ("__debug__" : Str)) = false := by decide) (he : starEach (ea :: es) X.env = (false, eval ea X.env) :: starEach es X.env := by rfl) (hpl : (backTo pos (starEach es X.env)).any (·.1) = false := by rfl) :
    PE X (.Call (.Name x p) (ea :: es) [] pos) (semE G E (.make c ax)) := by
  obtain ⟨d, f, fa, fd, ps, ec, ei, mk, F, hm, hb⟩ := M
  refine PE.weak (pe_make mk F (hr.mono hk) hg hm hb .nil hx hs hdb he hpl) fun σ H Q ⟨n, r, s, h, R, o⟩ => ?_
  obtain ⟨l, rfl, o⟩ := o.succ
  refine toA R (Out.bind o) fun q1 xs h1 H1 a1 l1 S1 w1 o1 => ?_
  intro y dx hy hdx ne
  change Out G E wf q1 h1.length (initF G.P (evs G.P l).s c xs h1) _ at o1
  unfold initF at o1
  rw [ec] at o1
  simp only [ei] at o1
  have hdy : ∀ b u, H1 b = some u → upd (upd H1 dx (.own y)) y (.ins (G.cls c) dx []) b = some u := fun b u e => by
    rw [upd_ne (ne_of_none e hy), upd_ne (ne_of_none e hdx)]
    exact e
  have S2 : Sim G (ext q1 h1.length y) (h1 ++ [.ins c []]) (upd (upd H1 dx (.own y)) y (.ins (G.cls c) dx [])) :=
    S1.alloc hy hdy ⟨dx, by rw [upd_same]; rfl⟩ (fun _ hv => nomatch hv)
  have o2 := Out.mono (Out.bind (WA := wf) o1) (q := ext q1 h1.length y) (m := (h1 ++ [O.ins c []]).length) ext_agree (by rw [len1]; omega)
  have wr : wf (h1 ++ [O.ins c []]).length (.ref h1.length) := by show h1.length < _; rw [len1]; omega
  refine ⟨l, ext q1 h1.length y, .ref h1.length :: xs, h1 ++ [.ins c []], S2, ?_, (fun v hv => (List.mem_cons.mp hv).elim (fun e => by rw [e]; exact wr) (fun hv => (w1 v hv).mono (by rw [len1]; omega))), callF_some (A := Unit) (n := 0) o2, o2.imp fun q v h' H' a3 l3 S3 w3 o3 => ?_⟩
  · show V.ref y :: (mapL q1 xs ++ []) = mapV (ext q1 h1.length y) (.ref h1.length) :: mapL (ext q1 h1.length y) xs
    rw [List.append_nil, ext_ref, mapL_eq w1 ext_agree]
  · cases v with
    | non =>
      refine ⟨rfl, ?_⟩
      have o3 : Out G E wf q h'.length (Ck.R.ok (.ref h1.length) h') fun q v _ H' => Q (mapV q v) H' := o3
      have this : Q (mapV q (.ref h1.length)) H' := o3.ok (Nat.le_refl _) S3 (by show h1.length < _; rw [len1] at l3; omega)
      rw [← mapV_eq wr a3, ext_ref] at this
      exact this
    | _ => exact False.elim o3

/-! ### a def by its body -/
theorem rt_out {q : Rho} {v : V} : True := trivial
theorem Out.noexE {A : Type} {W : Nat → A → Prop} {E' : XK} {r : Rho} {n : Nat} {x : R A} {k : Rho → A → Hs → Hp → Prop} (o : Out G E W r n x.noex k) : Out G E' W r n x k := by
  cases x with
  | ok a h => exact o
  | ex c h => exact False.elim o
  | no => exact o
theorem start_map {r : Rho} {N : List Str} {args : List V} {np ns : Nat} (hn : N.length = ns)   : L2.start N (mapL r args) = mapS r (start1 ns args) := by
  unfold L2.start start1 mapS mapL
  rw [List.map_append, List.map_map, List.map_map, List.map_replicate, List.length_map, hn]
  rfl
theorem start_wf {ns n : Nat} {args : List V} (w : wfL n args) : ∀ (i : Nat) (v : V), (start1 ns args)[i]? = some (some v) → wf n v := by
  intro i v e
  unfold start1 at e
  rcases Nat.lt_or_ge i (args.map some).length with hi | hi
  · rw [List.getElem?_append_left hi, List.getElem?_map, Option.map_eq_some_iff] at e
    obtain ⟨u, eu, e2⟩ := e
    cases e2
    exact w v (List.mem_of_getElem? eu)
  · rw [List.getElem?_append_right hi] at e
    have := List.mem_replicate.mp (List.mem_of_getElem? e)
    cases this.2
theorem fn_nx {P : Program} {w : World} {K : PySem.W.Frag} {mg : Str → Option Value} {base : Heap} {x qual : Str} {st : Stmt} {fa : Addr} {fd : FuncData} {N ps : List Str} {k f : Nat} {ir : Stm} (F : Fun K x qual st fa fd) (Sc : FnScope N ps (defScope st))
    (hf : G.P.fn f = some ⟨ps.length, N.length, ir, true⟩)
    (body : ∀ (cdv : Value) (A : Around) (outer : List Env) (s : Shared) (H : Hp) (E : XK), Room k (A.deeper (PyProof.Rows.envOfC qual (defScope st) s.heap.objs.size fa cdv)) →
      PSs (cxOf CX0 P w K mg base N qual (defScope st) fa cdv A outer s H E).nox (defBody st) (semS G E0 ir)) : FnOk P w K mg base CX0 (k + 1) fa fd ps (spF G f) := by
  refine F.ok Sc (fun vs H Q E h => ?_) (fun cdv A outer s H vs Q E hr h => ⟨_, body cdv A outer s H E hr, ?_⟩)
  · obtain ⟨n, r, args, h, _, rfl, _, ⟨d, e, l⟩, _⟩ := h
    rw [hf] at e
    cases e
    rw [mapL_length]
    exact l
  · obtain ⟨n, r, args, h, S, rfl, wa, ⟨d, e, l⟩, o⟩ := h
    unfold callF at o
    simp only [e] at o
    rw [if_pos l] at o
    rw [hf] at e
    cases e
    have o1 : Out G E wfR r h.length (((evs G.P n).s ir (start1 N.length args) h).noex) _ := Out.bind (WA := wfR) o
    have o2 := Out.noexE (E' := E0) o1
    refine ⟨n, r, start1 N.length args, h, ⟨S, start_map (np := 0) rfl, start_wf wa⟩, o2.imp fun q x h' H' a1 l1 S1 w1 o3 => ?_⟩
    cases x with
    | nx s' => exact Out.ok (a := V.non) (h := h') (E := E) o3 (Nat.le_refl _) S1 trivial
    | rt v => exact Out.ok (a := v) (h := h') (E := E) o3 (Nat.le_refl _) S1 w1
end
end Ck
/-! Ck8: built-in functions and methods. -/
namespace Ck
open PySem L2

def PB (G : Glo) (f : Bf) (t : List V → Hp → VK → Prop) : Prop := ∀ (E : XK) (r : Rho) (h : Hs) (H : Hp) (vs : List V) (Q : VK), Sim G r h H → wfL h.length vs →
  Out G E wf r h.length (bfP f vs h) (fun q v _ H' => Q (mapV q v) H') → t (mapL r vs) H Q
section
variable {X : Cx} {G : Glo} {E : XK} {ea eb ec : Expr} {a b c : Ex} {pos apos : Pos} {es : List Expr} {ax : Exs}
theorem sem_bf {f : Bf} {t : List V → Hp → VK → Prop} (p : PB G f t) {σ : St} {H : Hp} {Q : VK} (x : semE G E (.bf f ax) σ H Q) : tCB t (semA G E ax) σ H Q := by
  obtain ⟨n, r, s, h, R, o⟩ := x
  obtain ⟨l, rfl, o⟩ := o.succ
  refine toA R (Out.bind o) fun q1 xs h1 H1 a1 l1 S1 w1 o1 => ?_
  exact p E q1 h1 H1 xs Q S1 w1 o1
theorem d_bfB {f : Bf} {t : List V → Hp → VK → Prop} {x : Str} {id : String} {p : Pos} (pb : PB G f t) (hc : CallR X (.builtin id) t) (hm : X.mg x = none) (hv : bootBuiltins x = some (.builtin id)) (hs : PA X (ea :: es) (semA G E ax)) (hg : Gl X x := by rfl)
    (hn : x ≠ "__name__" := by decide) (hdb : (x == ("__debug__" : Str)) = false := by decide)
    (he : starEach (ea :: es) X.env = (false, eval ea X.env) :: starEach es X.env := by rfl) (hpl : (backTo pos (starEach es X.env)).any (·.1) = false := by rfl) : PE X (.Call (.Name x p) (ea :: es) [] pos) (semE G E (.bf f ax)) :=
  PE.weak (pe_callB hc hg hm hv hs hn hdb he hpl) fun _ _ _ x => sem_bf pb x
theorem d_bfT {f : Bf} {t : List V → Hp → VK → Prop} {x : Str} {id : String} {p : Pos} (pb : PB G f t) (hc : CallR X (.type id) t) (hm : X.mg x = none) (hv : bootBuiltins x = some (.type id)) (hs : PA X (ea :: es) (semA G E ax)) (hg : Gl X x := by rfl)
    (hn : x ≠ "__name__" := by decide) (hdb : (x == ("__debug__" : Str)) = false := by decide)
    (he : starEach (ea :: es) X.env = (false, eval ea X.env) :: starEach es X.env := by rfl) (hpl : (backTo pos (starEach es X.env)).any (·.1) = false := by rfl) : PE X (.Call (.Name x p) (ea :: es) [] pos) (semE G E (.bf f ax)) :=
  PE.weak (pe_callTy hc hg hm hv hs hn hdb he hpl) fun _ _ _ x => sem_bf pb x
end

/-! ### len -/
def rLen2 (K : PySem.W.Frag) : List V → Hp → VK → Prop := fun xs H Q => (∃ p ys, xs = [.ref p] ∧ (SqL K H p ys ∨ SqT K H p ys) ∧ Q (.int ys.length) H) ∨ ∃ a kvs, xs = [V.ref a] ∧ H a = some (.dK kvs) ∧ Q (.int kvs.length) H
theorem cr_len2 {X : Cx} : CallR X (.builtin "len") (rLen2 X.K) := CallR.or call_len_seq call_lenD
theorem seq_of {G : Glo} {r : Rho} {h : Hs} {H : Hp} {a : Nat} {xs : List V} (S : Sim G r h H) (e : seqAt h a = some xs) : SqL G.K H (r a) (mapL r xs) ∨ SqT G.K H (r a) (mapL r xs) := (seqAt_ok S e).1
theorem pb_len {G : Glo} : PB G .len (rLen2 G.K) := by
  intro E r h H vs Q S w o
  change Out G E wf r h.length (bfLen vs h) _ at o
  unfold bfLen at o
  split at o
  · rename_i a
    split at o
    · rename_i kvs ek
      refine .inr ⟨r a, mK r kvs, rfl, (S.obj a _ ek).1, ?_⟩
      have := Out.ok o (Nat.le_refl _) S trivial
      unfold mK
      rw [List.length_map]
      exact this
    · split at o
      · rename_i xs ex
        refine .inl ⟨r a, mapL r xs, rfl, seq_of S ex, ?_⟩
        have := Out.ok o (Nat.le_refl _) S trivial
        rw [mapL_length]
        exact this
      · exact False.elim o
  · exact False.elim o
/-! ### list -/
def rList2 (K : PySem.W.Frag) : List V → Hp → VK → Prop := fun xs H Q => (∃ p ys, xs = [.ref p] ∧ (SqL K H p ys ∨ SqT K H p ys) ∧ ∀ l, H l = none → Q (.ref l) (upd H l (.lst ys))) ∨ rListD xs H Q
theorem cr_list2 {X : Cx} (hc : X.calm = true := by rfl) : CallR X (.type "list") (rList2 X.K) := CallR.or call_list_of (call_list_dK hc)
theorem keys_mK {A : Type} {r : Rho} {kvs : List (A × V)} {f : A → V} : ((mK r kvs).map fun kv => f kv.1) = kvs.map fun kv => f kv.1 := by
  unfold mK
  rw [List.map_map]
  rfl
theorem pb_list {G : Glo} : PB G .list (rList2 G.K) := by
  intro E r h H vs Q S w o
  change Out G E wf r h.length (bfList vs h) _ at o
  unfold bfList at o
  split at o
  · rename_i a
    split at o
    · rename_i kvs ek
      refine .inr ⟨r a, mK r kvs, rfl, (S.obj a _ ek).1, fun p hp => ?_⟩
      have wk : wfL h.length (kvs.map fun kv => kV kv.1) := fun v hv => by
        obtain ⟨p, _, rfl⟩ := List.mem_map.mp hv
        cases p.1 <;> trivial
      have := Out.newL o (Nat.le_refl _) S wk p hp
      rw [ext_ref] at this
      rw [keys_mK]
      have e : mapL r (kvs.map fun kv => kV kv.1) = kvs.map fun kv => kV kv.1 := by
        unfold mapL
        rw [List.map_map]
        exact List.map_congr_left fun p _ => mapV_kV r p.1
      rw [e] at this
      exact this
    · split at o
      · rename_i xs ex
        refine .inl ⟨r a, mapL r xs, rfl, seq_of S ex, fun p hp => ?_⟩
        have := Out.newL o (Nat.le_refl _) S (seqAt_ok S ex).2 p hp
        rw [ext_ref] at this
        exact this
      · exact False.elim o
  · exact False.elim o

/-! ### sums, least, greatest, any, all -/
theorem ints_of {G : Glo} {r : Rho} {h : Hs} {H : Hp} {a : Nat} {ns : List Int} (S : Sim G r h H) (e : (lstAt h a).bind intsOf = some ns) : SqL G.K H (r a) (ns.map V.int) := by
  rw [Option.bind_eq_some_iff] at e
  obtain ⟨xs, e1, e2⟩ := e
  have := intsOf_ok e2
  subst this
  have := (lstAt_ok S e1).1
  rw [mapL_ints] at this
  exact this
theorem boolsOf_ok : ∀ {xs : List V} {ns : List Bool}, boolsOf xs = some ns → xs = ns.map V.bl
  | [], ns, e => by
    have e' : some [] = some ns := e
    cases e'
    rfl
  | x :: xs, ns, e => by
    unfold boolsOf at e
    rw [List.mapM_cons] at e
    simp only [Option.bind_eq_bind, Option.bind_eq_some_iff, Option.pure_def, Option.some.injEq] at e
    obtain ⟨i, e1, l, e2, rfl⟩ := e
    have := boolsOf_ok (xs := xs) e2
    subst this
    cases x <;> first | (cases e1; rfl) | cases e1
theorem mapL_bools {r : Rho} {ns : List Bool} : mapL r (ns.map V.bl) = ns.map V.bl := by
  unfold mapL
  rw [List.map_map]
  rfl
theorem bools_of {G : Glo} {r : Rho} {h : Hs} {H : Hp} {a : Nat} {ns : List Bool} (S : Sim G r h H) (e : (lstAt h a).bind boolsOf = some ns) : SqL G.K H (r a) (ns.map V.bl) := by
  rw [Option.bind_eq_some_iff] at e
  obtain ⟨xs, e1, e2⟩ := e
  have := boolsOf_ok e2
  subst this
  have := (lstAt_ok S e1).1
  rw [mapL_bools] at this
  exact this
theorem bfInts_ok {G : Glo} {E : XK} {r : Rho} {h : Hs} {H : Hp} {f : List Int → Option V} {vs : List V} {k : Rho → V → Hs → Hp → Prop} (S : Sim G r h H) (o : Out G E wf r h.length (bfInts f vs h) k) :
    ∃ a ns v, vs = [.ref a] ∧ SqL G.K H (r a) (ns.map V.int) ∧ f ns = some v ∧ Out G E wf r h.length (.ok v h) k := by
  unfold bfInts at o
  split at o
  · rename_i a
    split at o
    · rename_i ns e
      obtain ⟨v, ev, o⟩ := o.ofOpt
      exact ⟨a, ns, v, rfl, ints_of S e, ev, o⟩
    · exact False.elim o
  · exact False.elim o
theorem pb_sum {G : Glo} : PB G .sum (rSum G.K) := by
  intro E r h H vs Q S w o
  obtain ⟨a, ns, v, rfl, hs, ev, o⟩ := bfInts_ok (f := fun ns => some (.int ns.sum)) S o
  cases ev
  exact ⟨r a, ns, rfl, hs, o.ok (Nat.le_refl _) S trivial⟩
theorem minL_spec : ∀ (ns : List Int) (m : Int), (minL m ns = m ∨ minL m ns ∈ ns) ∧ minL m ns ≤ m ∧ ∀ y ∈ ns, minL m ns ≤ y
  | [], m => ⟨.inl rfl, Int.le_refl _, fun _ hv => nomatch hv⟩
  | n :: ns, m => by
    have ih := minL_spec ns (if n < m then n else m)
    have e : minL m (n :: ns) = minL (if n < m then n else m) ns := rfl
    rw [e]
    obtain ⟨a, b, c⟩ := ih
    refine ⟨?_, ?_, fun y hy => ?_⟩
    · rcases a with a | a
      · rw [a]
        split
        · exact .inr List.mem_cons_self
        · exact .inl rfl
      · exact .inr (List.mem_cons_of_mem _ a)
    · have hb : (if n < m then n else m) ≤ m := by split <;> omega
      omega
    · rcases List.mem_cons.mp hy with rfl | hy
      · have hb : (if y < m then y else m) ≤ y := by split <;> omega
        omega
      · exact c y hy
theorem maxL_spec : ∀ (ns : List Int) (m : Int), (maxL m ns = m ∨ maxL m ns ∈ ns) ∧ m ≤ maxL m ns ∧ ∀ y ∈ ns, y ≤ maxL m ns
  | [], m => ⟨.inl rfl, Int.le_refl _, fun _ hv => nomatch hv⟩
  | n :: ns, m => by
    have ih := maxL_spec ns (if m < n then n else m)
    have e : maxL m (n :: ns) = maxL (if m < n then n else m) ns := rfl
    rw [e]
    obtain ⟨a, b, c⟩ := ih
    refine ⟨?_, ?_, fun y hy => ?_⟩
    · rcases a with a | a
      · rw [a]
        split
        · exact .inr List.mem_cons_self
        · exact .inl rfl
      · exact .inr (List.mem_cons_of_mem _ a)
    · have hb : m ≤ (if m < n then n else m) := by split <;> omega
      omega
    · rcases List.mem_cons.mp hy with rfl | hy
      · have hb : y ≤ (if m < y then y else m) := by split <;> omega
        omega
      · exact c y hy
theorem pb_min1 {G : Glo} : PB G .min1 (rMin G.K) := by
  intro E r h H vs Q S w o
  obtain ⟨a, ns, v, rfl, hs, ev, o⟩ := bfInts_ok (f := minI) S o
  cases ns with
  | nil => cases ev
  | cons n ns =>
    cases ev
    refine ⟨r a, n :: ns, rfl, hs, Nat.succ_pos _, fun m hm hle => ?_⟩
    obtain ⟨s1, s2, s3⟩ := minL_spec ns n
    have e : m = minL n ns := by
      have h1 : m ≤ minL n ns := hle _ (by rcases s1 with s1 | s1; rw [s1]; exact List.mem_cons_self; exact List.mem_cons_of_mem _ s1)
      have h2 : minL n ns ≤ m := by
        rcases List.mem_cons.mp hm with rfl | hm
        · exact s2
        · exact s3 _ hm
      omega
    rw [e]
    exact o.ok (Nat.le_refl _) S trivial
theorem pb_max1 {G : Glo} : PB G .max1 (rMax G.K) := by
  intro E r h H vs Q S w o
  obtain ⟨a, ns, v, rfl, hs, ev, o⟩ := bfInts_ok (f := maxI) S o
  cases ns with
  | nil => cases ev
  | cons n ns =>
    cases ev
    refine ⟨r a, n :: ns, rfl, hs, Nat.succ_pos _, fun m hm hle => ?_⟩
    obtain ⟨s1, s2, s3⟩ := maxL_spec ns n
    have e : m = maxL n ns := by
      have h1 : maxL n ns ≤ m := hle _ (by rcases s1 with s1 | s1; rw [s1]; exact List.mem_cons_self; exact List.mem_cons_of_mem _ s1)
      have h2 : m ≤ maxL n ns := by
        rcases List.mem_cons.mp hm with rfl | hm
        · exact s2
        · exact s3 _ hm
      omega
    rw [e]
    exact o.ok (Nat.le_refl _) S trivial
theorem pb_any {G : Glo} : PB G .any (rAny G.K) := by
  intro E r h H vs Q S w o
  change Out G E wf r h.length (bfBools _ vs h) _ at o
  unfold bfBools at o
  split at o
  · rename_i a
    split at o
    · rename_i ns e
      exact ⟨r a, ns, rfl, bools_of S e, o.ok (Nat.le_refl _) S trivial⟩
    · exact False.elim o
  · exact False.elim o
theorem pb_all {G : Glo} : PB G .all (rAll G.K) := by
  intro E r h H vs Q S w o
  change Out G E wf r h.length (bfBools _ vs h) _ at o
  unfold bfBools at o
  split at o
  · rename_i a
    split at o
    · rename_i ns e
      exact ⟨r a, ns, rfl, bools_of S e, o.ok (Nat.le_refl _) S trivial⟩
    · exact False.elim o
  · exact False.elim o
def rMin2 : List V → Hp → VK → Prop := fun xs H Q => ∃ i j, xs = [.int i, .int j] ∧ Q (.int (if j < i then j else i)) H
def rMax2' : List V → Hp → VK → Prop := fun xs H Q => ∃ i j, xs = [.int i, .int j] ∧ Q (.int (if j > i then j else i)) H
theorem pb_min2 {G : Glo} : PB G .min2 rMin2 := by
  intro E r h H vs Q S w o
  change Out G E wf r h.length (bfTwo _ vs h) _ at o
  unfold bfTwo at o
  split at o
  · exact ⟨_, _, rfl, o.ok (Nat.le_refl _) S trivial⟩
  · exact False.elim o
theorem pb_max2 {G : Glo} : PB G .max2 rMax2' := by
  intro E r h H vs Q S w o
  change Out G E wf r h.length (bfTwo _ vs h) _ at o
  unfold bfTwo at o
  split at o
  · exact ⟨_, _, rfl, o.ok (Nat.le_refl _) S trivial⟩
  · exact False.elim o
def rAbs2 : List V → Hp → VK → Prop := fun xs H Q => ∃ i, xs = [.int i] ∧ Q (.int (if i < 0 then -i else i)) H
theorem pb_abs {G : Glo} : PB G .abs rAbs2 := by
  intro E r h H vs Q S w o
  change Out G E wf r h.length (bfAbs vs h) _ at o
  unfold bfAbs at o
  split at o
  · exact ⟨_, rfl, o.ok (Nat.le_refl _) S trivial⟩
  · exact False.elim o
def rInt2 : List V → Hp → VK → Prop := fun xs H Q => (∃ i, xs = [.int i] ∧ Q (.int i) H) ∨ ∃ k, xs = [.bl k] ∧ Q (.int (if k then 1 else 0)) H
theorem pb_int {G : Glo} : PB G .int rInt2 := by
  intro E r h H vs Q S w o
  change Out G E wf r h.length (bfInt vs h) _ at o
  unfold bfInt at o
  split at o
  · exact .inl ⟨_, rfl, o.ok (Nat.le_refl _) S trivial⟩
  · exact .inr ⟨_, rfl, o.ok (Nat.le_refl _) S trivial⟩
  · exact False.elim o
def rTuple2 (K : PySem.W.Frag) : List V → Hp → VK → Prop := fun xs H Q => ∃ p ys, xs = [.ref p] ∧ ((SqL K H p ys ∧ ∀ l, H l = none → Q (.ref l) (upd H l (.tup ys))) ∨ (SqT K H p ys ∧ Q (.ref p) H))
theorem pb_tuple {G : Glo} : PB G .tuple (rTuple2 G.K) := by
  intro E r h H vs Q S w o
  change Out G E wf r h.length (bfTuple vs h) _ at o
  unfold bfTuple at o
  split at o
  · rename_i a
    split at o
    · rename_i xs ex
      exact ⟨r a, mapL r xs, rfl, .inr ⟨SqT.of (S.obj a _ ex).1, o.ok (Nat.le_refl _) S (w _ List.mem_cons_self)⟩⟩
    · rename_i xs ex
      refine ⟨r a, mapL r xs, rfl, .inl ⟨SqL.of (S.obj a _ ex).1, fun p hp => ?_⟩⟩
      have := Out.newT o (Nat.le_refl _) S (S.obj a _ ex).2 p hp
      rw [ext_ref] at this
      exact this
    · exact False.elim o
  · exact False.elim o

/-! ### sorted -/
def rSortT (K : PySem.W.Frag) : List V → Hp → VK → Prop := fun vs H Q => ∃ (a : Addr) (xs : List V) (g : V → List Int), vs = [V.ref a] ∧ SqL K H a xs ∧ (∀ x ∈ xs, ∃ t, x = .ref t ∧ SqT K H t ((g x).map V.int) ∧ g x ≠ []) ∧
  ∀ p, H p = none → Q (.ref p) (upd H p (.lst (xs.mergeSort (PySem.W.dataLe false fun v => .tuple ((g v).map .int)))))
theorem each_of {A B : Type} {F : A → B → Prop} : ∀ {l₁ : List A} {l₂ : List B}, Paired F l₁ l₂ → PySem.W.EachIs (fun b a => F a b) l₂ l₁
  | _, _, .nil => .nil
  | _, _, .cons r t => .cons r (each_of t)
theorem of_each {A B : Type} {F : A → B → Prop} : ∀ {l₁ : List A} {l₂ : List B}, PySem.W.EachIs (fun b a => F a b) l₂ l₁ → Paired F l₁ l₂
  | _, _, .nil => .nil
  | _, _, .cons r t => .cons r (of_each t)
theorem dp_ints {K : PySem.W.Frag} {H : Hp} : ∀ ns : List Int, DpAll K H (ns.map V.int) (ns.map PyData.int)
  | [] => .nil
  | n :: ns => .cons (.int n) (dp_ints ns)
theorem cr_sortT3 {X : Cx} (hu : X.A.units + 64 < cLine) : CallR X (.builtin "sorted") (rSortT X.K) := by
  intro pins s σ H vs us Q I r h
  obtain ⟨a, xs, g, rfl, hs, ht, q⟩ := h
  obtain ⟨its, rv, hl, hz⟩ := I.list hs
  rw [Vals.ref1 r]
  have er : ∀ {xs : List V} {its : List Value}, Paired RelV xs its → (∀ x ∈ xs, ∃ t, x = .ref t ∧ SqT X.K H t ((g x).map V.int) ∧ g x ≠ []) →
      PySem.W.EachIs (fun u x => ∃ as, Reads s.heap u (PyData.tuple ((g x).map .int)) as) its xs := by
    intro xs its rv
    induction rv with
    | nil => intro _; exact .nil
    | @cons x u xs us rx t ih =>
      intro ht
      obtain ⟨t, ex, hq, hne⟩ := ht x List.mem_cons_self
      exact .cons (Dp.reads I _ x u (by rw [ex]; rw [ex] at hq; exact .tup hq (dp_ints _)) rx) (ih fun y hy => ht y (List.mem_cons_of_mem _ hy))
  refine PySem.W.sorted_data (vs := its) (bs := xs) (R := fun u x => RelV x u) (enc := fun x => .tuple ((g x).map .int)) hl.isList (each_of rv) (er rv ht) (fun d hd d' hd' => ?_) (.inl fun d hd => ?_) hz (fun b hb => ?_) fun out h1 h2 => ?_
  · obtain ⟨b, _, rfl⟩ := List.mem_map.mp hd
    obtain ⟨b', _, rfl⟩ := List.mem_map.mp hd'
    simp only [PySem.W.alike]
    exact PySem.W.alike_ints _ _
  · obtain ⟨b, hb, rfl⟩ := List.mem_map.mp hd
    obtain ⟨t, _, _, hne⟩ := ht b hb
    cases e : g b with
    | nil => exact absurd e hne
    | cons n ns => exact ⟨_, _, rfl⟩
  · simp only [PyData.depth]
    rw [PySem.W.depth_ints]
    omega
  · obtain ⟨ep, he'⟩ := PyProof.Rows.sortedAll_at s.heap its out.toArray
    have rv2 := of_each h2
    have hlen : (xs.mergeSort (PySem.W.dataLe false fun v => PyData.tuple ((g v).map .int))).length ≤ sizeLine := by
      rw [List.length_mergeSort]
      exact hz
    exact ⟨.ref _, upd H (s.heap.objs.size + 1) (.lst (xs.mergeSort (PySem.W.dataLe false fun v => PyData.tuple ((g v).map .int)))), I.laid (t' := s.toks) (fun _ _ => PyProof.Rows.sortedAll_old) (Nat.le_succ _) ⟨hlen, out, ep, rv2, he'⟩, rfl, q _ (I.hok.fresh (Nat.le_succ _))⟩
end Ck
/-! Ck9: sorted, isinstance, methods of lists and dicts, list(range). -/
namespace Ck
open PySem L2

/-! ### sorted -/
def rSort2 (w : World) (K : PySem.W.Frag) : List V → Hp → VK → Prop := fun xs H Q => (rSortedI K xs H Q ∨ rSortT K xs H Q) ∨ rSortedSet w xs H Q
theorem cr_sort2 {X : Cx} (hc : X.calm = true) (hu : X.A.units + 64 < cLine) : CallR X (.builtin "sorted") (rSort2 X.w X.K) := CallR.or (CallR.or cr_sortedI (cr_sortT3 hu)) (cr_sortedSet hc)
theorem strict_uniq : ∀ {a b : List Int}, a.Pairwise (· < ·) → b.Pairwise (· < ·) → (∀ k, k ∈ a ↔ k ∈ b) → a = b
  | [], [], _, _, _ => rfl
  | [], y :: ys, _, _, h => absurd ((h y).mpr List.mem_cons_self) (fun z => nomatch z)
  | x :: xs, [], _, _, h => absurd ((h x).mp List.mem_cons_self) (fun z => nomatch z)
  | x :: xs, y :: ys, ha, hb, h => by
    obtain ⟨ha1, ha2⟩ := List.pairwise_cons.mp ha
    obtain ⟨hb1, hb2⟩ := List.pairwise_cons.mp hb
    have e : x = y := by
      rcases List.mem_cons.mp ((h x).mp List.mem_cons_self) with e | e
      · exact e
      · rcases List.mem_cons.mp ((h y).mpr List.mem_cons_self) with e2 | e2
        · exact e2.symm
        · have := hb1 x e
          have := ha1 y e2
          omega
    subst e
    refine congrArg (x :: ·) (strict_uniq ha2 hb2 fun k => ⟨fun hk => ?_, fun hk => ?_⟩)
    · rcases List.mem_cons.mp ((h k).mp (List.mem_cons_of_mem _ hk)) with e | e
      · have := ha1 k hk
        omega
      · exact e
    · rcases List.mem_cons.mp ((h k).mpr (List.mem_cons_of_mem _ hk)) with e | e
      · have := hb1 k hk
        omega
      · exact e
theorem isort_le (ns : List Int) : (isort (fun i j => decide (i ≤ j)) ns).Pairwise (· ≤ ·) := by
  have hs := List.pairwise_mergeSort (le := fun x y : Int => decide (x ≤ y)) (by intro x y z hxy hyz; simp only [decide_eq_true_eq] at *; omega) (by intro x y; simp only [Bool.or_eq_true, decide_eq_true_eq]; omega) ns
  unfold isort
  simpa using hs
theorem isort_perm (ns : List Int) : (isort (fun i j => decide (i ≤ j)) ns).Perm ns := List.mergeSort_perm _ _
theorem isort_lt {ns : List Int} (h : ns.Nodup) : (isort (fun i j => decide (i ≤ j)) ns).Pairwise (· < ·) := by
  have h2 : (isort (fun i j => decide (i ≤ j)) ns).Nodup := (isort_perm ns).nodup_iff.mpr h
  refine (isort_le ns).imp₂ (fun x y a b => ?_) h2
  have b : x ≠ y := b
  omega
theorem intsOf_map : ∀ ns : List Int, intsOf (ns.map V.int) = some ns
  | [] => rfl
  | n :: ns => by
    have ih := intsOf_map ns
    unfold intsOf at ih ⊢
    rw [List.map_cons, List.mapM_cons, ih]
    rfl
theorem tupInts_at {G : Glo} {r : Rho} {h : Hs} {H : Hp} {v : V} {ns : List Int} (S : Sim G r h H) (e : tupInts h v = some ns) : ∃ t, mapV r v = .ref t ∧ H t = some (.tup (ns.map V.int)) := by
  cases v with
  | ref a =>
    have e : (tupAt h a).bind intsOf = some ns := e
    rw [Option.bind_eq_some_iff] at e
    obtain ⟨xs, e1, e2⟩ := e
    have := intsOf_ok e2
    subst this
    unfold tupAt at e1
    split at e1
    · rename_i ys ey
      cases e1
      have q : H (r a) = some (.tup (mapL r (ns.map V.int))) := (S.obj a _ ey).1
      rw [mapL_ints] at q
      exact ⟨r a, rfl, q⟩
    · cases e1
  | _ => cases e
def hInts (H : Hp) : V → List Int
  | .ref t => match H t with
    | some (.tup xs) => (intsOf xs).getD []
    | _ => []
  | _ => []
theorem pb_sorted {G : Glo} : PB G .sorted (rSort2 G.w G.K) := by
  intro E r h H vs Q S w o
  change Out G E wf r h.length (bfSorted vs h) _ at o
  unfold bfSorted at o
  split at o
  · rename_i a
    split at o
    · rename_i ns en
      obtain ⟨hs, hn⟩ := S.obj a _ en
      split at o
      · rename_i h64
        refine .inr ⟨r a, _, _, rfl, hs, h64, fun ns' p hw hm hl hp => ?_⟩
        have e : ns' = isort (fun i j => decide (i ≤ j)) ns := strict_uniq hw (isort_lt hn) fun k => by
          rw [hm k, (isort_perm ns).mem_iff]
          exact decide_eq_true_iff
        have := Out.newL o (Nat.le_refl _) S (fun v hv => by obtain ⟨i, _, rfl⟩ := List.mem_map.mp hv; trivial) p hp
        rw [ext_ref, mapL_ints, ← e] at this
        exact this
      · exact False.elim o
    · split at o
      · rename_i xs ex
        split at o
        · rename_i ns en
          have hs : SqL G.K H (r a) (ns.map V.int) := ints_of S (by rw [ex]; exact en)
          refine .inl (.inl ⟨r a, ns, rfl, hs, fun ns' p hp hw hn => ?_⟩)
          have e : ns' = isort (fun i j => decide (i ≤ j)) ns := PySem.W.os_sorted_mergeSort hp hw
          have := Out.newL o (Nat.le_refl _) S (fun v hv => by obtain ⟨i, _, rfl⟩ := List.mem_map.mp hv; trivial) p hn
          rw [ext_ref, mapL_ints, ← e] at this
          exact this
        · split at o
          · rename_i ht
            obtain ⟨hs, wx⟩ := lstAt_ok S ex
            have hk : ∀ x ∈ xs, ∃ ns, tupInts h x = some ns ∧ ns ≠ [] := fun x hx => by
              have := List.all_eq_true.mp ht x hx
              unfold isTupI at this
              split at this
              · rename_i n t e
                exact ⟨_, e, List.cons_ne_nil _ _⟩
              · cases this
            have gx : ∀ x ∈ xs, ∃ t ns, mapV r x = .ref t ∧ tupInts h x = some ns ∧ ns ≠ [] ∧ SqT G.K H t (ns.map V.int) ∧ hInts H (mapV r x) = ns := fun x hx => by
              obtain ⟨ns, e, hne⟩ := hk x hx
              obtain ⟨t, et, q⟩ := tupInts_at S e
              refine ⟨t, ns, et, e, hne, .of q, ?_⟩
              rw [et]
              unfold hInts
              simp only [q]
              rw [intsOf_map]
              rfl
            refine .inl (.inr ⟨r a, mapL r xs, hInts H, rfl, hs, fun y hy => ?_, fun p hp => ?_⟩)
            · obtain ⟨x, hx, rfl⟩ := List.mem_map.mp hy
              obtain ⟨t, ns, et, e, hne, q, eg⟩ := gx x hx
              exact ⟨t, et, by rw [eg]; exact q, by rw [eg]; exact hne⟩
            · have := Out.newL o (Nat.le_refl _) S (fun v hv => wx v (List.mem_mergeSort.mp hv)) p hp
              rw [ext_ref] at this
              have em : mapL r (xs.mergeSort (tupLe h)) = (mapL r xs).mergeSort (PySem.W.dataLe false fun v => .tuple ((hInts H v).map .int)) := by
                refine List.map_mergeSort fun x hx y hy => ?_
                obtain ⟨_, ns, _, e, _, _, eg⟩ := gx x hx
                obtain ⟨_, ms, _, e2, _, _, eg2⟩ := gx y hy
                unfold tupLe PySem.W.dataLe PySem.W.sortLe
                have e3 : tupKey h x = hInts H (mapV r x) := by rw [eg]; unfold tupKey; rw [e]; rfl
                have e4 : tupKey h y = hInts H (mapV r y) := by rw [eg2]; unfold tupKey; rw [e2]; rfl
                simp only [e3, e4]
              rw [em] at this
              exact this
          · exact False.elim o
      · exact False.elim o
  · exact False.elim o
end Ck
/-! Ck10: isinstance, methods of lists and dicts, list(range). -/
namespace Ck
open PySem L2
section
variable {X : Cx} {G : Glo} {E : XK} {ea eb ec : Expr} {a b c : Ex} {pos apos cpos : Pos} {es : List Expr} {ax : Exs}

/-! ### isinstance -/
def tyN : Ty → Option String
  | .int => some "int" | .bool => some "bool" | .str => some "str" | .list => some "list" | .tuple => some "tuple" | .cls _ => none
def tcB (ty : String) (ans : Bool) : Ty → Bool := fun t => match tyN t with
  | some n => decide (kitB ty n = some ans)
  | none => true
theorem isi_base {r : Rho} {h : Hs} {H : Hp} {v : V} {t : Ty} {n : String} {b : Bool} (S : Sim G r h H) (hn : tyN t = some n) (e : isiP G.P.isa v t h = some b) :
    ∃ T, TyX G.K H (mapV r v) (.type T) ∧ PySem.W.kitOne G.K (.type T) (.type n) = some b := by
  have hN : ∀ d, t ≠ .cls d := fun d z => by rw [z] at hn; cases hn
  cases v with
  | non =>
    have e : (some false : Option Bool) = some b := by cases t <;> first | exact e | exact absurd rfl (hN _)
    cases e
    exact ⟨_, .base .non, kit_ty (by cases t <;> first | (cases hn; decide +kernel) | cases hn)⟩
  | bl k =>
    refine ⟨_, .base (.bl k), kit_ty ?_⟩
    cases t <;> first | (cases hn; cases e; decide +kernel) | cases hn
  | int k =>
    refine ⟨_, .base (.int k), kit_ty ?_⟩
    cases t <;> first | (cases hn; cases e; decide +kernel) | cases hn
  | str k =>
    refine ⟨_, .base (.str k), kit_ty ?_⟩
    cases t <;> first | (cases hn; cases e; decide +kernel) | cases hn
  | ref a =>
    have e : (match (generalizing := false) h[a]? with
      | some (.lst _) => some (match (generalizing := false) t with | .list => true | _ => false)
      | some (.tup _) => some (match (generalizing := false) t with | .tuple => true | _ => false)
      | some (.dK _) => some false
      | _ => none) = some b := by cases t <;> first | exact e | exact absurd rfl (hN _)
    split at e
    · rename_i xs ex
      have e := Option.some.inj e
      subst e
      refine ⟨_, .base (.lst (S.obj a _ ex).1), kit_ty ?_⟩
      cases t <;> first | (cases hn; decide +kernel) | cases hn
    · rename_i xs ex
      have e := Option.some.inj e
      subst e
      refine ⟨_, .base (.tup (S.obj a _ ex).1), kit_ty ?_⟩
      cases t <;> first | (cases hn; decide +kernel) | cases hn
    · rename_i xs ex
      have e := Option.some.inj e
      subst e
      refine ⟨_, .base (.dK (S.obj a _ ex).1), kit_ty ?_⟩
      cases t <;> first | (cases hn; decide +kernel) | cases hn
    · cases e
  | _ => cases t <;> first | cases e | exact absurd rfl (hN _)
theorem d_isi {t : Ty} {n : String} {x : Str} {p p2 : Pos} (hn : tyN t = some n) (ha : PE X ea (semE G E a)) (hv : bootBuiltins x = some (.type n)) (hg : Gl X "isinstance") (hm : X.mg "isinstance" = none) (hg2 : Gl X x) (hm2 : X.mg x = none)
    (hvi : bootBuiltins "isinstance" = some (.builtin "isinstance")) (hG : Fit X G := by exact ⟨rfl⟩) (hx : x ≠ "__name__" := by decide) (hxd : (x == ("__debug__" : Str)) = false := by decide)
    (h1 : starEach [ea, .Name x p2] X.env = (false, eval ea X.env) :: starEach [.Name x p2] X.env := by rfl) (h2 : starEach [.Name x p2] X.env = (false, eval (.Name x p2) X.env) :: starEach [] X.env := by rfl)
    (hpl : (backTo pos (starEach [.Name x p2] X.env)).any (·.1) = false := by rfl) : PE X (.Call (.Name "isinstance" p) [ea, .Name x p2] [] pos) (semE G E (.isi a t)) :=
  PE.weak (pe_callB call_isi hg hm hvi (pa_cons ha (pa_cons (pe_bltn (v := .ty n) hg2 hm2 hv rfl hx hxd) pa_nil h2) h1) (by decide) (by decide) h1 hpl) fun σ H Q ⟨n', r, s, h, R, o⟩ => by
    rw [← hG.k]
    obtain ⟨l, rfl, o⟩ := o.succ
    show semE G E a σ H fun x H1 => rIsi G.K [x, .ty n] H1 Q
    refine toE R (Out.bind o) fun q1 x h1 H1 a1 l1 S1 w1 o1 => ?_
    obtain ⟨b, eb, o1⟩ := o1.ofOptB
    obtain ⟨T, tx, k⟩ := isi_base S1 hn eb
    exact ⟨mapV q1 x, .ty n, _, _, b, rfl, .ty n, tx, k, Out.ok o1 (Nat.le_refl _) S1 trivial⟩

/-! ### methods of lists -/
def MtB (G : Glo) (m : Bm) (rl : V → List V → Hp → VK → Prop) : Prop := ∀ (E : XK) (r : Rho) (h : Hs) (H : Hp) (x : V) (vs : List V) (Q : VK), Sim G r h H → wf h.length x → wfL h.length vs →
      Out G E wf r h.length (bmP m x vs h) (fun q v _ H' => Q (mapV q v) H') → rl (mapV r x) (mapL r vs) H Q
theorem Out.setO {r : Rho} {h : Hs} {H : Hp} {k : Rho → V → Hs → Hp → Prop} {i : Nat} {o o' : O} {u : HO} {v : V} (out : Out G E wf r h.length (.ok v (h.set i o')) k) (S : Sim G r h H) (e : h[i]? = some o) (m : mu o = true) (m' : mu o' = true) (w : wfO h.length o') (x : ObjS G r (upd H (r i) u) (r i) o') (wv : wf h.length v) :
    k r v (h.set i o') (upd H (r i) u) :=
  out _ _ Agree.refl (by rw [List.length_set]; exact Nat.le_refl _) (S.set e m m' w x) (by rw [List.length_set]; exact wv)
theorem mb_append : MtB G .append rAppend := by
  intro E r h H x vs Q S wx wv o
  change Out G E wf r h.length (bmApp x vs h) _ at o
  unfold bmApp at o
  split at o
  · rename_i a y
    split at o
    · rename_i xs e
      split at o
      · rename_i hz
        have hx : H (r a) = some (.lst (mapL r xs)) := (S.obj a _ e).1
        refine ⟨r a, mapL r xs, mapV r y, rfl, rfl, hx, by rw [mapL_length]; exact SZ_lt hz, ?_⟩
        exact Out.setO (u := .lst (mapL r xs ++ [mapV r y])) o S e rfl rfl (fun v hv => (List.mem_append.mp hv).elim ((S.obj a _ e).2 v) fun hv => by rw [List.mem_singleton.mp hv]; exact wv y List.mem_cons_self) (by show upd H _ _ _ = _; rw [upd_same]; unfold mapL; rw [List.map_append]; rfl) trivial
      · exact False.elim o
    · exact False.elim o
  · exact False.elim o
theorem mb_extend : MtB G .extend rExtend := by
  intro E r h H x vs Q S wx wv o
  change Out G E wf r h.length (bmExt x vs h) _ at o
  unfold bmExt at o
  split at o
  · rename_i a b
    split at o
    · rename_i xs ys e e2
      split at o
      · rename_i hz
        have hx : H (r a) = some (.lst (mapL r xs)) := (S.obj a _ e).1
        have hy : H (r b) = some (.lst (mapL r ys)) := (S.obj b _ e2).1
        refine ⟨r a, r b, mapL r xs, mapL r ys, rfl, rfl, hx, hy, by rw [mapL_length, mapL_length]; exact SZ_line hz, ?_⟩
        exact Out.setO (u := .lst (mapL r xs ++ mapL r ys)) o S e rfl rfl (fun v hv => (List.mem_append.mp hv).elim ((S.obj a _ e).2 v) ((S.obj b _ e2).2 v)) (by show upd H _ _ _ = _; rw [upd_same]; unfold mapL; rw [List.map_append]) trivial
      · exact False.elim o
    · exact False.elim o
  · exact False.elim o
theorem mb_pop : MtB G .pop rPop := by
  intro E r h H x vs Q S wx wv o
  change Out G E wf r h.length (bmPop x vs h) _ at o
  unfold bmPop at o
  split at o
  · rename_i a
    split at o
    · rename_i xs e
      split at o
      · rename_i y ey
        have hx : H (r a) = some (.lst (mapL r xs)) := (S.obj a _ e).1
        have wl := (S.obj a _ e).2
        have eg : (mapL r xs)[(mapL r xs).length - 1]? = some (mapV r y) := by
          rw [mapL_length]
          unfold mapL
          rw [List.getElem?_map, ey]
          rfl
        refine ⟨r a, mapL r xs, mapV r y, rfl, rfl, hx, eg, ?_⟩
        exact Out.setO (u := .lst (mapL r xs).dropLast) o S e rfl rfl (fun v hv => wl v (xs.dropLast_sublist.subset hv)) (by show upd H _ _ _ = _; rw [upd_same]; unfold mapL; rw [List.map_dropLast]) (wl y (List.mem_of_getElem? ey))
      · exact False.elim o
    · exact False.elim o
  · exact False.elim o
theorem mb_clear : MtB G .clear rClear := by
  intro E r h H x vs Q S wx wv o
  change Out G E wf r h.length (bmClr x vs h) _ at o
  unfold bmClr at o
  split at o
  · rename_i a
    split at o
    · rename_i xs e
      exact ⟨r a, mapL r xs, rfl, rfl, (S.obj a _ e).1, Out.setO (u := .lst []) o S e rfl rfl (fun v hv => nomatch hv) (by show upd H _ _ _ = _; rw [upd_same]; rfl) trivial⟩
    · exact False.elim o
  · exact False.elim o
theorem mb_reverse : MtB G .reverse rReverse := by
  intro E r h H x vs Q S wx wv o
  change Out G E wf r h.length (bmRev x vs h) _ at o
  unfold bmRev at o
  split at o
  · rename_i a
    split at o
    · rename_i xs e
      exact ⟨r a, mapL r xs, rfl, rfl, (S.obj a _ e).1, Out.setO (u := .lst (mapL r xs).reverse) o S e rfl rfl (fun v hv => (S.obj a _ e).2 v (List.mem_reverse.mp hv)) (by show upd H _ _ _ = _; rw [upd_same]; unfold mapL; rw [List.map_reverse]) trivial⟩
    · exact False.elim o
  · exact False.elim o
theorem bm_lst {m : Bm} {x : V} {h : Hs} (hm : m ≠ .get) (e : bmIs m x h = true) : ∃ a xs, x = .ref a ∧ h[a]? = some (.lst xs) := by
  have e : isLst x h = true := by cases m <;> first | exact absurd rfl hm | exact e
  unfold isLst at e
  split at e
  · split at e
    · exact ⟨_, _, rfl, by assumption⟩
    · cases e
  · cases e
theorem bm_dic {x : V} {h : Hs} (e : bmIs .get x h = true) : ∃ a, x = .ref a ∧ ((∃ kvs, h[a]? = some (.dK kvs)) ∨ ∃ kvs, h[a]? = some (.dT kvs)) := by
  have e : isDic x h = true := e
  unfold isDic at e
  split at e
  · split at e
    · exact ⟨_, rfl, .inl ⟨_, by assumption⟩⟩
    · exact ⟨_, rfl, .inr ⟨_, by assumption⟩⟩
    · cases e
  · cases e
theorem sem_bmL {m : Bm} {rl : V → List V → Hp → VK → Prop} (hm : m ≠ .get) (p : MtB G m rl) {σ : St} {H : Hp} {Q : VK} (x : semE G E (.bm m a ax) σ H Q) : tBM G.K "list" rl (semE G E a) (semA G E ax) σ H Q := by
  obtain ⟨n, r, s, h, R, o⟩ := x
  obtain ⟨l, rfl, o⟩ := o.succ
  refine toE R (Out.bind o) fun q1 x h1 H1 a1 l1 S1 w1 o1 => ?_
  have o1 : Out G E wf q1 h1.length (if bmIs m x h1 = true then (evL (fun e h => (evs G.P l).e e s h) ax h1).bind fun vs h => bmP m x vs h else .no) _ := o1
  split at o1
  · rename_i ei
    obtain ⟨b, xs, rfl, ex⟩ := bm_lst hm ei
    refine ⟨.inl ⟨rfl, _, SqL.of (S1.obj b _ ex).1⟩, toA (R.next a1 l1 S1) (Out.bind o1) fun q2 vs h2 H2 a2 l2 S2 w2 o2 => ?_⟩
    rw [mapV_eq w1 a2]
    exact p E q2 h2 H2 _ vs Q S2 (w1.mono l2) w2 o2
  · exact False.elim o1
theorem d_bm {m : Bm} {rl : V → List V → Hp → VK → Prop} {name : Str} {id : String} (pb : MtB G m rl) (hm : m ≠ .get) (slot : Slot "list" name id) (hty : typeOf (.builtin id) = pure (.type "method_descriptor")) (hr : MtR X id rl) (ha : PE X ea (semE G E a)) (hs : PA X (eb :: es) (semA G E ax))
    (hbase : attributeBase ea name X.env (eval ea X.env) = eval ea X.env := by rfl)
    (hfew : ((backTo cpos (starEach (eb :: es) X.env)).all (fun x => !x.1) && (backToKw cpos (keywordEach [] X.env)).all (fun x => x.1.isSome)
      && decide ((eb :: es).length + ([] : List Keyword).length + (if ([] : List Keyword).isEmpty then 0 else 1) < 30)) = true := by rfl)
    (hline : (apos.endLine == cpos.line) = true := by rfl) (he : starEach (eb :: es) X.env = (false, eval eb X.env) :: starEach es X.env := by rfl) (hplain : (backTo cpos (starEach es X.env)).any (·.1) = false := by rfl) (hG : Fit X G := by exact ⟨rfl⟩) :
    PE X (.Call (.Attribute ea name apos) (eb :: es) [] cpos) (semE G E (.bm m a ax)) :=
  PE.weak (pe_bm PySem.F.plainAttrs_list slot hty hr ha hs hbase hfew hline he hplain) fun _ _ _ x => by
    rw [← hG.k]
    exact sem_bmL hm pb x
theorem d_bm0 {m : Bm} {rl : V → List V → Hp → VK → Prop} {name : Str} {id : String} (pb : MtB G m rl) (hm : m ≠ .get) (slot : Slot "list" name id) (hty : typeOf (.builtin id) = pure (.type "method_descriptor")) (hr : MtR X id rl) (ha : PE X ea (semE G E a))
    (hbase : attributeBase ea name X.env (eval ea X.env) = eval ea X.env := by rfl) (hline : (apos.endLine == cpos.line) = true := by rfl) (hG : Fit X G := by exact ⟨rfl⟩) : PE X (.Call (.Attribute ea name apos) [] [] cpos) (semE G E (.bm m a .nil)) :=
  PE.weak (pe_bm0 PySem.F.plainAttrs_list slot hty hr ha hbase hline) fun σ H Q x => by
    rw [← hG.k]
    obtain ⟨n, r, s, h, R, o⟩ := sem_bmL hm pb x
    exact ⟨n, r, s, h, R, o.imp fun q v h' H' _ _ _ _ ⟨ty, n2, r2, s2, h2, R2, o2⟩ => ⟨ty, Out.ok o2 (Nat.le_refl _) R2.sim (fun _ hv => nomatch hv)⟩⟩
/-! ### dict.get -/
theorem d_dget {e1 e2 : Expr} {x y : Ex} (hu : X.A.units + 1 < cLine) (ha : PE X ea (semE G E a)) (h1 : PE X e1 (semE G E x)) (h2 : PE X e2 (semE G E y)) (m : M2 X ea "get" apos e1 e2 cpos) :
    PE X (.Call (.Attribute ea "get" apos) [e1, e2] [] cpos) (semE G E (.bm .get a (.cons x (.cons y .nil)))) :=
  PE.weak (pe_dget2 hu ha h1 h2 m) fun σ H Q ⟨n, r, s, h, R, o⟩ => by
    obtain ⟨l, rfl, o⟩ := o.succ
    refine toE R (Out.bind o) fun q1 x h1 H1 a1 l1 S1 w1 o1 => ?_
    split at o1
    · rename_i ei
      obtain ⟨b, rfl, hd⟩ := bm_dic ei
      refine ⟨q1 b, rfl, ?_, ?_⟩
      · rcases hd with ⟨kvs, e⟩ | ⟨kvs, e⟩
        · exact .inl ⟨mK q1 kvs, .inl (S1.obj b _ e).1⟩
        · exact .inr ⟨mK q1 kvs, .inl (S1.obj b _ e).1⟩
      · have R1 := R.next a1 l1 S1
        have o2 := Out.bind (WA := wfL) o1
        refine toE R1 (Out.bind o2) fun q2 y2 h2 H2 a2 l2 S2 w2 o3 => ?_
        have R2 := R1.next a2 l2 S2
        have o4 := Out.bind (WA := wfL) o3
        refine toE R2 (Out.bind o4) fun q3 y3 h3 H3 a3 l3 S3 w3 o5 => ?_
        have wl1 : wfL h3.length [y3] := fun v hv => by rw [List.mem_singleton.mp hv]; exact w3
        have o6 := Out.ok o5 (Nat.le_refl _) S3 wl1
        have wl2 : wfL h3.length [y2, y3] := fun v hv => (List.mem_cons.mp hv).elim (fun e => by rw [e]; exact w2.mono l3) (wl1 v)
        have o8 := Out.ok o6 (Nat.le_refl _) S3 wl2
        change Out G E wf q3 h3.length (bmGet (.ref b) [y2, y3] h3) _ at o8
        unfold bmGet at o8
        simp only at o8
        split at o8
        · rename_i ov eo
          obtain ⟨d, wo⟩ := dget_ok S3 eo
          have eb : q1 b = q3 b := V.ref.inj ((mapV_eq w1 a2).trans (mapV_eq (w1.mono l2) a3))
          have ey : mapV q2 y2 = mapV q3 y2 := mapV_eq w2 a3
          rw [eb, ey]
          refine ⟨_, d, ?_⟩
          cases ov with
          | none => exact Out.ok o8 (Nat.le_refl _) S3 w3
          | some v => exact Out.ok o8 (Nat.le_refl _) S3 (wo v rfl)
        · exact False.elim o8
    · exact False.elim o1
end
end Ck
/-! Ck11: iterators. -/
namespace Ck
open PySem L2
def wfD (n : Nat) : ItD → Prop
  | .seq a => a < n
  | .tseq a => a < n
  | .enum a => a < n
  | .zip a b => a < n ∧ b < n
  | .dict a kvs => a < n ∧ ∀ p ∈ kvs, wf n p.2
  | .rng _ _ _ => True
/-- the layer's iterator walks as the own one -/
structure ItR (G : Glo) (d : ItD) (n : Nat) (q : Rho) (J : L2.It) : Prop where
  stop : ∀ (i : Nat) (q' : Rho) (h h' : Hs) (H : Hp), Agree n q q' → n ≤ h.length → Sim G q' h H → itGet d i h = .ok none h' → h' = h ∧ J.stop i H
  go : ∀ (i : Nat) (q' : Rho) (h h' : Hs) (H : Hp) (x : V), Agree n q q' → n ≤ h.length → Sim G q' h H → itGet d i h = .ok (some x) h' → J.go i H ∧
    ∀ y H', J.yld i H y H' → ∃ t, Agree h.length q' t ∧ h.length ≤ h'.length ∧ Sim G t h' H' ∧ wf h'.length x ∧ y = mapV t x
  ex : ∀ (i : Nat) (h h' : Hs) (c : Nat), itGet d i h ≠ .ex c h'
/-- the same tuple under one more own address -/
theorem Sim.alias {G : Glo} {r : Rho} {h : Hs} {H : Hp} {p : Addr} {xs : List V} (S : Sim G r h H) (e : H p = some (.tup (mapL r xs))) (w : wfL h.length xs) : Sim G (ext r h.length p) (h ++ [.tup xs]) H := by
  have old : ∀ (i : Nat) (u : O), (h ++ [O.tup xs])[i]? = some u → (i < h.length ∧ h[i]? = some u) ∨ (i = h.length ∧ u = .tup xs) := by
    intro i u eu
    rcases Nat.lt_trichotomy i h.length with hl | hl | hl
    · rw [List.getElem?_append_left hl] at eu
      exact .inl ⟨hl, eu⟩
    · subst hl
      rw [List.getElem?_append_right (Nat.le_refl _), Nat.sub_self] at eu
      exact .inr ⟨rfl, (Option.some.inj eu).symm⟩
    · have := lt_of_get eu
      rw [List.length_append, List.length_singleton] at this
      omega
  refine ⟨fun i u eu => ?_, fun i j u v eu ev mu' mv eij => ?_⟩
  · rw [List.length_append, List.length_singleton]
    rcases old i u eu with ⟨hl, eu⟩ | ⟨rfl, rfl⟩
    · obtain ⟨a, b⟩ := S.obj i u eu
      have hr : ext r h.length p i = r i := (ext_agree i hl).symm
      rw [hr]
      exact ⟨a.agree b ext_agree, b.mono (Nat.le_succ _)⟩
    · rw [ext_self]
      exact ⟨by show H p = _; rw [e, mapL_eq w ext_agree], w.mono (Nat.le_succ _)⟩
  · rcases old i u eu with ⟨hi, eu1⟩ | ⟨hi, hu⟩
    · rcases old j v ev with ⟨hj, ev1⟩ | ⟨hj, hv⟩
      · rw [← ext_agree i hi, ← ext_agree j hj] at eij
        exact S.inj i j u v eu1 ev1 mu' mv eij
      · subst hv; cases mv
    · subst hu; cases mu'
section
variable {G : Glo}
theorem mapL_get {r : Rho} {xs : List V} {i : Nat} {x : V} (e : xs[i]? = some x) : (mapL r xs)[i]? = some (mapV r x) := by
  unfold mapL
  rw [List.getElem?_map, e]
  rfl
theorem mapL_none {r : Rho} {xs : List V} {i : Nat} (e : xs[i]? = none) : (mapL r xs).length ≤ i := by
  rw [mapL_length]
  exact List.getElem?_eq_none_iff.mp e
theorem ok_inj {A : Type} {a b : A} {h h' : Hs} (e : Ck.R.ok a h = .ok b h') : a = b ∧ h = h' := by
  cases e
  exact ⟨rfl, rfl⟩
theorem itr_list {a n : Nat} {q : Rho} (ha : a < n) : ItR G (.seq a) n q (Itl G.K (q a)) where
  stop := fun i q' h h' H ag hn S e => by
    unfold itGet at e
    simp only at e
    split at e
    · rename_i xs ex
      obtain ⟨e1, e2⟩ := ok_inj e
      obtain ⟨sx, _⟩ := lstAt_ok S ex
      exact ⟨e2.symm, mapL q' xs, by rw [ag a ha]; exact sx, mapL_none e1⟩
    · cases e
  go := fun i q' h h' H x ag hn S e => by
    unfold itGet at e
    simp only at e
    split at e
    · rename_i xs ex
      obtain ⟨e1, e2⟩ := ok_inj e
      subst e2
      obtain ⟨sx, wx⟩ := lstAt_ok S ex
      rw [← ag a ha] at sx
      refine ⟨⟨_, _, sx, mapL_get e1⟩, fun y H' ⟨eH, yy⟩ => ?_⟩
      subst eH
      have := yy _ sx
      rw [mapL_get e1] at this
      exact ⟨q', Agree.refl, Nat.le_refl _, S, wx x (List.mem_of_getElem? e1), (Option.some.inj this).symm⟩
    · cases e
  ex := fun i h h' c e => by
    unfold itGet at e
    simp only at e
    split at e <;> cases e
theorem itr_tup {a n : Nat} {q : Rho} (ha : a < n) : ItR G (.tseq a) n q (Itt G.K (q a)) where
  stop := fun i q' h h' H ag hn S e => by
    unfold itGet at e
    simp only at e
    split at e
    · rename_i xs ex
      obtain ⟨e1, e2⟩ := ok_inj e
      obtain ⟨sx, _⟩ := tupAt_ok S ex
      exact ⟨e2.symm, mapL q' xs, by rw [ag a ha]; exact sx, mapL_none e1⟩
    · cases e
  go := fun i q' h h' H x ag hn S e => by
    unfold itGet at e
    simp only at e
    split at e
    · rename_i xs ex
      obtain ⟨e1, e2⟩ := ok_inj e
      subst e2
      obtain ⟨sx, wx⟩ := tupAt_ok S ex
      rw [← ag a ha] at sx
      refine ⟨⟨_, _, sx, mapL_get e1⟩, fun y H' ⟨eH, yy⟩ => ?_⟩
      subst eH
      have := yy _ sx
      rw [mapL_get e1] at this
      exact ⟨q', Agree.refl, Nat.le_refl _, S, wx x (List.mem_of_getElem? e1), (Option.some.inj this).symm⟩
    · cases e
  ex := fun i h h' c e => by
    unfold itGet at e
    simp only at e
    split at e <;> cases e
theorem itr_rng {lo : Int} {n k : Nat} {q : Rho} : ItR G (.rng lo 1 n) k q (Itr lo n) where
  stop := fun i q' h h' H ag hn S e => by
    obtain ⟨e1, e2⟩ := ok_inj (show Ck.R.ok (if i < n then some (V.int (lo + (i : Nat) * 1)) else none) h = .ok none h' from e)
    refine ⟨e2.symm, ?_⟩
    split at e1
    · cases e1
    · rename_i hi
      exact Nat.le_of_not_lt hi
  go := fun i q' h h' H x ag hn S e => by
    obtain ⟨e1, e2⟩ := ok_inj (show Ck.R.ok (if i < n then some (V.int (lo + (i : Nat) * 1)) else none) h = .ok (some x) h' from e)
    subst e2
    split at e1
    · rename_i hi
      refine ⟨hi, fun y H' ⟨eH, yy⟩ => ?_⟩
      subst eH
      cases e1
      rw [Int.mul_one]
      exact ⟨q', Agree.refl, Nat.le_refl _, S, trivial, yy⟩
    · cases e1
  ex := fun i h h' c e => by cases e
theorem itr_rngC {lo c : Int} {n k : Nat} {q : Rho} : ItR G (.rng lo c n) k q (Itc lo c n) where
  stop := fun i q' h h' H ag hn S e => by
    obtain ⟨e1, e2⟩ := ok_inj (show Ck.R.ok (if i < n then some (V.int (lo + (i : Nat) * c)) else none) h = .ok none h' from e)
    refine ⟨e2.symm, ?_⟩
    split at e1
    · cases e1
    · rename_i hi
      exact Nat.le_of_not_lt hi
  go := fun i q' h h' H x ag hn S e => by
    obtain ⟨e1, e2⟩ := ok_inj (show Ck.R.ok (if i < n then some (V.int (lo + (i : Nat) * c)) else none) h = .ok (some x) h' from e)
    subst e2
    split at e1
    · rename_i hi
      refine ⟨hi, fun y H' ⟨eH, yy⟩ => ?_⟩
      subst eH
      cases e1
      exact ⟨q', Agree.refl, Nat.le_refl _, S, trivial, yy⟩
    · cases e1
  ex := fun i h h' c e => by cases e
theorem itr_enum {a n : Nat} {q : Rho} (ha : a < n) : ItR G (.enum a) n q (Ite G.K (q a)) where
  stop := fun i q' h h' H ag hn S e => by
    unfold itGet at e
    simp only at e
    split at e
    · rename_i xs ex
      split at e
      · cases e
      · rename_i e1
        obtain ⟨_, e2⟩ := ok_inj e
        obtain ⟨sx, _⟩ := lstAt_ok S ex
        exact ⟨e2.symm, mapL q' xs, by rw [ag a ha]; exact sx, mapL_none e1⟩
    · cases e
  go := fun i q' h h' H x ag hn S e => by
    unfold itGet at e
    simp only at e
    split at e
    · rename_i xs ex
      split at e
      · rename_i v e1
        obtain ⟨e3, e2⟩ := ok_inj e
        subst e2
        cases e3
        obtain ⟨sx, wx⟩ := lstAt_ok S ex
        rw [← ag a ha] at sx
        refine ⟨⟨_, _, sx, mapL_get e1⟩, fun y H' ⟨T, x', ey, hT, eH, yy⟩ => ?_⟩
        subst eH ey
        have := yy _ sx
        rw [mapL_get e1] at this
        have this := (Option.some.inj this).symm
        subst this
        have wv := wx v (List.mem_of_getElem? e1)
        refine ⟨ext q' h.length T, ext_agree, by rw [len1]; omega, S.alloc hT (same_upd hT) ?_ ?_, by show h.length < _; rw [len1]; omega, ext_ref.symm⟩
        · show upd H T _ T = _
          rw [upd_same]
          show some (HO.tup [.int i, mapV q' v]) = some (.tup [.int i, mapV (ext q' h.length T) v])
          rw [mapV_eq wv ext_agree]
        · exact fun u hu => by
            rcases List.mem_cons.mp hu with rfl | hu
            · trivial
            · rw [List.mem_singleton.mp hu]
              exact wv.mono (Nat.le_succ _)
      · cases e
    · cases e
  ex := fun i h h' c e => by
    unfold itGet at e
    simp only at e
    split at e
    · split at e <;> cases e
    · cases e
theorem itr_zip {a b n : Nat} {q : Rho} (ha : a < n) (hb : b < n) : ItR G (.zip a b) n q (Itz G.K (q a) (q b)) where
  stop := fun i q' h h' H ag hn S e => by
    unfold itGet at e
    simp only at e
    split at e
    · rename_i xs ys ex ey
      obtain ⟨sx, _⟩ := lstAt_ok S ex
      obtain ⟨sy, _⟩ := lstAt_ok S ey
      rw [← ag a ha] at sx
      rw [← ag b hb] at sy
      split at e
      · cases e
      · rename_i hno
        obtain ⟨_, e2⟩ := ok_inj e
        refine ⟨e2.symm, mapL q' xs, mapL q' ys, sx, sy, ?_⟩
        cases e1 : xs[i]? with
        | none => exact .inl (mapL_none e1)
        | some u =>
          cases e2 : ys[i]? with
          | none => exact .inr (mapL_none e2)
          | some v => exact (hno u v e1 e2).elim
    · cases e
  go := fun i q' h h' H x ag hn S e => by
    unfold itGet at e
    simp only at e
    split at e
    · rename_i xs ys ex ey
      obtain ⟨sx, wx⟩ := lstAt_ok S ex
      obtain ⟨sy, wy⟩ := lstAt_ok S ey
      rw [← ag a ha] at sx
      rw [← ag b hb] at sy
      split at e
      · rename_i u v e1 e2
        obtain ⟨e3, e4⟩ := ok_inj e
        subst e4
        cases e3
        refine ⟨⟨_, _, _, _, sx, sy, mapL_get e1, mapL_get e2⟩, fun y H' ⟨T, x', y', ey, hT, eH, y1, y2⟩ => ?_⟩
        subst eH ey
        have y1 := y1 _ sx
        rw [mapL_get e1] at y1
        have y1 := (Option.some.inj y1).symm
        subst y1
        have y2 := y2 _ sy
        rw [mapL_get e2] at y2
        have y2 := (Option.some.inj y2).symm
        subst y2
        have wu := wx u (List.mem_of_getElem? e1)
        have wv := wy v (List.mem_of_getElem? e2)
        refine ⟨ext q' h.length T, ext_agree, by rw [len1]; omega, S.alloc hT (same_upd hT) ?_ ?_, by show h.length < _; rw [len1]; omega, ext_ref.symm⟩
        · show upd H T _ T = _
          rw [upd_same]
          show some (HO.tup [mapV q' u, mapV q' v]) = some (.tup [mapV (ext q' h.length T) u, mapV (ext q' h.length T) v])
          rw [mapV_eq wu ext_agree, mapV_eq wv ext_agree]
        · exact fun z hz => by
            rcases List.mem_cons.mp hz with rfl | hz
            · exact wu.mono (Nat.le_succ _)
            · rw [List.mem_singleton.mp hz]
              exact wv.mono (Nat.le_succ _)
      · cases e
    · cases e
  ex := fun i h h' c e => by
    unfold itGet at e
    simp only at e
    split at e
    · split at e <;> cases e
    · cases e
theorem keyL_wf {n : Nat} (k : List Key) : wfL n (k.map kV) := fun v hv => by
  obtain ⟨j, _, rfl⟩ := List.mem_map.mp hv
  cases j <;> trivial
theorem keyL_map {r : Rho} (k : List Key) : mapL r (k.map kV) = k.map kV := by
  unfold mapL
  rw [List.map_map]
  exact List.map_congr_left fun j _ => mapV_kV r j
theorem mK_get {A : Type} {r : Rho} {kvs : List (A × V)} {i : Nat} {p : A × V} (e : kvs[i]? = some p) : (mK r kvs)[i]? = some (p.1, mapV r p.2) := by
  unfold mK
  rw [List.getElem?_map, e]
  rfl
theorem mK_length {A : Type} {r : Rho} {kvs : List (A × V)} : (mK r kvs).length = kvs.length := List.length_map ..
theorem itr_dict {a n : Nat} {kvs : List (List Key × V)} {q : Rho} (ha : a < n) (wk : ∀ p ∈ kvs, wf n p.2) : ItR G (.dict a kvs) n q (Itkt (q a) (q.F (q a)) (mK q kvs)) where
  stop := fun i q' h h' H ag hn S e => by
    unfold itGet at e
    simp only at e
    split at e
    · rename_i kvs' ek
      split at e
      · rename_i ee
        subst ee
        have sx : H (q' a) = some (.frz (q'.F (q' a)) (.dT (mK q' kvs'))) := (S.obj a _ ek).1
        rw [← ag a ha, ← ag.f, ← mK_eq wk ag] at sx
        split at e
        · cases e
        · rename_i e1
          obtain ⟨_, e2⟩ := ok_inj e
          exact ⟨e2.symm, sx, by rw [mK_length]; exact List.getElem?_eq_none_iff.mp e1⟩
      · cases e
    · cases e
  go := fun i q' h h' H x ag hn S e => by
    unfold itGet at e
    simp only at e
    split at e
    · rename_i kvs' ek
      split at e
      · rename_i ee
        subst ee
        have sx : H (q' a) = some (.frz (q'.F (q' a)) (.dT (mK q' kvs'))) := (S.obj a _ ek).1
        rw [← ag a ha, ← ag.f, ← mK_eq wk ag] at sx
        split at e
        · rename_i kv e1
          obtain ⟨e3, e2⟩ := ok_inj e
          subst e2
          cases e3
          refine ⟨⟨sx, by rw [mK_length]; exact lt_of_get e1⟩, fun y H' ⟨eH, k, v, T, ek, ey, eT⟩ => ?_⟩
          subst eH ey
          rw [mK_get e1] at ek
          cases ek
          refine ⟨ext q' h.length T, ext_agree, by rw [len1]; omega, S.alias ?_ (keyL_wf _), by show h.length < _; rw [len1]; omega, ext_ref.symm⟩
          rw [keyL_map]
          exact eT
        · cases e
      · cases e
    · cases e
  ex := fun i h h' c e => by
    unfold itGet at e
    simp only at e
    split at e
    · split at e
      · split at e <;> cases e
      · cases e
    · cases e
end
end Ck
/-! Ck12: iterables, targets, comprehensions, the lock. -/
namespace Ck
open PySem L2
def semI (G : Glo) (E : XK) (it : It) : TI := fun σ H R => ∃ n r s h, Rl G r s h σ H ∧ Out G E wfD r h.length (evI (fun e h => (evs G.P n).e e s h) it h) fun q d h' H' => ∀ J, ItR G d h'.length q J → R J H'
section
variable {X : Cx} {G : Glo} {E : XK} {ea eb ec tg : Expr} {a b c : Ex} {pos apos cpos tpos : Pos} {es elts : List Expr} {ax : Exs} {kk : Nat}
theorem PI.weak {t e : Expr} {w w' : TI} (p : PI X t e w) (i : ∀ σ H Q, w' σ H Q → w σ H Q) : PI X t e w' := ⟨fun pins s σ H R I h => p.run pins s σ H R I (i σ H R h)⟩
def iSeq (K : PySem.W.Frag) (tl : TE) : TI := fun σ H R => tl σ H fun x H1 => ∃ a, x = .ref a ∧ (((∃ xs, SqL K H1 a xs) ∧ R (Itl K a) H1) ∨ ((∃ xs, SqT K H1 a xs) ∧ R (Itt K a) H1))
theorem pi_seq {l : Expr} {tl : TE} (hl : PE X l tl) : PI X tg l (iSeq X.K tl) := by
  refine ⟨fun pins s σ H R I h => ?_⟩
  refine thn (hl.run pins s σ H _ I h) fun v s1 ⟨x, H1, I1, r1, q1⟩ => ?_
  obtain ⟨a, e, q1⟩ := q1
  subst e
  cases r1
  rcases q1 with ⟨⟨xs, hq⟩, q⟩ | ⟨⟨xs, hq⟩, q⟩
  · obtain ⟨its, rv, p, hz⟩ := I1.list hq
    refine wpAny_pyIter_list p.isList ?_
    refine ⟨s1.heap.objs.size, [s1.heap.objs.size], _, _, H1, rfl, I1.kept (t' := s1.toks) fun b o e => Heap.get?_push_of_some _ e, turn_list a _, ⟨_, Heap.get?_push_size _ rfl, rfl, rfl⟩, fun b hb => ?_, q⟩
    have e : b = s1.heap.objs.size := by simpa using hb
    subst e
    exact I1.fpOk (Nat.le_refl _) (I1.hok.fresh (Nat.le_refl _))
  · obtain ⟨its, rv, p, hz⟩ := I1.tuple hq
    refine wpAny_pyIter_tuple (show s1.heap.IsTuple a its.toArray from p) ?_
    refine ⟨s1.heap.objs.size, [s1.heap.objs.size], _, _, H1, rfl, I1.kept (t' := s1.toks) fun b o e => Heap.get?_push_of_some _ e, turn_tuple a _, ⟨_, Heap.get?_push_size _ rfl, rfl, rfl⟩, fun b hb => ?_, q⟩
    have e : b = s1.heap.objs.size := by simpa using hb
    subst e
    exact I1.fpOk (Nat.le_refl _) (I1.hok.fresh (Nat.le_refl _))
theorem d_seq (ha : PE X ea (semE G E a)) (hG : Fit X G := by exact ⟨rfl⟩) : PI X tg ea (semI G E (.seq a)) :=
  PI.weak (pi_seq ha) fun σ H Q ⟨n, r, s, h, R, o⟩ => by
    rw [← hG.k]
    refine toE R (Out.bind o) fun q1 x h1 H1 a1 l1 S1 w1 o1 => ?_
    split at o1
    · rename_i p
      split at o1
      · rename_i xs ex
        obtain ⟨sx, _⟩ := lstAt_ok S1 ex
        exact ⟨q1 p, rfl, .inl ⟨⟨_, sx⟩, Out.ok o1 (Nat.le_refl _) S1 w1 _ (itr_list w1)⟩⟩
      · split at o1
        · rename_i xs ex
          obtain ⟨sx, _⟩ := tupAt_ok S1 ex
          exact ⟨q1 p, rfl, .inr ⟨⟨_, sx⟩, Out.ok o1 (Nat.le_refl _) S1 w1 _ (itr_tup w1)⟩⟩
        · exact False.elim o1
    · exact False.elim o1
theorem d_rng1 {p : Pos} (hg : Gl X "range") (hm : X.mg "range" = none) (ha : PE X ea (semE G E a)) (hs : starEach [ea] X.env = [(false, eval ea X.env)] := by rfl) : PI X tg (.Call (.Name "range" p) [ea] [] pos) (semI G E (.rng1 a)) :=
  PI.weak (pi_range1 hg hm (pa_cons ha pa_nil hs) hs) fun σ H Q ⟨n, r, s, h, R, o⟩ => by
    show semE G E a σ H fun x H1 => ∃ j : Int, [x] = [V.int j] ∧ -(2 ^ 62) ≤ j ∧ j < 2 ^ 62 ∧ Q (Itr 0 j.toNat) H1
    refine toE R (Out.bind o) fun q1 x h1 H1 a1 l1 S1 w1 o1 => ?_
    split at o1
    · rename_i j
      split at o1
      · rename_i hb
        simp only [Bool.and_eq_true, decide_eq_true_eq] at hb
        exact ⟨j, rfl, by omega, by omega, Out.ok o1 (Nat.le_refl _) S1 trivial _ itr_rng⟩
      · exact False.elim o1
    · exact False.elim o1
theorem d_rng2 {p : Pos} (hg : Gl X "range") (hm : X.mg "range" = none) (ha : PE X ea (semE G E a)) (hb : PE X eb (semE G E b)) (hs : starEach [ea, eb] X.env = [(false, eval ea X.env), (false, eval eb X.env)] := by rfl) (hs2 : starEach [eb] X.env = [(false, eval eb X.env)] := by rfl) :
    PI X tg (.Call (.Name "range" p) [ea, eb] [] pos) (semI G E (.rng2 a b)) :=
  PI.weak (pi_range2 hg hm (pa_cons ha (pa_cons hb pa_nil hs2) (by rw [hs, hs2])) hs hs2) fun σ H Q ⟨n, r, s, h, R, o⟩ => by
    show semE G E a σ H fun x H1 => semE G E b σ H1 fun y H2 => ∃ i j : Int, [x, y] = [V.int i, V.int j] ∧ (-(2 ^ 62) ≤ i ∧ i < 2 ^ 62 ∧ -(2 ^ 62) ≤ j ∧ j < 2 ^ 62) ∧ Q (Itr i (j - i).toNat) H2
    refine toE R (Out.bind o) fun q1 x h1 H1 a1 l1 S1 w1 o1 => ?_
    refine toE (R.next a1 l1 S1) (Out.bind o1) fun q2 y h2 H2 a2 l2 S2 w2 o2 => ?_
    split at o2
    · rename_i i j
      split at o2
      · rename_i hb
        simp only [Bool.and_eq_true, decide_eq_true_eq] at hb
        exact ⟨i, j, rfl, ⟨by omega, by omega, by omega, by omega⟩, Out.ok o2 (Nat.le_refl _) S2 trivial _ itr_rng⟩
      · exact False.elim o2
    · exact False.elim o2
theorem d_enum {p : Pos} (hg : Gl X "enumerate") (hm : X.mg "enumerate" = none) (ha : PE X ea (semE G E a)) (hG : Fit X G := by exact ⟨rfl⟩) (hs : starEach [ea] X.env = [(false, eval ea X.env)] := by rfl) : PI X (.Tuple elts kk tpos) (.Call (.Name "enumerate" p) [ea] [] pos) (semI G E (.enum a)) :=
  PI.weak (pi_enum hg hm (pa_cons ha pa_nil hs) hs) fun σ H Q ⟨n, r, s, h, R, o⟩ => by
    rw [← hG.k]
    show semE G E a σ H fun x H1 => ∃ a xs, [x] = [V.ref a] ∧ SqL G.K H1 a xs ∧ Q (Ite G.K a) H1
    refine toE R (Out.bind o) fun q1 x h1 H1 a1 l1 S1 w1 o1 => ?_
    split at o1
    · rename_i p
      split at o1
      · rename_i xs ex
        obtain ⟨sx, _⟩ := lstAt_ok S1 ex
        exact ⟨q1 p, _, rfl, sx, Out.ok o1 (Nat.le_refl _) S1 w1 _ (itr_enum w1)⟩
      · exact False.elim o1
    · exact False.elim o1
theorem d_zip {p : Pos} (hg : Gl X "zip") (hm : X.mg "zip" = none) (ha : PE X ea (semE G E a)) (hb : PE X eb (semE G E b)) (hG : Fit X G := by exact ⟨rfl⟩)
    (hs : starEach [ea, eb] X.env = (false, eval ea X.env) :: starEach [eb] X.env := by rfl) (hs2 : starEach [eb] X.env = (false, eval eb X.env) :: starEach [] X.env := by rfl) (hpl : (backTo pos (starEach [eb] X.env)).any (·.1) = false := by rfl) :
    PI X (.Tuple elts kk tpos) (.Call (.Name "zip" p) [ea, eb] [] pos) (semI G E (.zip a b)) :=
  PI.weak (pi_zip hg hm (pa_cons ha (pa_cons hb pa_nil hs2) hs) hs hpl) fun σ H Q ⟨n, r, s, h, R, o⟩ => by
    rw [← hG.k]
    show semE G E a σ H fun x H1 => semE G E b σ H1 fun y H2 => ∃ a b xs ys, [x, y] = [V.ref a, V.ref b] ∧ SqL G.K H2 a xs ∧ SqL G.K H2 b ys ∧ Q (Itz G.K a b) H2
    refine toE R (Out.bind o) fun q1 x h1 H1 a1 l1 S1 w1 o1 => ?_
    refine toE (R.next a1 l1 S1) (Out.bind o1) fun q2 y h2 H2 a2 l2 S2 w2 o2 => ?_
    rw [mapV_eq w1 a2]
    have w1' := w1.mono l2
    split at o2
    · rename_i p p2
      split at o2
      · rename_i xs ys ex ey
        obtain ⟨sx, _⟩ := lstAt_ok S2 ex
        obtain ⟨sy, _⟩ := lstAt_ok S2 ey
        exact ⟨q2 p, q2 p2, _, _, rfl, sx, sy, Out.ok o2 (Nat.le_refl _) S2 ⟨w1', w2⟩ _ (itr_zip w1' w2)⟩
      · exact False.elim o2
    · exact False.elim o2
/-- over a dict that is locked -/
theorem d_keys (ha : PE X ea (semE G E a)) : PI X tg ea (semI G E (.dict a)) :=
  PI.weak (pi_keys ha) fun σ H Q ⟨n, r, s, h, R, o⟩ => by
    refine toE R (Out.bind o) fun q1 x h1 H1 a1 l1 S1 w1 o1 => ?_
    split at o1
    · rename_i p
      split at o1
      · rename_i kvs ek
        obtain ⟨sx, wx⟩ := S1.obj p _ ek
        exact ⟨q1 p, _, rfl, .inr ⟨_, sx, Out.ok o1 (Nat.le_refl _) S1 ⟨w1, wx⟩ _ (itr_dict w1 wx)⟩⟩
      · exact False.elim o1
    · exact False.elim o1

/-! ### targets -/
def semG (G : Glo) (tg : Tg) : TG := fun y σ H Q => ∃ r s h x s2, Rl G r s h σ H ∧ wf h.length x ∧ y = mapV r x ∧ bindTg tg x s h = some s2 ∧ Q (mapS r s2) H
theorem PG.weak {t : Expr} {g g' : TG} (p : PG X t g) (i : ∀ v σ H Q, g' v σ H Q → g v σ H Q) : PG X t g' := ⟨fun pins s σ H v u Q I r h => p.run pins s σ H v u Q I r (i v σ H Q h)⟩
theorem PGs.weak {t : List Expr} {g g' : TGs} (p : PGs X t g) (i : ∀ v σ H Q, g' v σ H Q → g v σ H Q) : PGs X t g' := ⟨fun pins s σ H v u Q I r h => p.run pins s σ H v u Q I r (i v σ H Q h)⟩
theorem mapS_set {r : Rho} {s : Sts} {i : Nat} {v : V} : mapS r (s.set i (some v)) = (mapS r s).set i (some (mapV r v)) := by
  unfold mapS
  rw [List.map_set]
  rfl
theorem d_gname (i : Nat) {x : Str} (hN : X.N.Nodup) (hi : X.N[i]? = some x := by rfl) (hx : Loc X.env.scope x := by first | exact Or.inl rfl | exact Or.inr rfl) (hf : X.fn x = true ∨ X.env.scope.names.lookup x = some .local := by first | exact .inl rfl | exact .inr rfl) : PG X (.Name x pos) (semG G (.name i)) :=
  PG.weak (pg_name hN hi hx hf) fun y σ H Q ⟨r, s, h, x, s2, R, w, ey, eb, q⟩ => by
    subst ey
    cases eb
    rw [mapS_set, ← R.st] at q
    exact q
def semGs (is : List Nat) : TGs := fun ys σ H Q => ∃ r s xs s2, σ = mapS r s ∧ ys = mapL r xs ∧ setAll is xs s = some s2 ∧ Q (mapS r s2) H
theorem d_gnil : PGs X [] (semGs []) := PGs.weak pgs_nil fun ys σ H Q ⟨r, s, xs, s2, es, ey, eb, q⟩ => by
  subst es ey
  cases xs with
  | nil =>
    cases eb
    exact ⟨rfl, q⟩
  | cons x xs => cases eb
theorem d_gcons (i : Nat) {x : Str} {es : List Expr} {is : List Nat} (h2 : PGs X es (semGs is)) (hN : X.N.Nodup) (hi : X.N[i]? = some x := by rfl) (hx : Loc X.env.scope x := by first | exact Or.inl rfl | exact Or.inr rfl) (hf : X.fn x = true ∨ X.env.scope.names.lookup x = some .local := by first | exact .inl rfl | exact .inr rfl)
    (hs : (assignEach (.Name x pos :: es) X.env).map (·.2) = assign (.Name x pos) X.env :: (assignEach es X.env).map (·.2) := by rfl) : PGs X (.Name x pos :: es) (semGs (i :: is)) :=
  PGs.weak (pgs_cons (pg_name hN hi hx hf) h2 hs) fun ys σ H Q ⟨r, s, xs, s2, es, ey, eb, q⟩ => by
    subst es ey
    cases xs with
    | nil => cases eb
    | cons x xs => exact ⟨mapV r x, mapL r xs, rfl, r, s.set i (some x), xs, s2, mapS_set.symm, rfl, eb, q⟩
theorem setAll_len : ∀ {is : List Nat} {xs : List V} {s s2 : Sts}, setAll is xs s = some s2 → xs.length = is.length
  | [], [], _, _, _ => rfl
  | [], _ :: _, _, _, e => by cases e
  | _ :: _, [], _, _, e => by cases e
  | _ :: is, _ :: xs, _, _, e => congrArg (· + 1) (setAll_len (is := is) (xs := xs) e)
theorem d_gtup {k : Nat} {is : List Nat} (hc : X.calm = true) (h : PGs X elts (semGs is)) (hn : (assignEach elts X.env).length = is.length := by rfl) (hst : (assignEach elts X.env).findIdx? (·.1) = none := by rfl) (hG : Fit X G := by exact ⟨rfl⟩) : PG X (.Tuple elts k pos) (semG G (.tup is)) :=
  PG.weak (pg_tup hc h hn hst) fun y σ H Q ⟨r, s, h, x, s2, R, w, ey, eb, q⟩ => by
    rw [← hG.k]
    subst ey
    cases x with
    | ref b =>
      have eb : (match tupAt h b with | some xs => setAll is xs s | none => none) = some s2 := eb
      split at eb
      · rename_i xs ex
        obtain ⟨sx, wx⟩ := tupAt_ok R.sim ex
        exact ⟨r b, mapL r xs, rfl, sx, by rw [mapL_length]; exact setAll_len eb, r, s, xs, s2, R.st, rfl, eb, q⟩
      · cases eb
    | _ => cases eb
theorem set_wf {n : Nat} {s : Sts} {i : Nat} {v : V} (w : ∀ (i : Nat) (v : V), s[i]? = some (some v) → wf n v) (wv : wf n v) : ∀ (j : Nat) (u : V), (s.set i (some v))[j]? = some (some u) → wf n u := by
  intro j u e
  by_cases hj : i = j
  · subst hj
    by_cases hl : i < s.length
    · rw [List.getElem?_set_self hl] at e
      cases e
      exact wv
    · rw [List.getElem?_eq_none (by rw [List.length_set]; omega)] at e
      cases e
  · rw [List.getElem?_set_ne hj] at e
    exact w j u e
theorem setAll_wf {n : Nat} : ∀ {is : List Nat} {xs : List V} {s s2 : Sts}, setAll is xs s = some s2 → wfL n xs → (∀ (i : Nat) (v : V), s[i]? = some (some v) → wf n v) → ∀ (i : Nat) (v : V), s2[i]? = some (some v) → wf n v
  | [], [], _, _, e, _, w => by
    cases e
    exact w
  | [], _ :: _, _, _, e, _, _ => by cases e
  | _ :: _, [], _, _, e, _, _ => by cases e
  | j :: is, x :: xs, s, s2, e, wl, w => setAll_wf (is := is) (xs := xs) (s := s.set j (some x)) e (fun v hv => wl v (List.mem_cons_of_mem _ hv)) (set_wf w (wl x List.mem_cons_self))
theorem bindTg_wf {tg : Tg} {x : V} {s s2 : Sts} {h : Hs} {r : Rho} {H : Hp} (S : Sim G r h H) (wx : wf h.length x) (w : ∀ (i : Nat) (v : V), s[i]? = some (some v) → wf h.length v) (e : bindTg tg x s h = some s2) : ∀ (i : Nat) (v : V), s2[i]? = some (some v) → wf h.length v := by
  cases tg with
  | name i =>
    cases e
    exact set_wf w wx
  | tup is =>
    cases x with
    | ref b =>
      have e : (match tupAt h b with | some xs => setAll is xs s | none => none) = some s2 := e
      split at e
      · rename_i xs ex
        exact setAll_wf e (tupAt_ok S ex).2 w
      · cases e
    | _ => cases e
end
end Ck
/-! Ck13: comprehensions, the lock. -/
namespace Ck
open PySem L2
theorem set_set {A : Type} {l : List A} {i : Nat} {a b : A} : (l.set i a).set i b = l.set i b := List.set_set ..
theorem wipe_set {s : Sts} {i : Nat} {v : Option V} : ∀ {ws : List Nat}, i ∈ ws → wipe (s.set i v) ws = wipe s ws
  | [], h => nomatch h
  | w :: ws, h => by
    show (wipe (s.set i v) ws).set w none = (wipe s ws).set w none
    by_cases hm : i ∈ ws
    · rw [wipe_set hm]
    · have e : i = w := by
        rcases List.mem_cons.mp h with e | e
        · exact e
        · exact absurd e hm
      subst e
      have com : ∀ ws : List Nat, i ∉ ws → wipe (s.set i v) ws = (wipe s ws).set i v := by
        intro ws
        induction ws with
        | nil => intro _; rfl
        | cons w ws ih =>
          intro hn
          show (wipe (s.set i v) ws).set w none = ((wipe s ws).set w none).set i v
          rw [ih fun z => hn (List.mem_cons_of_mem _ z)]
          exact List.set_comm _ _ fun z => hn (by rw [z]; exact List.mem_cons_self)
      rw [com ws hm, set_set]
theorem wipe_wipe {s : Sts} : ∀ {vs ws : List Nat}, (∀ i ∈ vs, i ∈ ws) → wipe (wipe s vs) ws = wipe s ws
  | [], _, _ => rfl
  | v :: vs, ws, h => by
    show wipe ((wipe s vs).set v none) ws = wipe s ws
    rw [wipe_set (h v List.mem_cons_self)]
    exact wipe_wipe fun i hi => h i (List.mem_cons_of_mem _ hi)
theorem mapS_wipe {r : Rho} {s : Sts} : ∀ {ws : List Nat}, mapS r (wipe s ws) = wipe (mapS r s) ws
  | [] => rfl
  | w :: ws => by
    show mapS r ((wipe s ws).set w none) = (wipe (mapS r s) ws).set w none
    rw [← mapS_wipe (ws := ws)]
    unfold mapS
    rw [List.map_set]
    rfl
theorem setAll_wipe : ∀ {is : List Nat} {xs : List V} {s s2 : Sts} {ws : List Nat}, setAll is xs s = some s2 → (∀ i ∈ is, i ∈ ws) → wipe s2 ws = wipe s ws
  | [], [], _, _, _, e, _ => by cases e; rfl
  | [], _ :: _, _, _, _, e, _ => by cases e
  | _ :: _, [], _, _, _, e, _ => by cases e
  | i :: is, x :: xs, s, s2, ws, e, h => by
    rw [setAll_wipe (is := is) (xs := xs) (s := s.set i (some x)) e fun j hj => h j (List.mem_cons_of_mem _ hj)]
    exact wipe_set (h i List.mem_cons_self)
theorem bindTg_wipe {tg : Tg} {x : V} {s s2 : Sts} {h : Hs} {ws : List Nat} (e : bindTg tg x s h = some s2) (hw : ∀ i ∈ slotsTg tg, i ∈ ws) : wipe s2 ws = wipe s ws := by
  cases tg with
  | name i =>
    cases e
    exact wipe_set (hw i List.mem_cons_self)
  | tup is =>
    cases x with
    | ref b =>
      have e : (match tupAt h b with | some xs => setAll is xs s | none => none) = some s2 := e
      split at e
      · exact setAll_wipe e hw
      · cases e
    | _ => cases e
theorem wipe_wf {n : Nat} {s : Sts} {ws : List Nat} (w : ∀ (i : Nat) (v : V), s[i]? = some (some v) → wf n v) : ∀ (i : Nat) (v : V), (wipe s ws)[i]? = some (some v) → wf n v := fun i v e => w i v (wipe_some e).1
section
variable {X : Cx} {G : Glo} {E : XK} {ea eb ec tg elt iter : Expr} {a b c : Ex} {pos apos cpos tpos : Pos} {es elts ifs : List Expr} {kk : Nat}
theorem d_tyes : PTs X [] (semT G E (.cst (.bl true))) := ⟨fun pins s σ H Q I h => pts_nil.run pins s σ H Q I (by
  obtain ⟨n, r, s, h, R, o⟩ := h
  obtain ⟨l, rfl, o⟩ := o.succ
  obtain ⟨b, eb, q⟩ := Out.ok (show Out G E wf r h.length (Ck.R.ok (.bl true) h) _ from o) (Nat.le_refl _) R.sim trivial
  cases eb
  exact q)⟩
theorem Out.ofGet {A B : Type} {WB : Nat → B → Prop} {r : Rho} {n : Nat} {x : Ck.R A} {f : A → Hs → Ck.R B} {k : Rho → B → Hs → Hp → Prop} (o : Out G E WB r n (x.bind f) k) (hx : ∀ c h', x ≠ .ex c h') : ∃ a h', x = .ok a h' ∧ Out G E WB r n (f a h') k := by
  cases x with
  | ok a h' => exact ⟨a, h', rfl, o⟩
  | ex c h' => exact absurd rfl (hx c h')
  | no => exact False.elim o
theorem sem_comp {ws : List Nat} {t : Tg} {it : It} (hw : ∀ i ∈ slotsTg t, i ∈ ws) {σ : St} {H : Hp} {Q : VK} (x : semE G E (.comp ws t it c a) σ H Q) : tLc (semI G E it) (semG G t) (semT G E0 c) (semE G E0 a) ws σ H Q := by
  obtain ⟨n, r, s, h, R, o⟩ := x
  obtain ⟨l, rfl, o⟩ := o.succ
  refine ⟨l, r, s, h, R, (Out.bind (WA := wfD) o).imp fun q1 d h1 H1 a1 l1 S1 w1 o1 J ir D hD => ?_⟩
  have R1 := R.next a1 l1 S1
  have S2 : Sim G (ext q1 h1.length D) (h1 ++ [.lst []]) (upd H1 D (.lst [])) := S1.alloc hD (same_upd hD) (by show upd H1 D _ D = _; rw [upd_same]; rfl) (fun _ hv => nomatch hv)
  have o2 := Out.mono (Out.bind (WA := fun _ (_ : Unit) => True) o1) (q := ext q1 h1.length D) (m := (h1 ++ [O.lst []]).length) ext_agree (by rw [len1]; omega)
  have o3 := Out.noexE (E' := E0) o2
  let W : Nat → Nat → Hp → Prop := fun i m H => ∃ q h, Agree (h1.length + 1) (ext q1 h1.length D) q ∧ h1.length + 1 ≤ h.length ∧ Sim G q h H ∧
    Out G E0 (fun _ (_ : Unit) => True) q h.length (lcLoop (evs G.P l).e d t c a (wipe s ws) h1.length m i h) fun q _ h' H' => Out G E wf q h'.length (Ck.R.ok (.ref h1.length) h') fun q v _ H' => Q (mapV q v) H'
  refine ⟨W, ⟨l, ext q1 h1.length D, h1 ++ [.lst []], Agree.refl, by rw [len1]; omega, S2, o3⟩, fun i m H2 ⟨q, h2, ag, ln, S, oo⟩ => ?_⟩
  have qD : q h1.length = D := by rw [← ag h1.length (Nat.lt_succ_self _), ext_self]
  have agD : Agree h1.length q1 q := ext_agree.trans (Nat.le_succ _) ag
  cases m with
  | zero => exact False.elim oo
  | succ m =>
    change Out G E0 (fun _ (_ : Unit) => True) q h2.length ((itGet d i h2).bind fun o h => match o with
      | none => .ok () h
      | some x => (Ck.R.ofOpt h (bindTg t x (wipe s ws) h)).bind fun s2 h => ((evs G.P l).e c s2 h).bind fun cv h => (asBool cv h).bind fun b h =>
        if b then ((evs G.P l).e a s2 h).bind fun y h => match h[h1.length]? with
          | some (.lst acc) => if acc.length < SZ then lcLoop (evs G.P l).e d t c a (wipe s ws) h1.length m (i + 1) (h.set h1.length (.lst (acc ++ [y]))) else .no
          | _ => .no
        else lcLoop (evs G.P l).e d t c a (wipe s ws) h1.length m (i + 1) h) _ at oo
    obtain ⟨o', h3, eg, oo⟩ := oo.ofGet fun c h' => ir.ex i h2 h' c
    cases o' with
    | none =>
      obtain ⟨e1, st⟩ := ir.stop i q h2 h3 H2 agD (by omega) S eg
      subst e1
      refine .inl ⟨st, ?_⟩
      have this := Out.ok (Out.ok oo (Nat.le_refl _) S trivial) (Nat.le_refl _) S (by show h1.length < _; omega)
      rw [show mapV q (.ref h1.length) = V.ref D by show V.ref _ = _; rw [qD]] at this
      exact this
    | some x =>
      obtain ⟨go, yld⟩ := ir.go i q h2 h3 H2 x agD (by omega) S eg
      refine .inr ⟨go, fun H' => ∃ m', m' < m + 1 ∧ W (i + 1) m' H', fun H' z => z, fun y H' yy => ?_⟩
      obtain ⟨t1, at1, lt1, S3, wx, ey⟩ := yld y H' yy
      obtain ⟨s2, es2, oo⟩ := oo.ofOptB
      have ws0 : ∀ (i : Nat) (v : V), (wipe s ws)[i]? = some (some v) → wf h3.length v := wipe_wf fun i v e => (R1.ws i v e).mono (by omega)
      have at0 : Agree h1.length q1 t1 := agD.trans (by omega) at1
      have R3 : Rl G t1 (wipe s ws) h3 (wipe σ ws) H' := ⟨S3, by rw [mapS_wipe, ← mapS_eq R1.ws at0, ← R1.st], ws0⟩
      refine ⟨t1, wipe s ws, h3, x, s2, R3, wx, ey, es2, ?_, ?_⟩
      · have hw2 := bindTg_wipe es2 hw
        rw [wipe_wipe fun i hi => hi] at hw2
        rw [← mapS_wipe, hw2, mapS_wipe, ← mapS_eq R1.ws at0, ← R1.st]
      · have R4 : Rl G t1 s2 h3 (mapS t1 s2) H' := ⟨S3, rfl, bindTg_wf S3 wx ws0 es2⟩
        have oo := Out.mono oo (q := t1) (m := h3.length) at1 lt1
        refine toT R4 (Out.bind oo) fun q4 cv h4 H4 a4 l4 S4 w4 o4 => ?_
        obtain ⟨b, rfl, o4⟩ := o4.boolB
        refine ⟨b, rfl, ?_⟩
        cases b with
        | false =>
          refine iteF ⟨m, Nat.lt_succ_self _, q4, h4, ?_, by omega, S4, o4⟩
          exact ag.trans ln (at1.trans lt1 a4)
        | true =>
          refine iteT (toE (R4.next a4 l4 S4) (Out.bind o4) fun q5 yv h5 H5 a5 l5 S5 w5 o5 => ?_)
          have ag5 : Agree (h1.length + 1) (ext q1 h1.length D) q5 := ag.trans ln (at1.trans lt1 (a4.trans l4 a5))
          have qD5 : q5 h1.length = D := by rw [← ag5 h1.length (Nat.lt_succ_self _), ext_self]
          split at o5
          · rename_i acc ea
            split at o5
            · rename_i hz
              obtain ⟨sx, wa⟩ := S5.obj h1.length _ ea
              change H5 (q5 h1.length) = some (.lst (mapL q5 acc)) at sx
              rw [qD5] at sx
              refine ⟨mapL q5 acc, sx, by rw [mapL_length]; exact SZ_lt hz, m, Nat.lt_succ_self _, q5, h5.set h1.length (.lst (acc ++ [yv])), ag5, by rw [List.length_set]; omega, ?_, ?_⟩
              · have := S5.set (o' := .lst (acc ++ [yv])) (u := .lst (mapL q5 acc ++ [mapV q5 yv])) ea rfl rfl (fun v hv => (List.mem_append.mp hv).elim (wa v) fun hv => by rw [List.mem_singleton.mp hv]; exact w5) (by show upd H5 _ _ _ = _; rw [upd_same]; unfold mapL; rw [List.map_append]; rfl)
                rw [qD5] at this
                exact this
              · exact Out.mono o5 Agree.refl (by rw [List.length_set]; exact Nat.le_refl _)
            · exact False.elim o5
          · exact False.elim o5
theorem d_comp {scope : Scope} {own : List (Str × Nat)} {t : Tg} {it : It} {ws : List Nat} (hc : X.calm = true) (hN : X.N.Nodup) (hi : PI X tg iter (semI G E it)) (ok : BlkOk X.N X.env.scope scope own)
    (hg : ∀ (s : Shared) (H : Hp) (C : Addr) (cl : List (Str × Addr)) (fp : List Addr), PG (X.blk s H scope (compEnvC scope cl C X.env) fp) tg (semG G t)) (ht : ∀ (s : Shared) (H : Hp) (C : Addr) (cl : List (Str × Addr)) (fp : List Addr), PTs (X.blk s H scope (compEnvC scope cl C X.env) fp) ifs (semT G E0 c))
    (he : ∀ (s : Shared) (H : Hp) (C : Addr) (cl : List (Str × Addr)) (fp : List Addr), PE (X.blk s H scope (compEnvC scope cl C X.env) fp) elt (semE G E0 a)) (hws : own.map (·.2) = ws := by rfl) (hw : ∀ i ∈ slotsTg t, i ∈ ws := by decide) (hs : ∀ x, foldedSetIterable iter X.env x = pure x := by intro _; rfl) :
    PE X (.ListComp elt [⟨tg, iter, ifs, 0⟩] scope pos) (semE G E (.comp ws t it c a)) := by
  subst hws
  exact PE.weak (pe_lc hc hN hi ok hg ht he hs) fun _ _ _ x => sem_comp hw x
theorem d_setComp {i : Nat} {y : Str} {py spos : Pos} {scope : Scope} {own : List (Str × Nat)} {t : Tg} {it : It} {ws : List Nat} (hc : X.calm = true) (hN : X.N.Nodup) (hyl : X.env.scope.names.lookup y = some .local)
    (hsw : swapsWith (.ListComp elt [⟨tg, iter, ifs, 0⟩] scope pos) (some (.Name y py)) spos.line X.env = pure true) (hi : PI X tg iter (semI G E it)) (ok : BlkOk X.N X.env.scope scope own)
    (hg : ∀ (s : Shared) (H : Hp) (C : Addr) (cl : List (Str × Addr)) (fp : List Addr), PG (X.blk s H scope (compEnvC scope cl C X.env) fp) tg (semG G t)) (ht : ∀ (s : Shared) (H : Hp) (C : Addr) (cl : List (Str × Addr)) (fp : List Addr), PTs (X.blk s H scope (compEnvC scope cl C X.env) fp) ifs (semT G E0 c))
    (he : ∀ (s : Shared) (H : Hp) (C : Addr) (cl : List (Str × Addr)) (fp : List Addr), PE (X.blk s H scope (compEnvC scope cl C X.env) fp) elt (semE G E0 a)) (hy : X.N[i]? = some y := by rfl) (hws : own.map (·.2) = ws := by rfl) (hw : ∀ i ∈ slotsTg t, i ∈ ws := by decide) (hs : ∀ x, foldedSetIterable iter X.env x = pure x := by intro _; rfl) :
    PS X (.Assign [.Name y py] (.ListComp elt [⟨tg, iter, ifs, 0⟩] scope pos) spos) (semS G E (.asg (.name i) (.comp ws t it c a))) := by
  subst hws
  refine PS.weak (ps_setLc hc hN hy hyl hsw hi ok hg ht he hs) fun D σ H x => ?_
  obtain ⟨n, r, s, h, R, o⟩ := x
  obtain ⟨l, rfl, o⟩ := o.succS
  have o1 := Out.bind (WA := wf) o
  refine sem_comp (a := a) (c := c) (E := E) hw ⟨l, r, s, h, R, o1.imp fun q v h' H' a1 l1 S1 w1 o2 => ?_⟩
  obtain ⟨s2, e2, o2⟩ := o2.ofOptB
  cases e2
  have R1 := R.next a1 l1 S1
  have := Out.ok o2 (Nat.le_refl _) S1 (set_wf R1.ws w1)
  change D.nx (mapS q (s.set i (some v))) H' at this
  rw [mapS_set, ← R1.st] at this
  exact this

/-! ### the lock -/
def tLock2 (t : TE) : TE := fun σ H Q => ∃ d u, H d = some u ∧ Mut (some u) ∧ ∀ od, t σ (upd H d (.frz od u)) fun v H' => ∃ od', H' d = some (.frz od' u) ∧ Q v (upd H' d u)
theorem pe_lock2 {e : Expr} {t : TE} (h : PE X e t) : PE X e (tLock2 t) := by
  refine ⟨fun pins s σ H Q I hw => ?_⟩
  obtain ⟨d, u, hd, mu, hw⟩ := hw
  obtain ⟨od, I1⟩ := I.lock hd mu
  refine thn (h.run pins s σ _ _ I1 (hw od)) fun v s1 ⟨x, H1, I2, r, od', e2, q⟩ => ?_
  exact ⟨x, _, I2.unlock e2 (I.nofrz hd mu), r, q⟩
/-- an expression while the dict under the name i is walked -/
theorem d_lock {e : Expr} (i : Nat) (h : PE X e (semE G E0 a)) : PE X e (semE G E (.lock (.var i) a)) :=
  PE.weak (pe_lock2 h) fun σ H Q ⟨n, r, s, h, R, o⟩ => by
    obtain ⟨l, rfl, o⟩ := o.succ
    change Out G E wf r h.length (((evs G.P l).e (.var i) s h).bind fun x h => match x with
      | .ref a' => match h[a']? with
        | some (.dT kvs) => ((evs G.P l).e a s (h.set a' (.lkT kvs))).noex.bind fun v h => match h[a']? with
          | some (.lkT kvs') => if kvs' = kvs then .ok v (h.set a' (.dT kvs)) else .no
          | _ => .no
        | _ => .no
      | _ => .no) _ at o
    cases l with
    | zero => exact False.elim o
    | succ m =>
      change Out G E wf r h.length ((match s[i]? with | some (some v) => Ck.R.ok v h | _ => .no : Ck.R V).bind _) _ at o
      cases e : s[i]? with
      | none =>
        rw [e] at o
        exact False.elim o
      | some u =>
        cases u with
        | none =>
          rw [e] at o
          exact False.elim o
        | some v =>
          rw [e] at o
          change Out G E wf r h.length (match (generalizing := false) v with
            | .ref a' => match h[a']? with
              | some (.dT kvs) => ((evs G.P (m + 1)).e a s (h.set a' (.lkT kvs))).noex.bind fun v h => match h[a']? with
                | some (.lkT kvs') => if kvs' = kvs then .ok v (h.set a' (.dT kvs)) else .no
                | _ => .no
              | _ => .no
            | _ => .no) _ at o
          split at o
          · rename_i p
            split at o
            · rename_i kvs ek
              obtain ⟨sx, wk⟩ := R.sim.obj p _ ek
              change H (r p) = some (.dT (mK r kvs)) at sx
              refine ⟨r p, .dT (mK r kvs), sx, trivial, fun od => ?_⟩
              let r' : Rho := ⟨r.m, fun b => if b = r p then od else r.F b⟩
              have em : ∀ xs, mapV r' xs = mapV r xs := fun xs => by cases xs <;> rfl
              have eS : ∀ s, mapS r' s = mapS r s := fun s => by
                unfold mapS
                refine List.map_congr_left fun x _ => ?_
                cases x with
                | none => rfl
                | some v => show some _ = some _; rw [em]
              have eK : ∀ {A : Type} (kvs : List (A × V)), mK r' kvs = mK r kvs := fun kvs => by
                unfold mK
                exact List.map_congr_left fun x _ => by rw [em]
              have eL : ∀ xs, mapL r' xs = mapL r xs := fun xs => by
                unfold mapL
                exact List.map_congr_left fun x _ => em x
              have eF : ∀ xs, mF r' xs = mF r xs := fun xs => by
                unfold mF
                exact List.map_congr_left fun x _ => by rw [em]
              have S0 : Sim G r' h H := by
                refine ⟨fun j o ej => ?_, R.sim.inj⟩
                obtain ⟨x, w⟩ := R.sim.obj j o ej
                refine ⟨?_, w⟩
                cases o with
                | lst xs => exact (show H (r j) = _ from x).trans (by rw [eL])
                | tup xs => exact (show H (r j) = _ from x).trans (by rw [eL])
                | rdl xs =>
                  rcases x with ⟨od, x⟩ | x
                  · exact .inl ⟨od, by rw [eL]; exact x⟩
                  · exact .inr (by rw [eL]; exact x)
                | dK kvs => exact (show H (r j) = _ from x).trans (by rw [eK])
                | dT kvs => exact (show H (r j) = _ from x).trans (by rw [eK])
                | lkT kvs' =>
                  have x' : H (r j) = some (.frz (r.F (r j)) (.dT (mK r kvs'))) := x
                  have hne : r j ≠ r p := fun z => by
                    rw [z, sx] at x'
                    cases x'
                  refine x'.trans ?_
                  rw [eK]
                  show some (HO.frz (r.F (r j)) _) = some (HO.frz (if r j = r p then od else r.F (r j)) _)
                  rw [if_neg hne]
                | ins c fs =>
                  obtain ⟨dx, x⟩ := x
                  exact ⟨dx, x.trans (by rw [eF])⟩
                | set ns => exact x
              have S1 : Sim G r' (h.set p (.lkT kvs)) (upd H (r' p) (.frz od (.dT (mK r kvs)))) := S0.set ek rfl rfl wk (by
                show upd H (r p) _ (r p) = some (.frz (if r p = r p then od else r.F (r p)) (.dT (mK r' kvs)))
                rw [upd_same, if_pos rfl, eK])
              have R1 : Rl G r' s (h.set p (.lkT kvs)) σ (upd H (r p) (.frz od (.dT (mK r kvs)))) := ⟨S1, by rw [R.st, eS], fun i v e => by rw [List.length_set]; exact R.ws i v e⟩
              have o1 := Out.noexE (E' := E0) (Out.bind (WA := wf) o)
              refine ⟨m + 1, r', s, h.set p (.lkT kvs), R1, ?_⟩
              rw [List.length_set]
              cases ev : (evs G.P (m + 1)).e a s (h.set p (.lkT kvs)) with
              | no =>
                rw [ev] at o
                exact False.elim o
              | ex c h' =>
                rw [ev] at o
                exact False.elim o
              | ok v h' =>
                rw [ev] at o
                intro q H' ag ln S w
                change Out G E wf r h.length (match h'[p]? with
                  | some (.lkT kvs') => if kvs' = kvs then .ok v (h'.set p (.dT kvs)) else .no
                  | _ => .no) _ at o
                split at o
                · rename_i kvs' ek'
                  split at o
                  · rename_i ee
                    subst ee
                    have hp : p < h.length := lt_of_get ek
                    have sx' : H' (q p) = some (.frz (q.F (q p)) (.dT (mK q kvs'))) := (S.obj p _ ek').1
                    have eqp : q p = r p := (ag p hp).symm
                    have eqk : mK q kvs' = mK r kvs' := by rw [← mK_eq wk ag, eK]
                    rw [eqp, eqk] at sx'
                    refine ⟨_, sx', ?_⟩
                    let q0 : Rho := ⟨q.m, r.F⟩
                    have ag0 : Agree h.length r q0 := ⟨fun i hi => ag i hi, rfl⟩
                    have S2 : Sim G q (h'.set p (.dT kvs')) (upd H' (q p) (.dT (mK q kvs'))) := S.set ek' rfl rfl (S.obj p _ ek').2 (by show upd H' _ _ _ = _; rw [upd_same])
                    rw [eqp, eqk] at S2
                    have S3 : Sim G q0 (h'.set p (.dT kvs')) (upd H' (r p) (.dT (mK r kvs'))) := by
                      have em : ∀ xs, mapV q0 xs = mapV q xs := fun xs => by cases xs <;> rfl
                      refine ⟨fun j o ej => ?_, S2.inj⟩
                      obtain ⟨x, w⟩ := S2.obj j o ej
                      refine ⟨?_, w⟩
                      cases o with
                      | lkT kvs2 =>
                        have x' : upd H' (r p) (.dT (mK r kvs')) (q j) = some (.frz (q.F (q j)) (.dT (mK q kvs2))) := x
                        have hne : q j ≠ r p := fun z => by
                          rw [z, upd_same] at x'
                          cases x'
                        refine x'.trans ?_
                        rw [← ag.f]
                        show some (HO.frz (if q j = r p then od else r.F (q j)) _) = some (HO.frz (r.F (q j)) _)
                        rw [if_neg hne]
                        rfl
                      | _ => exact x
                    exact o q0 _ ag0 (by rw [List.length_set]; exact ln) S3 (by rw [List.length_set]; exact w)
                  · exact False.elim o
                · exact False.elim o
            · exact False.elim o
          · exact False.elim o
end
end Ck
/-! Ck14: statements. -/
namespace Ck
open PySem L2
section
variable {X : Cx} {G : Glo} {E : XK} {ea eb ec tg iter : Expr} {a b c : Ex} {pos pos' apos cpos tpos : Pos} {es elts : List Expr} {ax : Exs} {kk : Nat} {st : Stmt} {sts body : List Stmt} {u v : Stm}
theorem sem_pass {D : Ends} {σ : St} {H : Hp} (x : semS G E .pass D σ H) : D.nx σ H := by
  obtain ⟨n, r, s, h, R, o⟩ := x
  obtain ⟨l, rfl, o⟩ := o.succS
  have := Out.ok (show Out G E wfR r h.length (Ck.R.ok (.nx s) h) _ from o) (Nat.le_refl _) R.sim R.ws
  change D.nx (mapS r s) H at this
  rw [← R.st] at this
  exact this
theorem d_pass : PS X (.Pass pos) (semS G E .pass) := PS.weak ps_pass fun _ _ _ x => sem_pass x
theorem d_snil : PSs X [] (semS G E .pass) := PSs.weak pss_nil fun _ _ _ x => sem_pass x
theorem d_sone (h : PS X st (semS G E u)) : PSs X [st] (semS G E u) := pss_one h
theorem d_scons (h1 : PS X st (semS G E u)) (h2 : PSs X sts (semS G E v)) : PSs X (st :: sts) (semS G E (.seq u v)) :=
  PSs.weak (pss_cons h1 h2) fun D σ H ⟨n, r, s, h, R, o⟩ => by
    obtain ⟨l, rfl, o⟩ := o.succS
    refine toS R (Out.bind (WA := wfR) o) fun q x h1 H1 a1 l1 S1 w1 o1 => ?_
    cases x with
    | nx s1 => exact ⟨l, q, s1, h1, ⟨S1, rfl, w1⟩, o1⟩
    | rt v => exact Out.ok o1 (Nat.le_refl _) S1 w1
theorem sem_asgT {t : Tg} {D : Ends} {σ : St} {H : Hp} (x : semS G E (.asg t a) D σ H) : tAsg (semE G E a) (semG G t) D σ H := by
  obtain ⟨n, r, s, h, R, o⟩ := x
  obtain ⟨l, rfl, o⟩ := o.succS
  refine toE R (Out.bind (WA := wf) o) fun q x h1 H1 a1 l1 S1 w1 o1 => ?_
  obtain ⟨s2, e2, o1⟩ := o1.ofOptB
  have R1 := R.next a1 l1 S1
  exact ⟨q, s, h1, x, s2, R1, w1, rfl, e2, Out.ok o1 (Nat.le_refl _) S1 (bindTg_wf S1 w1 R1.ws e2)⟩
theorem d_asg {t : Tg} (he : PE X ea (semE G E a)) (hg : PG X tg (semG G t)) (hs : swapsWithSole [tg] ea pos.line X.env = pure false := by rfl) (hw : swappedStores [tg] ea X.env = pure none := by rfl)
    (h1 : (assignEach [tg] X.env).map (·.2) = [assign tg X.env] := by rfl) : PS X (.Assign [tg] ea pos) (semS G E (.asg t a)) := PS.weak (ps_asg he hg hs hw h1) fun _ _ _ x => sem_asgT x
theorem d_set (i : Nat) {x : Str} (he : PE X ea (semE G E a)) (hN : X.N.Nodup) (hi : X.N[i]? = some x := by rfl) (hx : Loc X.env.scope x := by first | exact Or.inl rfl | exact Or.inr rfl) (hs : swapsWith ea (some (.Name x pos')) pos.line X.env = pure false := by rfl)
    (hf : X.fn x = true ∨ X.env.scope.names.lookup x = some .local := by first | exact .inl rfl | exact .inr rfl) : PS X (.Assign [.Name x pos'] ea pos) (semS G E (.asg (.name i) a)) :=
  PS.weak (ps_set hN hi hx he hs hf) fun D σ H x => by
    obtain ⟨n, r, s, h, R, o⟩ := x
    obtain ⟨l, rfl, o⟩ := o.succS
    refine toE R (Out.bind (WA := wf) o) fun q x h1 H1 a1 l1 S1 w1 o1 => ?_
    obtain ⟨s2, e2, o1⟩ := o1.ofOptB
    have R1 := R.next a1 l1 S1
    have := Out.ok o1 (Nat.le_refl _) S1 (bindTg_wf S1 w1 R1.ws e2)
    cases e2
    change D.nx (mapS q (s.set i (some x))) H1 at this
    rw [mapS_set, ← R1.st] at this
    exact this
/-! ### a, b = x, y -/
theorem sem_par {is : List Nat} {D : Ends} {σ : St} {H : Hp} (x : semS G E (.par is ax) D σ H) : semA G E ax σ H fun vs H1 => ∃ q s xs s2, σ = mapS q s ∧ vs = mapL q xs ∧ setAll is xs s = some s2 ∧ D.nx (mapS q s2) H1 := by
  obtain ⟨n, r, s, h, R, o⟩ := x
  obtain ⟨l, rfl, o⟩ := o.succS
  refine toA R (Out.bind (WA := wfL) o) fun q xs h1 H1 a1 l1 S1 w1 o1 => ?_
  obtain ⟨s2, e2, o1⟩ := o1.ofOptB
  have R1 := R.next a1 l1 S1
  exact ⟨q, s, xs, s2, R1.st, rfl, e2, Out.ok o1 (Nat.le_refl _) S1 (setAll_wf e2 w1 R1.ws)⟩
theorem d_par2 (i j : Nat) {x y : Str} {px py pt pt2 : Pos} {kt k2 : Nat} {ctx : Nat} (hc : X.calm = true) (hN : X.N.Nodup) (ha : PA X [ea, eb] (semA G E ax))
    (hw : swappedStores [.Tuple [.Name x px, .Name y py] kt pt] (.Tuple [ea, eb] k2 pt2) X.env = pure (some [x, y])) (hi : X.N[i]? = some x := by rfl) (hj : X.N[j]? = some y := by rfl) (hij : i ≠ j := by decide)
    (hx : X.env.scope.names.lookup x = some .local := by rfl) (hy : X.env.scope.names.lookup y = some .local := by rfl)
    (hs : swapsWithSole [.Tuple [.Name x px, .Name y py] kt pt] (.Tuple [ea, eb] k2 pt2) pos.line X.env = pure false := by rfl) :
    PS X (.Assign [.Tuple [.Name x px, .Name y py] kt pt] (.Tuple [ea, eb] k2 pt2) pos) (semS G E (.par [i, j] ax)) :=
  PS.weak (ps_par hc hN hi hj hij hx hy ha hw hs) fun D σ H x => by
    obtain ⟨n, r, s, h, R, o⟩ := sem_par x
    refine ⟨n, r, s, h, R, o.imp fun q vs h1 H1 _ _ _ _ ⟨q, s, xs, s2, es, ev, e2, nx⟩ => ?_⟩
    rw [ev]
    match xs, e2 with
    | [u, v], e2 =>
      cases e2
      rw [mapS_set, mapS_set, ← es] at nx
      exact ⟨_, _, rfl, nx⟩
    | [], e2 => cases e2
    | [_], e2 => cases e2
    | _ :: _ :: _ :: _, e2 => cases e2
theorem d_par3 (i j l : Nat) {x y z : Str} {px py pz pt pt2 : Pos} {kt k2 : Nat} (hc : X.calm = true) (hN : X.N.Nodup) (ha : PA X [ea, eb, ec] (semA G E ax))
    (hw : swappedStores [.Tuple [.Name x px, .Name y py, .Name z pz] kt pt] (.Tuple [ea, eb, ec] k2 pt2) X.env = pure (some [x, y, z])) (hi : X.N[i]? = some x := by rfl) (hj : X.N[j]? = some y := by rfl) (hl : X.N[l]? = some z := by rfl) (hij : i ≠ j := by decide) (hil : i ≠ l := by decide) (hjl : j ≠ l := by decide)
    (hx : X.env.scope.names.lookup x = some .local := by rfl) (hy : X.env.scope.names.lookup y = some .local := by rfl) (hz : X.env.scope.names.lookup z = some .local := by rfl)
    (hs : swapsWithSole [.Tuple [.Name x px, .Name y py, .Name z pz] kt pt] (.Tuple [ea, eb, ec] k2 pt2) pos.line X.env = pure false := by rfl) :
    PS X (.Assign [.Tuple [.Name x px, .Name y py, .Name z pz] kt pt] (.Tuple [ea, eb, ec] k2 pt2) pos) (semS G E (.par [i, j, l] ax)) :=
  PS.weak (ps_par3 hc hN hi hj hl hij hil hjl hx hy hz ha hw hs) fun D σ H x => by
    obtain ⟨n, r, s, h, R, o⟩ := sem_par x
    refine ⟨n, r, s, h, R, o.imp fun q vs h1 H1 _ _ _ _ ⟨q, s, xs, s2, es, ev, e2, nx⟩ => ?_⟩
    rw [ev]
    match xs, e2 with
    | [u, v, w], e2 =>
      cases e2
      rw [mapS_set, mapS_set, mapS_set, ← es] at nx
      exact ⟨_, _, _, rfl, nx⟩
    | [], e2 => cases e2
    | [_], e2 => cases e2
    | [_, _], e2 => cases e2
    | _ :: _ :: _ :: _ :: _, e2 => cases e2
/-! ### o[i] = v -/
def rSet2 : TSet := fun o i v H Q => rSetL o i v H Q ∨ rSetD o i v H Q
theorem set_both (hu : X.A.units + 1 < cLine) : PSet X rSet2 := by
  intro pins s σ H o i v ov iv u Q I ro ri rv h
  rcases h with h | h
  · exact set_list pins s σ H o i v ov iv u Q I ro ri rv h
  · exact set_dict hu pins s σ H o i v ov iv u Q I ro ri rv h
theorem subP_ok {r : Rho} {h : Hs} {H : Hp} {o i v : V} {k : Rho → Unit → Hs → Hp → Prop} {Q : Hp → Prop} (S : Sim G r h H) (wv : wf h.length v) (out : Out G E (fun _ (_ : Unit) => True) r h.length (subP o i v h) k) (hq : ∀ h' H', h'.length = h.length → Sim G r h' H' → k r () h' H' → Q H') : rSet2 (mapV r o) (mapV r i) (mapV r v) H Q := by
  unfold subP at out
  split at out
  · rename_i a
    split at out
    · rename_i xs ex
      split at out
      · rename_i kk
        split at out
        · rename_i j ej
          obtain ⟨sx, wx⟩ := S.obj a _ ex
          change H (r a) = some (.lst (mapL r xs)) at sx
          have S2 : Sim G r (h.set a (.lst (xs.set j v))) (upd H (r a) (.lst ((mapL r xs).set j (mapV r v)))) := S.set ex rfl rfl (fun u hu => (List.mem_or_eq_of_mem_set hu).elim (wx u) fun e => by rw [e]; exact wv) (by show upd H _ _ _ = _; rw [upd_same]; unfold mapL; rw [List.map_set])
          exact .inl ⟨r a, mapL r xs, kk, j, rfl, rfl, sx, by rw [mapL_length]; exact ej, hq _ _ (List.length_set ..) S2 (out r _ Agree.refl (by rw [List.length_set]; exact Nat.le_refl _) S2 trivial)⟩
        · exact False.elim out
      · exact False.elim out
    · rename_i kvs ek
      split at out
      · rename_i kk ekk
        split at out
        · rename_i hz
          obtain ⟨sx, wx⟩ := S.obj a _ ek
          change H (r a) = some (.dK (mK r kvs)) at sx
          have e1 := keyV_ok ekk
          subst e1
          have S2 : Sim G r (h.set a (.dK (putK kvs kk v))) (upd H (r a) (.dK (putK (mK r kvs) kk (mapV r v)))) := S.set ek rfl rfl (putK_wf wx wv) (by show upd H _ _ _ = _; rw [upd_same, putK_mK])
          exact .inr ⟨r a, _, rfl, .inl ⟨mK r kvs, kk, sx, mapV_kV r kk, by rw [mK_length]; exact SZ_lt hz, rfl⟩, hq _ _ (List.length_set ..) S2 (out r _ Agree.refl (by rw [List.length_set]; exact Nat.le_refl _) S2 trivial)⟩
        · exact False.elim out
      · exact False.elim out
    · rename_i kvs ek
      split at out
      · rename_i kk ekk
        split at out
        · rename_i hz
          obtain ⟨sx, wx⟩ := S.obj a _ ek
          change H (r a) = some (.dT (mK r kvs)) at sx
          obtain ⟨b, rfl, hb⟩ := tkey_ok S ekk
          have S2 : Sim G r (h.set a (.dT (putK kvs kk v))) (upd H (r a) (.dT (putK (mK r kvs) kk (mapV r v)))) := S.set ek rfl rfl (putK_wf wx wv) (by show upd H _ _ _ = _; rw [upd_same, putK_mK])
          exact .inr ⟨r a, _, rfl, .inr ⟨mK r kvs, kk, r b, sx, rfl, hb, by rw [mK_length]; exact SZ_lt hz, rfl⟩, hq _ _ (List.length_set ..) S2 (out r _ Agree.refl (by rw [List.length_set]; exact Nat.le_refl _) S2 trivial)⟩
        · exact False.elim out
      · exact False.elim out
    · exact False.elim out
  · exact False.elim out
theorem d_sub (hu : X.A.units + 1 < cLine) (ho : PE X ea (semE G E a)) (hi : PE X eb (semE G E b)) (hv : PE X ec (semE G E c))
    (ha : ∀ v, assign (.Subscript ea eb pos') X.env v = (do
      let ov ← holding [v] (eval ea X.env)
      let iv ← holding [v, ov] (eval eb X.env)
      standAt pos'
      holding [v, ov, iv] (setItem ov iv v)
      release [v, ov, iv] []) := by intro _; rfl)
    (hs : swapsWithSole [.Subscript ea eb pos'] ec pos.line X.env = pure false := by rfl) (hw : swappedStores [.Subscript ea eb pos'] ec X.env = pure none := by rfl)
    (h1 : (assignEach [.Subscript ea eb pos'] X.env).map (·.2) = [assign (.Subscript ea eb pos') X.env] := by rfl) :
    PS X (.Assign [.Subscript ea eb pos'] ec pos) (semS G E (.sub a b c)) :=
  PS.weak (ps_asg hv (pg_sub ho hi (set_both hu) ha) hs hw h1) fun D σ H ⟨n, r, s, h, R, o⟩ => by
    obtain ⟨l, rfl, o⟩ := o.succS
    refine toE R (Out.bind (WA := wf) o) fun q v h1 H1 a1 l1 S1 w1 o1 => ?_
    have R1 := R.next a1 l1 S1
    refine toE R1 (Out.bind (WA := wf) o1) fun q2 x h2 H2 a2 l2 S2 w2 o2 => ?_
    have R2 := R1.next a2 l2 S2
    refine toE R2 (Out.bind (WA := wf) o2) fun q3 y h3 H3 a3 l3 S3 w3 o3 => ?_
    have R3 := R2.next a3 l3 S3
    rw [mapV_eq w1 a2, mapV_eq (w1.mono l2) a3, mapV_eq w2 a3]
    refine subP_ok S3 (w1.mono (Nat.le_trans l2 l3)) (Out.bind (WA := fun _ _ => True) o3) fun h' H' hl S4 o4 => ?_
    have := Out.ok o4 (Nat.le_refl _) S4 (show wfR h'.length (.nx s) by rw [hl]; exact R3.ws)
    change D.nx (mapS q3 s) H' at this
    rw [← R3.st] at this
    exact this
/-! ### e.f = v -/
theorem d_sfld (T : Facts G) (f : Nat) {x : Str} (ha : PE X ea (semE G E a)) (hv : PE X eb (semE G E b)) (hx : x = fldS f := by rfl) (hs : swapsWith eb (some (.Attribute ea x pos')) pos.line X.env = pure false := by rfl) (hG : Fit X G := by exact ⟨rfl⟩) :
    PS X (.Assign [.Attribute ea x pos'] eb pos) (semS G E (.fldS a f b)) :=
  PS.weak (ps_fld ha hv hs) fun D σ H ⟨n, r, s, h, R, o⟩ => by
    subst hx
    rw [← hG.k]
    obtain ⟨l, rfl, o⟩ := o.succS
    refine toE R (Out.bind (WA := wf) o) fun q y h1 H1 a1 l1 S1 w1 o1 => ?_
    have R1 := R.next a1 l1 S1
    refine toE R1 (Out.bind (WA := wf) o1) fun q2 x h2 H2 a2 l2 S2 w2 o2 => ?_
    have R2 := R1.next a2 l2 S2
    split at o2
    · rename_i p
      split at o2
      · rename_i c fs ef
        split at o2
        · rename_i hcf
          simp only [Bool.and_eq_true, decide_eq_true_eq] at hcf
          obtain ⟨⟨h1', h2'⟩, h3'⟩ := hcf
          obtain ⟨hf, hc, na⟩ := T.na c f h1'
          obtain ⟨⟨dx, sx⟩, wx⟩ := S2.obj p _ ef
          rw [mapV_eq w1 a2]
          have S3 : Sim G q2 (h2.set p (.ins c (putN f y fs))) (upd H2 (q2 p) (.ins (G.cls c) dx (putF (fldS f) (mapV q2 y) (mF q2 fs)))) := S2.set ef rfl rfl (putN_wf hf (w1.mono l2) wx) ⟨dx, by rw [upd_same, mF_put hf wx]⟩
          refine ⟨q2 p, G.cls c, dx, mF q2 fs, rfl, sx, hc, na, by unfold mF; rw [List.length_map]; omega, ?_⟩
          have := o2 q2 _ Agree.refl (by rw [List.length_set]; exact Nat.le_refl _) S3 (by rw [List.length_set]; exact R2.ws)
          change D.nx (mapS q2 s) _ at this
          rw [← R2.st] at this
          exact this
        · exact False.elim o2
      · exact False.elim o2
    · exact False.elim o2
/-! ### x += e -/
theorem d_augA (i : Nat) {x : Str} (he : PE X ea (semE G E a)) (hN : X.N.Nodup) (hi : X.N[i]? = some x := by rfl) (hx : Loc X.env.scope x := by first | exact Or.inl rfl | exact Or.inr rfl) (hf : X.fn x = true ∨ X.env.scope.names.lookup x = some .local := by first | exact .inl rfl | exact .inr rfl) :
    PS X (.AugAssign (.Name x pos') .Add ea pos) (semS G E (.aug i .add a)) :=
  PS.weak (ps_aug hN hi hx he ip_add hf) fun D σ H ⟨n, r, s, h, R, o⟩ => by
    obtain ⟨l, rfl, o⟩ := o.succS
    change Out G E wfR r h.length (match s[i]? with
      | some (some x) => ((evs G.P l).e a s h).bind fun y h => (Ck.R.ofOpt h (augV .add x y)).bind fun z h => .ok (.nx (s.set i (some z))) h
      | _ => .no) _ at o
    split at o
    · rename_i x ex
      refine ⟨mapV r x, by rw [R.st]; exact mapS_get ex, ?_⟩
      refine toE R (Out.bind (WA := wf) o) fun q y h1 H1 a1 l1 S1 w1 o1 => ?_
      have R1 := R.next a1 l1 S1
      obtain ⟨z, ez, o1⟩ := o1.ofOptB
      unfold augV at ez
      simp only at ez
      split at ez
      · rename_i j k
        cases ez
        refine ⟨j, k, rfl, rfl, ?_⟩
        have := Out.ok o1 (Nat.le_refl _) S1 (set_wf R1.ws trivial)
        change D.nx (mapS q (s.set i (some (.int (j + k))))) H1 at this
        rw [mapS_set, ← R1.st] at this
        exact this
      · cases ez
    · exact False.elim o
theorem d_augS (i : Nat) {x : Str} (he : PE X ea (semE G E a)) (hN : X.N.Nodup) (hi : X.N[i]? = some x := by rfl) (hx : Loc X.env.scope x := by first | exact Or.inl rfl | exact Or.inr rfl) (hf : X.fn x = true ∨ X.env.scope.names.lookup x = some .local := by first | exact .inl rfl | exact .inr rfl) :
    PS X (.AugAssign (.Name x pos') .Sub ea pos) (semS G E (.aug i .sub a)) :=
  PS.weak (ps_aug hN hi hx he ip_sub hf) fun D σ H ⟨n, r, s, h, R, o⟩ => by
    obtain ⟨l, rfl, o⟩ := o.succS
    change Out G E wfR r h.length (match s[i]? with
      | some (some x) => ((evs G.P l).e a s h).bind fun y h => (Ck.R.ofOpt h (augV .sub x y)).bind fun z h => .ok (.nx (s.set i (some z))) h
      | _ => .no) _ at o
    split at o
    · rename_i x ex
      refine ⟨mapV r x, by rw [R.st]; exact mapS_get ex, ?_⟩
      refine toE R (Out.bind (WA := wf) o) fun q y h1 H1 a1 l1 S1 w1 o1 => ?_
      have R1 := R.next a1 l1 S1
      obtain ⟨z, ez, o1⟩ := o1.ofOptB
      unfold augV at ez
      simp only at ez
      split at ez
      · rename_i j k
        cases ez
        refine ⟨j, k, rfl, rfl, ?_⟩
        have := Out.ok o1 (Nat.le_refl _) S1 (set_wf R1.ws trivial)
        change D.nx (mapS q (s.set i (some (.int (j - k))))) H1 at this
        rw [mapS_set, ← R1.st] at this
        exact this
      · cases ez
    · exact False.elim o
/-! ### others -/
theorem d_expr (he : PE X ea (semE G E a)) (hs : swapsWith ea none pos.line X.env = pure false := by rfl) : PS X (.Expr ea pos) (semS G E (.expr a)) :=
  PS.weak (ps_expr he hs) fun D σ H ⟨n, r, s, h, R, o⟩ => by
    obtain ⟨l, rfl, o⟩ := o.succS
    refine toE R (Out.bind (WA := wf) o) fun q y h1 H1 a1 l1 S1 w1 o1 => ?_
    have R1 := R.next a1 l1 S1
    have := Out.ok o1 (Nat.le_refl _) S1 R1.ws
    change D.nx (mapS q s) H1 at this
    rw [← R1.st] at this
    exact this
theorem d_ret (he : PE X ea (semE G E a)) : PS X (.Return (some ea) pos) (semS G E (.ret a)) :=
  PS.weak (ps_ret he) fun D σ H ⟨n, r, s, h, R, o⟩ => by
    obtain ⟨l, rfl, o⟩ := o.succS
    refine toE R (Out.bind (WA := wf) o) fun q y h1 H1 a1 l1 S1 w1 o1 => ?_
    exact Out.ok o1 (Nat.le_refl _) S1 w1
theorem d_retN : PS X (.Return none pos) (semS G E (.ret (.cst .non))) :=
  PS.weak ps_retN fun D σ H ⟨n, r, s, h, R, o⟩ => by
    obtain ⟨l, rfl, o⟩ := o.succS
    cases l with
    | zero => exact False.elim o
    | succ l => exact Out.ok (show Out G E wfR r h.length (Ck.R.ok (.rt .non) h) _ from o) (Nat.le_refl _) R.sim trivial
theorem d_if (hc : PT X ec (semT G E c)) (ha : PSs X sts (semS G E u)) (hb : PSs X body (semS G E v)) : PS X (.If ec sts body pos) (semS G E (.if_ c u v)) :=
  PS.weak (ps_if hc ha hb) fun D σ H ⟨n, r, s, h, R, o⟩ => by
    obtain ⟨l, rfl, o⟩ := o.succS
    refine toT R (Out.bind (WA := wf) o) fun q y h1 H1 a1 l1 S1 w1 o1 => ?_
    obtain ⟨b, rfl, o1⟩ := o1.boolB
    refine ⟨b, rfl, ?_⟩
    cases b with
    | true => exact iteT ⟨l, q, s, h1, R.next a1 l1 S1, o1⟩
    | false => exact iteF ⟨l, q, s, h1, R.next a1 l1 S1, o1⟩
theorem d_raise0 {c : Nat} : PS X st (semS G E0 (.raise c)) :=
  PS.weak ps_never fun D σ H ⟨n, r, s, h, R, o⟩ => by
    obtain ⟨l, rfl, o⟩ := o.succS
    exact (show Out G E0 wfR r h.length (.ex c h) _ from o) r H Agree.refl (Nat.le_refl _) R.sim
theorem d_while (hp : PassesOwn (model X.prog X.w) X.A X.env X.xe) (hc : PT X ec (semT G E c)) (hb : PSs X body (semS G E u)) : PS X (.While ec body [] pos) (semS G E (.while_ c u)) :=
  PS.weak (ps_while hp hc hb) fun D σ H ⟨n, r, s, h, R, o⟩ => by
    obtain ⟨l, rfl, o⟩ := o.succS
    refine ⟨fun m σ H => ∃ r s h, Rl G r s h σ H ∧ Out G E wfR r h.length (whLoop (evs G.P l) c u m s h) fun q x _ H' => rsP D q x H', ⟨l, r, s, h, R, o⟩, fun m σ H ⟨r, s, h, R, o⟩ => ?_⟩
    cases m with
    | zero => exact False.elim o
    | succ m =>
      refine toT R (Out.bind (WA := wf) o) fun q y h1 H1 a1 l1 S1 w1 o1 => ?_
      obtain ⟨b, rfl, o1⟩ := o1.boolB
      refine ⟨b, rfl, ?_⟩
      have R1 := R.next a1 l1 S1
      cases b with
      | true =>
        refine iteT ⟨fun σ' H' => ∃ m', m' < m + 1 ∧ ∃ r s h, Rl G r s h σ' H' ∧ Out G E wfR r h.length (whLoop (evs G.P l) c u m' s h) fun q x _ H' => rsP D q x H', fun σ' H' z => z, toS R1 (Out.bind (WA := wfR) o1) fun q2 x h2 H2 a2 l2 S2 w2 o2 => ?_⟩
        cases x with
        | nx s2 => exact ⟨m, Nat.lt_succ_self _, q2, s2, h2, ⟨S2, rfl, w2⟩, o2⟩
        | rt v => exact Out.ok o2 (Nat.le_refl _) S2 w2
      | false =>
        refine iteF ?_
        have := Out.ok o1 (Nat.le_refl _) S1 R1.ws
        change D.nx (mapS q s) H1 at this
        rw [← R1.st] at this
        exact this
theorem d_for {t : Tg} {it : It} (hp : PassesOwn (model X.prog X.w) X.A X.env X.xe) (hc : X.calm = true) (hi : PI X tg iter (semI G E it)) (hg : PG X tg (semG G t)) (hb : PSs X body (semS G E u))
    (hs : ∀ x, foldedSetIterable iter X.env x = pure x := by intro _; rfl) : PS X (.For tg iter body [] pos) (semS G E (.for_ t it u)) :=
  PS.weak (ps_for hp hc hi hg hb hs) fun D σ H ⟨n, r, s, h, R, o⟩ => by
    obtain ⟨l, rfl, o⟩ := o.succS
    refine ⟨l, r, s, h, R, (Out.bind (WA := wfD) o).imp fun q1 d h1 H1 a1 l1 S1 w1 o1 J ir => ?_⟩
    have R1 := R.next a1 l1 S1
    refine ⟨fun i m σ H => ∃ r s h, Agree h1.length q1 r ∧ h1.length ≤ h.length ∧ Rl G r s h σ H ∧ Out G E wfR r h.length (forLoop (evs G.P l).s d t u m i s h) fun q x _ H' => rsP D q x H', ⟨l, q1, s, h1, Agree.refl, Nat.le_refl _, R1, o1⟩, fun i m σ H ⟨q, s, h2, ag, ln, R2, oo⟩ => ?_⟩
    cases m with
    | zero => exact False.elim oo
    | succ m =>
      change Out G E wfR q h2.length ((itGet d i h2).bind fun o h => match o with
        | none => .ok (.nx s) h
        | some x => (Ck.R.ofOpt h (bindTg t x s h)).bind fun s2 h => ((evs G.P l).s u s2 h).bind fun r h => match r with
          | .nx s => forLoop (evs G.P l).s d t u m (i + 1) s h
          | .rt v => .ok (.rt v) h) _ at oo
      obtain ⟨o', h3, eg, oo⟩ := oo.ofGet fun c h' => ir.ex i h2 h' c
      cases o' with
      | none =>
        obtain ⟨e1, st⟩ := ir.stop i q h2 h3 H ag ln R2.sim eg
        subst e1
        refine .inl ⟨st, ?_⟩
        have := Out.ok oo (Nat.le_refl _) R2.sim R2.ws
        change D.nx (mapS q s) H at this
        rw [← R2.st] at this
        exact this
      | some x =>
        obtain ⟨go, yld⟩ := ir.go i q h2 h3 H x ag ln R2.sim eg
        refine .inr ⟨go, fun σ' H' => ∃ m', m' < m + 1 ∧ ∃ r s h, Agree h1.length q1 r ∧ h1.length ≤ h.length ∧ Rl G r s h σ' H' ∧ Out G E wfR r h.length (forLoop (evs G.P l).s d t u m' (i + 1) s h) fun q x _ H' => rsP D q x H', fun σ' H' z => z, fun y H' yy => ?_⟩
        obtain ⟨t1, at1, lt1, S3, wx, ey⟩ := yld y H' yy
        obtain ⟨s2, es2, oo⟩ := oo.ofOptB
        have R3 := R2.next at1 lt1 S3
        refine ⟨t1, s, h3, x, s2, R3, wx, ey, es2, ?_⟩
        have R4 : Rl G t1 s2 h3 (mapS t1 s2) H' := ⟨S3, rfl, bindTg_wf S3 wx R3.ws es2⟩
        refine toS R4 (Out.bind (WA := wfR) (Out.mono oo (q := t1) (m := h3.length) at1 lt1)) fun q5 z h5 H5 a5 l5 S5 w5 o5 => ?_
        cases z with
        | nx s5 => exact ⟨m, Nat.lt_succ_self _, q5, s5, h5, ag.trans ln (at1.trans lt1 a5), by omega, ⟨S5, rfl, w5⟩, o5⟩
        | rt v => exact Out.ok o5 (Nat.le_refl _) S5 w5
end
end Ck
/-! Ck15: the law's call. -/
namespace Ck
open PySem L2
theorem hu64 {k : Nat} {A : Around} (hr : Room k A) : A.units + 64 < cLine := by
  have := room_u hr
  omega
theorem hu1 {k : Nat} {A : Around} (hr : Room k A) : A.units + 1 < cLine := by
  have := room_u hr
  omega
theorem hu0 {k : Nat} {A : Around} (hr : Room k A) : A.units < cLine := by
  have := room_u hr
  omega
theorem d_gint {X : Cx} {G : Glo} {E : XK} {pos : Pos} {x : Str} {i : Int} (h : ∃ t, X.mg x = some (.int i t)) (hg : Gl X x := by rfl) (hd : (x == ("__debug__" : Str)) = false := by decide) : PE X (.Name x pos) (semE G E (.cst (.int i))) := by
  obtain ⟨t, h⟩ := h
  exact PE.weak (pe_glob (v := .int i) hg h ⟨t, rfl⟩ hd) fun _ _ _ x => sem_cst (fun _ => rfl) x
theorem sp_law {G : Glo} {H : Hp} {a : Addr} {ns : List Int} {f n : Nat} {d : Fd} {h : Hs} (hO : Only H) (hS : SqL G.K H a (ns.map V.int)) (hf : G.P.fn f = some d) (hp : d.np = 1)
    (e : callF G.P (evs G.P n).s f [.ref 0] [O.rdl (ns.map V.int)] = .ok (.bl true) h) : spF G f [.ref a] H (fun v _ => v = .bl true) fun _ _ _ => False := by
  refine ⟨n, ⟨fun _ => a, fun _ => default⟩, [.ref 0], [O.rdl (ns.map V.int)], ⟨fun i o eo => ?_, fun i j o u e1 _ m1 _ _ => ?_⟩, rfl, fun v hv => ?_, ⟨d, hf, hp.symm⟩, ?_⟩
  · cases i with
    | zero =>
      cases eo
      refine ⟨?_, fun v hv => ?_⟩
      · show (∃ od, H a = some (.frz od (.lst (mapL _ (ns.map V.int))))) ∨ KL G.K a (mapL _ (ns.map V.int))
        rw [mapL_ints]
        rcases hS with (hS | hS) | hS
        · rcases hO a with z | ⟨o, xs, z⟩
          · rw [z] at hS; cases hS
          · rw [z] at hS; cases hS
        · exact .inl hS
        · exact .inr hS
      · obtain ⟨i, _, rfl⟩ := List.mem_map.mp hv
        trivial
    | succ i => cases eo
  · cases i with
    | zero =>
      cases e1
      cases m1
    | succ i => cases e1
  · rw [List.mem_singleton.mp hv]
    exact Nat.zero_lt_one
  · rw [e]
    intro q H' _ _ _ _
    rfl
end Ck
namespace T05
open PySem L2 Ck

def top (i : Nat) : Stmt := PySem.Challenge.pw_checkins_k05_whole_groups.main.body.getD i (.Pass ⟨0, 0, 0, 0⟩)

/-- is_whole(thing); slots: 0 thing -/
abbrev s_is_whole : Stmt := top 8
def ir_is_whole : Stm := (.ret (.and (.isi (.var 0) .int) (.not (.isi (.var 0) .bool))))
def fd_is_whole : Fd := ⟨1, 1, ir_is_whole, true⟩
/-- is_between(thing, least, most); slots: 0 thing, 1 least, 2 most -/
abbrev s_is_between : Stmt := top 9
def ir_is_between : Stm := (.ret (.and (.call 116 (.cons (.var 0) .nil)) (.chain .le .le (.var 1) (.var 0) (.var 2))))
def fd_is_between : Fd := ⟨3, 3, ir_is_between, true⟩
/-- is_link(thing, stations); slots: 0 thing, 1 stations -/
abbrev s_is_link : Stmt := top 10
def ir_is_link : Stm := (.seq (.if_ (.or (.not (.isi (.var 0) .tuple)) (.or (.op2 .ne (.bf .len (.cons (.var 0) .nil)) (.cst (.int 3))) (.not (.call 112 (.cons (.op2 .idx (.var 0) (.cst (.int 0))) (.cons (.cst (.int 0)) (.cons (.op2 .sub (.var 1) (.cst (.int 1))) .nil))))))) (.ret (.cst (.bl false))) .pass) (.ret (.and (.call 112 (.cons (.op2 .idx (.var 0) (.cst (.int 1))) (.cons (.cst (.int 0)) (.cons (.op2 .sub (.var 1) (.cst (.int 1))) .nil)))) (.and (.op2 .ne (.op2 .idx (.var 0) (.cst (.int 0))) (.op2 .idx (.var 0) (.cst (.int 1)))) (.call 112 (.cons (.op2 .idx (.var 0) (.cst (.int 2))) (.cons (.cst (.int 1)) (.cons (.cst (.int 9)) .nil))))))))
def fd_is_link : Fd := ⟨2, 2, ir_is_link, true⟩
/-- check_air(air); slots: 0 air, 1 one, 2 other, 3 link -/
abbrev s_check_air : Stmt := top 11
def ir_check_air : Stm := (.seq (.if_ (.or (.not (.isi (.var 0) .tuple)) (.or (.op2 .ne (.bf .len (.cons (.var 0) .nil)) (.cst (.int 2))) (.not (.call 112 (.cons (.op2 .idx (.var 0) (.cst (.int 0))) (.cons (.cst (.int 1)) (.cons (.cst (.int 40)) .nil))))))) (.raise 1) .pass) (.seq (.if_ (.or (.not (.isi (.op2 .idx (.var 0) (.cst (.int 1))) .list)) (.or (.op2 .gt (.bf .len (.cons (.op2 .idx (.var 0) (.cst (.int 1))) .nil)) (.cst (.int 120))) (.not (.bf .all (.cons (.comp [3] (.name 3) (.seq (.op2 .idx (.var 0) (.cst (.int 1)))) (.cst (.bl true)) (.call 114 (.cons (.var 3) (.cons (.op2 .idx (.var 0) (.cst (.int 0))) .nil)))) .nil))))) (.raise 1) .pass) (.if_ (.bf .any (.cons (.comp [1, 2] (.tup [1, 2]) (.zip (.op2 .idx (.var 0) (.cst (.int 1))) (.slice (.op2 .idx (.var 0) (.cst (.int 1))) (some (.cst (.int 1))) none)) (.cst (.bl true)) (.op2 .ge (.slice (.var 1) none (some (.cst (.int 2)))) (.slice (.var 2) none (some (.cst (.int 2)))))) .nil)) (.raise 1) .pass)))
def fd_check_air : Fd := ⟨1, 4, ir_check_air, true⟩
/-- check_least(least); slots: 0 least -/
abbrev s_check_least : Stmt := top 12
def ir_check_least : Stm := (.if_ (.not (.call 112 (.cons (.var 0) (.cons (.cst (.int 1)) (.cons (.cst (.int 9)) .nil))))) (.raise 2) .pass)
def fd_check_least : Fd := ⟨1, 1, ir_check_least, true⟩
/-- heard_from(air, least); slots: 0 air, 1 least, 2 found, 3 one, 4 other, 5 quality, 6 station -/
abbrev s_heard_from : Stmt := top 14
def ir_heard_from : Stm := (.seq (.asg (.name 2) (.comp [6] (.name 6) (.rng1 (.op2 .idx (.var 0) (.cst (.int 0)))) (.cst (.bl true)) (.lst .nil))) (.seq (.for_ (.tup [3, 4, 5]) (.seq (.op2 .idx (.var 0) (.cst (.int 1)))) (.if_ (.op2 .ge (.var 5) (.var 1)) (.expr (.bm .append (.op2 .idx (.var 2) (.var 3)) (.cons (.var 4) .nil))) .pass)) (.ret (.var 2))))
def fd_heard_from : Fd := ⟨2, 7, ir_heard_from, true⟩
/-- steps_from(air, one, least); slots: 0 air, 1 one, 2 least, 3 near, 4 found, 5 line, 6 spot, 7 here, 8 other -/
abbrev s_steps_from : Stmt := top 15
def ir_steps_from : Stm := (.seq (.asg (.tup [3, 4, 5, 6]) (.tup (.cons (.call 111 (.cons (.var 0) (.cons (.var 2) .nil))) (.cons (.dnew false) (.cons (.lst (.cons (.var 1) .nil)) (.cons (.cst (.int 0)) .nil)))))) (.seq (.sub (.var 4) (.var 1) (.tup (.cons (.cst (.int 0)) (.cons (.var 1) .nil)))) (.seq (.while_ (.op2 .lt (.var 6) (.bf .len (.cons (.var 5) .nil))) (.seq (.asg (.name 7) (.op2 .idx (.var 5) (.var 6))) (.seq (.for_ (.name 8) (.seq (.op2 .idx (.var 3) (.var 7))) (.if_ (.op2 .notin (.var 8) (.var 4)) (.seq (.sub (.var 4) (.var 8) (.tup (.cons (.op2 .add (.op2 .idx (.op2 .idx (.var 4) (.var 7)) (.cst (.int 0))) (.cst (.int 1))) (.cons (.var 7) .nil)))) (.expr (.bm .append (.var 5) (.cons (.var 8) .nil)))) .pass)) (.aug 6 .add (.cst (.int 1)))))) (.ret (.var 4)))))
def fd_steps_from : Fd := ⟨3, 9, ir_steps_from, true⟩
/-- groups_of(air, least); slots: 0 air, 1 least, 2 station, 3 come, 4 found, 5 done, 6 group, 7 other -/
abbrev s_groups_of : Stmt := top 17
def ir_groups_of : Stm := (.seq (.expr (.call 103 (.cons (.var 0) .nil))) (.seq (.expr (.call 104 (.cons (.var 1) .nil))) (.seq (.asg (.tup [3, 4, 5]) (.tup (.cons (.comp [2] (.name 2) (.rng1 (.op2 .idx (.var 0) (.cst (.int 0)))) (.cst (.bl true)) (.bf .list (.cons (.call 122 (.cons (.var 0) (.cons (.var 2) (.cons (.var 1) .nil)))) .nil))) (.cons (.lst .nil) (.cons (.lst .nil) .nil))))) (.seq (.for_ (.name 2) (.rng1 (.op2 .idx (.var 0) (.cst (.int 0)))) (.if_ (.op2 .notin (.var 2) (.var 5)) (.seq (.asg (.name 6) (.bf .sorted (.cons (.comp [7] (.name 7) (.seq (.op2 .idx (.var 3) (.var 2))) (.op2 .isin (.var 2) (.op2 .idx (.var 3) (.var 7))) (.var 7)) .nil))) (.seq (.expr (.bm .append (.var 4) (.cons (.var 6) .nil))) (.expr (.bm .extend (.var 5) (.cons (.var 6) .nil))))) .pass)) (.ret (.var 4))))))
def fd_groups_of : Fd := ⟨2, 8, ir_groups_of, true⟩
/-- _law_number(_law_cell, _law_at, _law_whole); slots: 0 _law_cell, 1 _law_at, 2 _law_whole, 3 _law_mixed, 4 _law_more -/
abbrev s__law_number : Stmt := top 19
def ir__law_number : Stm := (.seq (.if_ (.op2 .ge (.var 0) (.op2 .pow (.cst (.int 10)) (.cst (.int 18)))) (.ret (.var 0)) .pass) (.seq (.asg (.name 3) (.op2 .mod (.op2 .add (.op2 .mul (.op2 .add (.var 0) (.op2 .mul (.cst (.int 977)) (.var 1))) (.cst (.int 48271))) (.var 2)) (.cst (.int 2147483647)))) (.seq (.asg (.name 4) (.op2 .mul (.op2 .mul (.var 3) (.op2 .add (.op2 .add (.var 3) (.op2 .mul (.cst (.int 31)) (.var 1))) (.cst (.int 7)))) (.op2 .add (.op2 .add (.var 3) (.var 0)) (.cst (.int 5))))) (.ret (.op2 .fdiv (.op2 .mul (.var 4) (.op2 .add (.var 4) (.cst (.int 48271)))) (.cst (.int 1009)))))))
def fd__law_number : Fd := ⟨3, 5, ir__law_number, true⟩
/-- _law_air(_law_script, _law_by, _law_most); slots: 0 _law_script, 1 _law_by, 2 _law_most, 3 _law_cells, 4 _law_sort, 5 _law_at, 6 _law_whole, 7 _law_links, 8 _law_many, 9 _law_kind, 10 _law_number_here, 11 _law_one, 12 _law_other, 13 _law_quality, 14 _law_any_one, 15 _law_star -/
abbrev s__law_air : Stmt := top 20
def ir__law_air : Stm := (.seq (.asg (.name 3) (.ite (.op2 .ne (.var 0) (.lst .nil)) (.slice (.var 0) none (some (.cst (.int 63)))) (.lst (.cons (.cst (.int 5)) .nil)))) (.seq (.asg (.tup [6, 7]) (.tup (.cons (.op2 .add (.bf .sum (.cons (.var 3) .nil)) (.var 1)) (.cons (.dnew true) .nil)))) (.seq (.par [8, 9] (.cons (.op2 .add (.cst (.int 1)) (.op2 .mod (.op2 .fdiv (.call 70 (.cons (.var 6) (.cons (.op2 .add (.var 1) (.cst (.int 1))) (.cons (.cst (.int 3)) .nil)))) (.cst (.int 9))) (.var 2))) (.cons (.op2 .mod (.op2 .fdiv (.call 70 (.cons (.var 6) (.cons (.op2 .add (.var 1) (.cst (.int 1))) (.cons (.cst (.int 3)) .nil)))) (.cst (.int 360))) (.cst (.int 4))) .nil))) (.seq (.asg (.name 4) (.op2 .mod (.op2 .fdiv (.call 70 (.cons (.var 6) (.cons (.op2 .add (.var 1) (.cst (.int 1))) (.cons (.cst (.int 3)) .nil)))) (.cst (.int 1440))) (.cst (.int 3)))) (.seq (.for_ (.name 5) (.rng1 (.ite (.op2 .gt (.var 8) (.cst (.int 1))) (.bf .min2 (.cons (.cst (.int 60)) (.cons (.op2 .mul (.cst (.int 3)) (.var 8)) .nil))) (.cst (.int 0)))) (.seq (.asg (.name 10) (.op2 .fdiv (.call 70 (.cons (.op2 .add (.op2 .idx (.var 3) (.op2 .mod (.op2 .add (.var 5) (.var 1)) (.bf .len (.cons (.var 3) .nil)))) (.var 5)) (.cons (.op2 .add (.var 5) (.var 1)) (.cons (.var 6) .nil)))) (.cst (.int 3)))) (.seq (.asg (.name 11) (.op2 .mod (.var 5) (.var 8))) (.seq (.par [14, 15] (.cons (.op2 .mod (.op2 .fdiv (.var 10) (.cst (.int 9))) (.var 8)) (.cons (.ite (.op2 .gt (.var 11) (.cst (.int 0))) (.cst (.int 0)) (.cst (.int 1))) .nil))) (.seq (.asg (.name 12) (.op2 .idx (.tup (.cons (.op2 .mod (.op2 .add (.var 11) (.cst (.int 1))) (.var 8)) (.cons (.var 15) (.cons (.op2 .mod (.op2 .add (.op2 .add (.var 11) (.cst (.int 1))) (.var 14)) (.var 8)) (.cons (.var 14) .nil))))) (.var 9))) (.seq (.asg (.name 13) (.op2 .idx (.tup (.cons (.op2 .add (.cst (.int 1)) (.op2 .mod (.var 10) (.cst (.int 9)))) (.cons (.op2 .add (.cst (.int 1)) (.op2 .mod (.var 10) (.cst (.int 3)))) (.cons (.cst (.int 5)) .nil)))) (.var 4))) (.if_ (.op2 .ne (.var 11) (.var 12)) (.seq (.sub (.var 7) (.tup (.cons (.var 11) (.cons (.var 12) .nil))) (.var 13)) (.if_ (.op2 .gt (.op2 .mod (.op2 .fdiv (.var 10) (.cst (.int 4096))) (.cst (.int 3))) (.cst (.int 0))) (.sub (.var 7) (.tup (.cons (.var 12) (.cons (.var 11) .nil))) (.op2 .add (.cst (.int 1)) (.op2 .mod (.op2 .add (.var 13) (.op2 .fdiv (.var 10) (.cst (.int 12288)))) (.cst (.int 9))))) .pass)) .pass))))))) (.ret (.tup (.cons (.var 8) (.cons (.bf .sorted (.cons (.lock (.var 7) (.comp [11, 12] (.tup [11, 12]) (.dict (.var 7)) (.cst (.bl true)) (.tup (.cons (.var 11) (.cons (.var 12) (.cons (.op2 .idx (.var 7) (.tup (.cons (.var 11) (.cons (.var 12) .nil)))) .nil)))))) .nil)) .nil)))))))))
def fd__law_air : Fd := ⟨3, 16, ir__law_air, true⟩
/-- _law_copied(_law_air_here); slots: 0 _law_air_here -/
abbrev s__law_copied : Stmt := top 21
def ir__law_copied : Stm := (.ret (.tup (.cons (.op2 .idx (.var 0) (.cst (.int 0))) (.cons (.bf .list (.cons (.op2 .idx (.var 0) (.cst (.int 1))) .nil)) .nil))))
def fd__law_copied : Fd := ⟨1, 1, ir__law_copied, true⟩
/-- _law_come(_law_air_here, _law_one, _law_least); slots: 0 _law_air_here, 1 _law_one, 2 _law_least, 3 _law_found, 4 _law_again, 5 _law_first, 6 _law_second, 7 _law_quality -/
abbrev s__law_come : Stmt := top 22
def ir__law_come : Stm := (.seq (.par [3, 4] (.cons (.dnew false) (.cons (.cst (.bl true)) .nil))) (.seq (.sub (.var 3) (.var 1) (.cst (.bl true))) (.seq (.while_ (.var 4) (.seq (.asg (.name 4) (.cst (.bl false))) (.for_ (.tup [5, 6, 7]) (.seq (.op2 .idx (.var 0) (.cst (.int 1)))) (.if_ (.and (.op2 .ge (.var 7) (.var 2)) (.and (.op2 .isin (.var 5) (.var 3)) (.op2 .notin (.var 6) (.var 3)))) (.seq (.sub (.var 3) (.var 6) (.cst (.bl true))) (.asg (.name 4) (.cst (.bl true)))) .pass)))) (.ret (.bf .list (.cons (.var 3) .nil))))))
def fd__law_come : Fd := ⟨3, 8, ir__law_come, true⟩
/-- _law_groups(_law_air_here, _law_least); slots: 0 _law_air_here, 1 _law_least, 2 _law_back, 3 _law_station, 4 _law_found, 5 _law_done, 6 _law_there, 7 _law_home, 8 _law_one, 9 _law_other, 10 _law_quality -/
abbrev s__law_groups : Stmt := top 23
def ir__law_groups : Stm := (.seq (.asg (.name 2) (.tup (.cons (.op2 .idx (.var 0) (.cst (.int 0))) (.cons (.comp [8, 9, 10] (.tup [8, 9, 10]) (.seq (.op2 .idx (.var 0) (.cst (.int 1)))) (.cst (.bl true)) (.tup (.cons (.var 9) (.cons (.var 8) (.cons (.var 10) .nil))))) .nil)))) (.seq (.par [4, 5] (.cons (.lst .nil) (.cons (.lst .nil) .nil))) (.seq (.for_ (.name 3) (.rng1 (.op2 .idx (.var 0) (.cst (.int 0)))) (.if_ (.op2 .notin (.var 3) (.var 5)) (.seq (.asg (.tup [6, 7]) (.tup (.cons (.call 36 (.cons (.var 0) (.cons (.var 3) (.cons (.var 1) .nil)))) (.cons (.call 36 (.cons (.var 2) (.cons (.var 3) (.cons (.var 1) .nil)))) .nil)))) (.seq (.expr (.bm .append (.var 4) (.cons (.bf .sorted (.cons (.comp [8] (.name 8) (.seq (.var 6)) (.op2 .isin (.var 8) (.var 7)) (.var 8)) .nil)) .nil))) (.asg (.name 5) (.op2 .add (.var 5) (.op2 .idx (.var 4) (.neg (.cst (.int 1)))))))) .pass)) (.ret (.var 4)))))
def fd__law_groups : Fd := ⟨2, 11, ir__law_groups, true⟩
/-- law(_law_script); slots: 0 _law_script, 1 _law_whole, 2 _law_by, 3 _law_air_here, 4 _law_least, 5 _law_last, 6 _law_again, 7 _law_group, 8 _law_handed, 9 _law_due, 10 _law_found, 11 _law_wider, 12 _law_wide, 13 _law_one -/
abbrev s_law : Stmt := top 24
def ir_law : Stm := (.seq (.asg (.name 1) (.bf .sum (.cons (.slice (.var 0) none (some (.cst (.int 63)))) .nil))) (.seq (.for_ (.name 2) (.rng1 (.cst (.int 2))) (.seq (.par [3, 5] (.cons (.call 25 (.cons (.var 0) (.cons (.var 2) (.cons (.ite (.op2 .eq (.op2 .mod (.var 1) (.cst (.int 8))) (.var 2)) (.cst (.int 40)) (.cst (.int 12))) .nil)))) (.cons (.cst .non) .nil))) (.for_ (.name 4) (.seq (.tup (.cons (.cst (.int 1)) (.cons (.op2 .add (.cst (.int 1)) (.op2 .mod (.op2 .fdiv (.var 1) (.cst (.int 3))) (.cst (.int 9)))) (.cons (.cst (.int 9)) .nil))))) (.seq (.par [8, 9] (.cons (.call 37 (.cons (.var 3) .nil)) (.cons (.call 45 (.cons (.var 3) (.cons (.var 4) .nil))) .nil))) (.seq (.for_ (.name 6) (.rng1 (.cst (.int 2))) (.seq (.asg (.name 10) (.call 110 (.cons (.var 8) (.cons (.var 4) .nil)))) (.seq (.if_ (.or (.not (.isi (.var 10) .list)) (.or (.op2 .ne (.var 10) (.var 9)) (.op2 .ne (.var 8) (.var 3)))) (.ret (.cst (.bl false))) .pass) (.seq (.if_ (.not (.bf .all (.cons (.comp [7] (.name 7) (.seq (.var 10)) (.cst (.bl true)) (.isi (.var 7) .list)) .nil))) (.ret (.cst (.bl false))) .pass) (.seq (.for_ (.name 7) (.seq (.var 10)) (.expr (.bm .append (.var 7) (.cons (.cst (.int 0)) .nil)))) (.expr (.bm .append (.var 10) (.cons (.lst .nil) .nil)))))))) (.seq (.for_ (.name 7) (.seq (.var 9)) (.seq (.asg (.name 11) (.comp [12] (.name 12) (.seq (.ite (.op2 .isnot (.var 5) (.cst .non)) (.var 5) (.var 9))) (.op2 .isin (.op2 .idx (.var 7) (.cst (.int 0))) (.var 12)) (.var 12))) (.if_ (.not (.bf .all (.cons (.comp [13] (.name 13) (.seq (.var 7)) (.cst (.bl true)) (.op2 .isin (.var 13) (.op2 .idx (.var 11) (.cst (.int 0))))) .nil))) (.ret (.cst (.bl false))) .pass))) (.seq (.asg (.name 5) (.var 9)) (.if_ (.op2 .ne (.op2 .idx (.var 8) (.cst (.int 1))) (.lst .nil)) (.seq (.expr (.bm .pop (.op2 .idx (.var 8) (.cst (.int 1))) .nil)) (.if_ (.op2 .ne (.call 110 (.cons (.var 8) (.cons (.var 4) .nil))) (.call 45 (.cons (.var 8) (.cons (.var 4) .nil)))) (.ret (.cst (.bl false))) .pass)) .pass)))))))) (.seq (.asg (.name 3) (.tup (.cons (.cst (.int 5)) (.cons (.lst (.cons (.tup (.cons (.cst (.int 0)) (.cons (.cst (.int 2)) (.cons (.cst (.int 3)) .nil)))) (.cons (.tup (.cons (.cst (.int 1)) (.cons (.cst (.int 0)) (.cons (.cst (.int 9)) .nil)))) (.cons (.tup (.cons (.cst (.int 2)) (.cons (.cst (.int 0)) (.cons (.cst (.int 4)) .nil)))) (.cons (.tup (.cons (.cst (.int 3)) (.cons (.cst (.int 4)) (.cons (.cst (.int 9)) .nil)))) (.cons (.tup (.cons (.cst (.int 4)) (.cons (.cst (.int 3)) (.cons (.cst (.int 2)) .nil)))) .nil)))))) .nil)))) (.seq (.if_ (.or (.op2 .ne (.call 110 (.cons (.var 3) (.cons (.cst (.int 3)) .nil))) (.lst (.cons (.lst (.cons (.cst (.int 0)) (.cons (.cst (.int 2)) .nil))) (.cons (.lst (.cons (.cst (.int 1)) .nil)) (.cons (.lst (.cons (.cst (.int 3)) .nil)) (.cons (.lst (.cons (.cst (.int 4)) .nil)) .nil)))))) (.op2 .ne (.call 110 (.cons (.tup (.cons (.cst (.int 1)) (.cons (.lst .nil) .nil))) (.cons (.cst (.int 9)) .nil))) (.lst (.cons (.lst (.cons (.cst (.int 0)) .nil)) .nil)))) (.ret (.cst (.bl false))) .pass) (.ret (.op2 .eq (.call 110 (.cons (.var 3) (.cons (.cst (.int 2)) .nil))) (.lst (.cons (.lst (.cons (.cst (.int 0)) (.cons (.cst (.int 2)) .nil))) (.cons (.lst (.cons (.cst (.int 1)) .nil)) (.cons (.lst (.cons (.cst (.int 3)) (.cons (.cst (.int 4)) .nil))) .nil))))))))))
def fd_law : Fd := ⟨1, 14, ir_law, true⟩
def PR : Prog := ⟨[(116, fd_is_whole), (112, fd_is_between), (114, fd_is_link), (103, fd_check_air), (104, fd_check_least), (111, fd_heard_from), (122, fd_steps_from), (110, fd_groups_of), (70, fd__law_number), (25, fd__law_air), (37, fd__law_copied), (36, fd__law_come), (45, fd__law_groups), (118, fd_law)], []⟩
abbrev G0 (Pg : Program) (w : World) (K : PySem.W.Frag) (cls exc : Nat → Addr) : Glo := ⟨K, Pg, w, PR, cls, exc⟩
structure Txt (mg : Str → Option Value) : Prop where
  b_all : mg "all" = none
  b_any : mg "any" = none
  b_bool : mg "bool" = none
  b_int : mg "int" = none
  b_isinstance : mg "isinstance" = none
  b_len : mg "len" = none
  b_list : mg "list" = none
  b_min : mg "min" = none
  b_range : mg "range" = none
  b_sorted : mg "sorted" = none
  b_sum : mg "sum" = none
  b_tuple : mg "tuple" = none
  b_zip : mg "zip" = none
  c_BEST : ∃ t, mg "BEST" = some (.int 9 t)
  c_MOST_LINKS : ∃ t, mg "MOST_LINKS" = some (.int 120 t)
  c_MOST_STATIONS : ∃ t, mg "MOST_STATIONS" = some (.int 40 t)
theorem bb_all : bootBuiltins "all" = some (.builtin "all") := by decide +kernel
theorem bb_any : bootBuiltins "any" = some (.builtin "any") := by decide +kernel
theorem bt_bool : bootBuiltins "bool" = some (.type "bool") := by decide +kernel
theorem bt_int : bootBuiltins "int" = some (.type "int") := by decide +kernel
theorem bb_isinstance : bootBuiltins "isinstance" = some (.builtin "isinstance") := by decide +kernel
theorem bb_len : bootBuiltins "len" = some (.builtin "len") := by decide +kernel
theorem bt_list : bootBuiltins "list" = some (.type "list") := by decide +kernel
theorem bb_min : bootBuiltins "min" = some (.builtin "min") := by decide +kernel
theorem bb_sorted : bootBuiltins "sorted" = some (.builtin "sorted") := by decide +kernel
theorem bb_sum : bootBuiltins "sum" = some (.builtin "sum") := by decide +kernel
theorem bt_tuple : bootBuiltins "tuple" = some (.type "tuple") := by decide +kernel
section
variable {Pg : Program} {w : World} {K : PySem.W.Frag} {mg : Str → Option Value} {base : Heap} {cls exc : Nat → Addr} {fa : Addr} {fd : FuncData}
theorem sc_is_whole : FnScope ["thing"] ["thing"] (defScope s_is_whole) := ⟨rfl, rfl, rfl, by decide +kernel, rfl, by decide +kernel, by decide +kernel⟩
theorem ok_is_whole (T : Txt mg) (F : Fun K "is_whole" "is_whole" s_is_whole fa fd)  : FnOk Pg w K mg base CX0 1 fa fd ["thing"] (spF (G0 Pg w K cls exc) 116) :=
  fn_nx (k := 0) F sc_is_whole rfl fun cdv A outer s H E hr =>
  (d_sone (d_ret (d_and (d_isi rfl (d_var 0) bt_int (by rfl) T.b_isinstance (by rfl) T.b_int bb_isinstance) (d_one (d_not (d_isi rfl (d_var 0) bt_bool (by rfl) T.b_isinstance (by rfl) T.b_bool bb_isinstance))))))
theorem sc_is_between : FnScope ["thing", "least", "most"] ["thing", "least", "most"] (defScope s_is_between) := ⟨rfl, rfl, rfl, by decide +kernel, rfl, by decide +kernel, by decide +kernel⟩
theorem ok_is_between (T : Txt mg) (F : Fun K "is_between" "is_between" s_is_between fa fd) (C_is_whole : FnS Pg w K mg base CX0 1 (G0 Pg w K cls exc) "is_whole" 116) : FnOk Pg w K mg base CX0 2 fa fd ["thing", "least", "most"] (spF (G0 Pg w K cls exc) 112) :=
  fn_nx (k := 1) F sc_is_between rfl fun cdv A outer s H E hr =>
  (d_sone (d_ret (d_and (d_call C_is_whole hr pass0 (d_cons (d_var 0) d_nil)) (d_one (d_chain p_le p_le op_le op_le (d_var 1) (d_var 0) (d_var 2))))))
theorem sc_is_link : FnScope ["thing", "stations"] ["thing", "stations"] (defScope s_is_link) := ⟨rfl, rfl, rfl, by decide +kernel, rfl, by decide +kernel, by decide +kernel⟩
theorem ok_is_link (T : Txt mg) (F : Fun K "is_link" "is_link" s_is_link fa fd) (C_is_between : FnS Pg w K mg base CX0 2 (G0 Pg w K cls exc) "is_between" 112) : FnOk Pg w K mg base CX0 3 fa fd ["thing", "stations"] (spF (G0 Pg w K cls exc) 114) :=
  fn_nx (k := 2) F sc_is_link rfl fun cdv A outer s H E hr =>
  (d_scons (d_if ((d_orW (d_notT (d_tv (d_isi rfl (d_var 0) bt_tuple (by rfl) T.b_isinstance (by rfl) T.b_tuple bb_isinstance))) (d_orW (d_cmpT p_ne (op_ne2 (hu64 hr)) (by rfl) (d_bfB pb_len cr_len2 T.b_len bb_len (d_cons (d_var 0) d_nil)) d_int) (d_oneO (d_notT (d_tv (d_call C_is_between hr pass0 (d_cons (d_idx hr (d_var 0) d_int) (d_cons d_int (d_cons (d_bin p_sub op_sub (d_var 1) d_int) d_nil)))))))))).pt (d_sone (d_ret d_bl)) d_snil)
  (d_sone (d_ret (d_and (d_call C_is_between hr pass0 (d_cons (d_idx hr (d_var 0) d_int) (d_cons d_int (d_cons (d_bin p_sub op_sub (d_var 1) d_int) d_nil)))) (d_and (d_cmp p_ne (op_ne2 (hu64 hr)) (by rfl) (d_idx hr (d_var 0) d_int) (d_idx hr (d_var 0) d_int)) (d_one (d_call C_is_between hr pass0 (d_cons (d_idx hr (d_var 0) d_int) (d_cons d_int (d_cons (d_gint T.c_BEST) d_nil))))))))))
theorem sc_check_air : FnScope ["air", "one", "other", "link"] ["air"] (defScope s_check_air) := ⟨rfl, rfl, rfl, by decide +kernel, rfl, by decide +kernel, by decide +kernel⟩
theorem ok_check_air (T : Txt mg) (F : Fun K "check_air" "check_air" s_check_air fa fd) (C_is_link : FnS Pg w K mg base CX0 3 (G0 Pg w K cls exc) "is_link" 114) (C_is_between : FnS Pg w K mg base CX0 2 (G0 Pg w K cls exc) "is_between" 112) : FnOk Pg w K mg base CX0 4 fa fd ["air"] (spF (G0 Pg w K cls exc) 103) :=
  fn_nx (k := 3) F sc_check_air rfl fun cdv A outer s H E hr =>
  (d_scons (d_if ((d_orW (d_notT (d_tv (d_isi rfl (d_var 0) bt_tuple (by rfl) T.b_isinstance (by rfl) T.b_tuple bb_isinstance))) (d_orW (d_cmpT p_ne (op_ne2 (hu64 hr)) (by rfl) (d_bfB pb_len cr_len2 T.b_len bb_len (d_cons (d_var 0) d_nil)) d_int) (d_oneO (d_notT (d_tv (d_call C_is_between hr pass0 (d_cons (d_idx hr (d_var 0) d_int) (d_cons d_int (d_cons (d_gint T.c_MOST_STATIONS) d_nil)))))))))).pt (d_sone d_raise0) d_snil)
  (d_scons (d_if ((d_orW (d_notT (d_tv (d_isi rfl (d_idx hr (d_var 0) d_int) bt_list (by rfl) T.b_isinstance (by rfl) T.b_list bb_isinstance))) (d_orW (d_cmpT p_gt op_gt (by rfl) (d_bfB pb_len cr_len2 T.b_len bb_len (d_cons (d_idx hr (d_var 0) d_int) d_nil)) (d_gint T.c_MOST_LINKS)) (d_oneO (d_notT (d_tv (d_bfB pb_all (cr_all rfl) T.b_all bb_all (d_cons (d_comp rfl sc_check_air.nd (d_seq (d_idx hr (d_var 0) d_int)) (own := [("link", 3)]) (blkOk_by (N := ["air", "one", "other", "link"]) (sc := (defScope s_check_air)) (own := [("link", 3)]) (by decide +kernel)) (fun _ _ _ _ _ => (d_gname 3 sc_check_air.nd)) (fun _ _ _ _ _ => d_tyes) (fun _ _ _ _ _ => (d_call C_is_link hr pass0 (d_cons (d_var 3) (d_cons (d_idx hr (d_var 0) d_int) d_nil))))) d_nil)))))))).pt (d_sone d_raise0) d_snil)
  (d_sone (d_if (d_tv (d_bfB pb_any (cr_any rfl) T.b_any bb_any (d_cons (d_comp rfl sc_check_air.nd (d_zip (by rfl) T.b_zip (d_idx hr (d_var 0) d_int) (d_slice (d_idx hr (d_var 0) d_int) (d_osome d_int) d_onone)) (own := [("one", 1), ("other", 2)]) (blkOk_by (N := ["air", "one", "other", "link"]) (sc := (defScope s_check_air)) (own := [("one", 1), ("other", 2)]) (by decide +kernel)) (fun _ _ _ _ _ => (d_gtup rfl (d_gcons 1 (d_gcons 2 d_gnil sc_check_air.nd) sc_check_air.nd))) (fun _ _ _ _ _ => d_tyes) (fun _ _ _ _ _ => (d_cmp p_ge (op_ge2 (hu0 hr)) (by rfl) (d_slice (d_var 1) d_onone (d_osome d_int)) (d_slice (d_var 2) d_onone (d_osome d_int))))) d_nil))) (d_sone d_raise0) d_snil))))
theorem sc_check_least : FnScope ["least"] ["least"] (defScope s_check_least) := ⟨rfl, rfl, rfl, by decide +kernel, rfl, by decide +kernel, by decide +kernel⟩
theorem ok_check_least (T : Txt mg) (F : Fun K "check_least" "check_least" s_check_least fa fd) (C_is_between : FnS Pg w K mg base CX0 2 (G0 Pg w K cls exc) "is_between" 112) : FnOk Pg w K mg base CX0 3 fa fd ["least"] (spF (G0 Pg w K cls exc) 104) :=
  fn_nx (k := 2) F sc_check_least rfl fun cdv A outer s H E hr =>
  (d_sone (d_if (d_notT (d_tv (d_call C_is_between hr pass0 (d_cons (d_var 0) (d_cons d_int (d_cons (d_gint T.c_BEST) d_nil)))))) (d_sone d_raise0) d_snil))
theorem sc_heard_from : FnScope ["air", "least", "found", "one", "other", "quality", "station"] ["air", "least"] (defScope s_heard_from) := ⟨rfl, rfl, rfl, by decide +kernel, rfl, by decide +kernel, by decide +kernel⟩
theorem ok_heard_from (T : Txt mg) (F : Fun K "heard_from" "heard_from" s_heard_from fa fd)  : FnOk Pg w K mg base CX0 1 fa fd ["air", "least"] (spF (G0 Pg w K cls exc) 111) :=
  fn_nx (k := 0) F sc_heard_from rfl fun cdv A outer s H E hr =>
  (d_scons (d_setComp rfl sc_heard_from.nd rfl rfl (d_rng1 (by rfl) T.b_range (d_idx hr (d_var 0) d_int)) (own := [("station", 6)]) (blkOk_by (N := ["air", "least", "found", "one", "other", "quality", "station"]) (sc := (defScope s_heard_from)) (own := [("station", 6)]) (by decide +kernel)) (fun _ _ _ _ _ => (d_gname 6 sc_heard_from.nd)) (fun _ _ _ _ _ => d_tyes) (fun _ _ _ _ _ => (d_lst d_nil)))
  (d_scons (d_for PassesOwn.never rfl (d_seq (d_idx hr (d_var 0) d_int)) (d_gtup rfl (d_gcons 3 (d_gcons 4 (d_gcons 5 d_gnil sc_heard_from.nd) sc_heard_from.nd) sc_heard_from.nd)) (d_sone (d_if (d_cmpT p_ge (op_ge2 (hu0 hr)) (by rfl) (d_var 5) (d_var 1)) (d_sone (d_expr (d_bm mb_append (fun z => nomatch z) PySem.F.slot_list_append PySem.F.type_list_append mt_append (d_idx hr (d_var 2) (d_var 3)) (d_cons (d_var 4) d_nil)))) d_snil)))
  (d_sone (d_ret (d_var 2)))))
theorem sc_steps_from : FnScope ["air", "one", "least", "near", "found", "line", "spot", "here", "other"] ["air", "one", "least"] (defScope s_steps_from) := ⟨rfl, rfl, rfl, by decide +kernel, rfl, by decide +kernel, by decide +kernel⟩
theorem ok_steps_from (T : Txt mg) (F : Fun K "steps_from" "steps_from" s_steps_from fa fd) (C_heard_from : FnS Pg w K mg base CX0 1 (G0 Pg w K cls exc) "heard_from" 111) : FnOk Pg w K mg base CX0 2 fa fd ["air", "one", "least"] (spF (G0 Pg w K cls exc) 122) :=
  fn_nx (k := 1) F sc_steps_from rfl fun cdv A outer s H E hr =>
  (d_scons (d_asg (d_tup (d_cons (d_call C_heard_from hr pass0 (d_cons (d_var 0) (d_cons (d_var 2) d_nil))) (d_cons d_dnewK (d_cons (d_lst (d_cons (d_var 1) d_nil)) (d_cons d_int d_nil))))) (d_gtup rfl (d_gcons 3 (d_gcons 4 (d_gcons 5 (d_gcons 6 d_gnil sc_steps_from.nd) sc_steps_from.nd) sc_steps_from.nd) sc_steps_from.nd)))
  (d_scons (d_sub (hu1 hr) (d_var 4) (d_var 1) (d_tup (d_cons d_int (d_cons (d_var 1) d_nil))))
  (d_scons (d_while PassesOwn.never (d_cmpT p_lt op_lt (by rfl) (d_var 6) (d_bfB pb_len cr_len2 T.b_len bb_len (d_cons (d_var 5) d_nil))) (d_scons (d_set 7 (d_idx hr (d_var 5) (d_var 6)) sc_steps_from.nd)
  (d_scons (d_for PassesOwn.never rfl (d_seq (d_idx hr (d_var 3) (d_var 7))) (d_gname 8 sc_steps_from.nd) (d_sone (d_if (d_cmpT p_notin (op_notin2 (room_u hr)) (by rfl) (d_var 8) (d_var 4)) (d_scons (d_sub (hu1 hr) (d_var 4) (d_var 8) (d_tup (d_cons (d_bin p_add op_add2 (d_idx hr (d_idx hr (d_var 4) (d_var 7)) d_int) d_int) (d_cons (d_var 7) d_nil))))
  (d_sone (d_expr (d_bm mb_append (fun z => nomatch z) PySem.F.slot_list_append PySem.F.type_list_append mt_append (d_var 5) (d_cons (d_var 8) d_nil))))) d_snil)))
  (d_sone (d_augA 6 d_int sc_steps_from.nd)))))
  (d_sone (d_ret (d_var 4))))))
theorem sc_groups_of : FnScope ["air", "least", "station", "come", "found", "done", "group", "other"] ["air", "least"] (defScope s_groups_of) := ⟨rfl, rfl, rfl, by decide +kernel, rfl, by decide +kernel, by decide +kernel⟩
theorem ok_groups_of (T : Txt mg) (F : Fun K "groups_of" "groups_of" s_groups_of fa fd) (C_steps_from : FnS Pg w K mg base CX0 2 (G0 Pg w K cls exc) "steps_from" 122) (C_check_least : FnS Pg w K mg base CX0 3 (G0 Pg w K cls exc) "check_least" 104) (C_check_air : FnS Pg w K mg base CX0 4 (G0 Pg w K cls exc) "check_air" 103) : FnOk Pg w K mg base CX0 5 fa fd ["air", "least"] (spF (G0 Pg w K cls exc) 110) :=
  fn_nx (k := 4) F sc_groups_of rfl fun cdv A outer s H E hr =>
  (d_scons (d_expr (d_call C_check_air hr pass0 (d_cons (d_var 0) d_nil)))
  (d_scons (d_expr (d_call C_check_least hr pass0 (d_cons (d_var 1) d_nil)))
  (d_scons (d_asg (d_tup (d_cons (d_comp rfl sc_groups_of.nd (d_rng1 (by rfl) T.b_range (d_idx hr (d_var 0) d_int)) (own := [("station", 2)]) (blkOk_by (N := ["air", "least", "station", "come", "found", "done", "group", "other"]) (sc := (defScope s_groups_of)) (own := [("station", 2)]) (by decide +kernel)) (fun _ _ _ _ _ => (d_gname 2 sc_groups_of.nd)) (fun _ _ _ _ _ => d_tyes) (fun _ _ _ _ _ => (d_bfT pb_list cr_list2 T.b_list bt_list (d_cons (d_call C_steps_from hr pass0 (d_cons (d_var 0) (d_cons (d_var 2) (d_cons (d_var 1) d_nil)))) d_nil)))) (d_cons (d_lst d_nil) (d_cons (d_lst d_nil) d_nil)))) (d_gtup rfl (d_gcons 3 (d_gcons 4 (d_gcons 5 d_gnil sc_groups_of.nd) sc_groups_of.nd) sc_groups_of.nd)))
  (d_scons (d_for PassesOwn.never rfl (d_rng1 (by rfl) T.b_range (d_idx hr (d_var 0) d_int)) (d_gname 2 sc_groups_of.nd) (d_sone (d_if (d_cmpT p_notin (op_notin2 (room_u hr)) (by rfl) (d_var 2) (d_var 5)) (d_scons (d_set 6 (d_bfB pb_sorted (cr_sort2 rfl (hu64 hr)) T.b_sorted bb_sorted (d_cons (d_comp rfl sc_groups_of.nd (d_seq (d_idx hr (d_var 3) (d_var 2))) (own := [("other", 7)]) (blkOk_by (N := ["air", "least", "station", "come", "found", "done", "group", "other"]) (sc := (defScope s_groups_of)) (own := [("other", 7)]) (by decide +kernel)) (fun _ _ _ _ _ => (d_gname 7 sc_groups_of.nd)) (fun _ _ _ _ _ => (pts_one (d_cmpT p_in (op_in2 (room_u hr)) (by rfl) (d_var 2) (d_idx hr (d_var 3) (d_var 7))))) (fun _ _ _ _ _ => (d_var 7))) d_nil)) sc_groups_of.nd)
  (d_scons (d_expr (d_bm mb_append (fun z => nomatch z) PySem.F.slot_list_append PySem.F.type_list_append mt_append (d_var 4) (d_cons (d_var 6) d_nil)))
  (d_sone (d_expr (d_bm mb_extend (fun z => nomatch z) PySem.F.slot_list_extend PySem.F.type_list_extend mt_extend (d_var 5) (d_cons (d_var 6) d_nil)))))) d_snil)))
  (d_sone (d_ret (d_var 4)))))))
theorem sc__law_number : FnScope ["_law_cell", "_law_at", "_law_whole", "_law_mixed", "_law_more"] ["_law_cell", "_law_at", "_law_whole"] (defScope s__law_number) := ⟨rfl, rfl, rfl, by decide +kernel, rfl, by decide +kernel, by decide +kernel⟩
theorem ok__law_number (T : Txt mg) (F : Fun K "_law_number" "_law_number" s__law_number fa fd)  : FnOk Pg w K mg base CX0 1 fa fd ["_law_cell", "_law_at", "_law_whole"] (spF (G0 Pg w K cls exc) 70) :=
  fn_nx (k := 0) F sc__law_number rfl fun cdv A outer s H E hr =>
  (d_scons (d_if (d_cmpT p_ge (op_ge2 (hu0 hr)) (by rfl) (d_var 0) (d_bin p_pow op_pow d_int d_int)) (d_sone (d_ret (d_var 0))) d_snil)
  (d_scons (d_set 3 (d_bin p_mod op_mod (d_bin p_add op_add2 (d_bin p_mul op_mul2 (d_bin p_add op_add2 (d_var 0) (d_bin p_mul op_mul2 d_int (d_var 1))) d_int) (d_var 2)) d_int) sc__law_number.nd)
  (d_scons (d_set 4 (d_bin p_mul op_mul2 (d_bin p_mul op_mul2 (d_var 3) (d_bin p_add op_add2 (d_bin p_add op_add2 (d_var 3) (d_bin p_mul op_mul2 d_int (d_var 1))) d_int)) (d_bin p_add op_add2 (d_bin p_add op_add2 (d_var 3) (d_var 0)) d_int)) sc__law_number.nd)
  (d_sone (d_ret (d_bin p_fdiv op_fdiv (d_bin p_mul op_mul2 (d_var 4) (d_bin p_add op_add2 (d_var 4) d_int)) d_int))))))
theorem sc__law_air : FnScope ["_law_script", "_law_by", "_law_most", "_law_cells", "_law_sort", "_law_at", "_law_whole", "_law_links", "_law_many", "_law_kind", "_law_number_here", "_law_one", "_law_other", "_law_quality", "_law_any_one", "_law_star"] ["_law_script", "_law_by", "_law_most"] (defScope s__law_air) := ⟨rfl, rfl, rfl, by decide +kernel, rfl, by decide +kernel, by decide +kernel⟩
theorem ok__law_air (T : Txt mg) (F : Fun K "_law_air" "_law_air" s__law_air fa fd) (C__law_number : FnS Pg w K mg base CX0 1 (G0 Pg w K cls exc) "_law_number" 70) : FnOk Pg w K mg base CX0 2 fa fd ["_law_script", "_law_by", "_law_most"] (spF (G0 Pg w K cls exc) 25) :=
  fn_nx (k := 1) F sc__law_air rfl fun cdv A outer s H E hr =>
  (d_scons (d_set 3 (d_ite (d_cmpT p_ne (op_ne2 (hu64 hr)) (by rfl) (d_var 0) (d_lst d_nil)) (d_slice (d_var 0) d_onone (d_osome d_int)) (d_lst (d_cons d_int d_nil))) sc__law_air.nd)
  (d_scons (d_asg (d_tup (d_cons (d_bin p_add op_add2 (d_bfB pb_sum (cr_sum rfl) T.b_sum bb_sum (d_cons (d_var 3) d_nil)) (d_var 1)) (d_cons d_dnewT d_nil))) (d_gtup rfl (d_gcons 6 (d_gcons 7 d_gnil sc__law_air.nd) sc__law_air.nd)))
  (d_scons (d_par2 (ctx := 0) 8 9 rfl sc__law_air.nd (d_cons (d_bin p_add op_add2 d_int (d_bin p_mod op_mod (d_bin p_fdiv op_fdiv (d_call C__law_number hr pass0 (d_cons (d_var 6) (d_cons (d_bin p_add op_add2 (d_var 1) d_int) (d_cons d_int d_nil)))) d_int) (d_var 2))) (d_cons (d_bin p_mod op_mod (d_bin p_fdiv op_fdiv (d_call C__law_number hr pass0 (d_cons (d_var 6) (d_cons (d_bin p_add op_add2 (d_var 1) d_int) (d_cons d_int d_nil)))) d_int) d_int) d_nil)) rfl)
  (d_scons (d_set 4 (d_bin p_mod op_mod (d_bin p_fdiv op_fdiv (d_call C__law_number hr pass0 (d_cons (d_var 6) (d_cons (d_bin p_add op_add2 (d_var 1) d_int) (d_cons d_int d_nil)))) d_int) d_int) sc__law_air.nd)
  (d_scons (d_for PassesOwn.never rfl (d_rng1 (by rfl) T.b_range (d_ite (d_cmpT p_gt op_gt (by rfl) (d_var 8) d_int) (d_bfB pb_min2 (call_min2 rfl) T.b_min bb_min (d_cons d_int (d_cons (d_bin p_mul op_mul2 d_int (d_var 8)) d_nil))) d_int)) (d_gname 5 sc__law_air.nd) (d_scons (d_set 10 (d_bin p_fdiv op_fdiv (d_call C__law_number hr pass0 (d_cons (d_bin p_add op_add2 (d_idx hr (d_var 3) (d_bin p_mod op_mod (d_bin p_add op_add2 (d_var 5) (d_var 1)) (d_bfB pb_len cr_len2 T.b_len bb_len (d_cons (d_var 3) d_nil)))) (d_var 5)) (d_cons (d_bin p_add op_add2 (d_var 5) (d_var 1)) (d_cons (d_var 6) d_nil)))) d_int) sc__law_air.nd)
  (d_scons (d_set 11 (d_bin p_mod op_mod (d_var 5) (d_var 8)) sc__law_air.nd)
  (d_scons (d_par2 (ctx := 0) 14 15 rfl sc__law_air.nd (d_cons (d_bin p_mod op_mod (d_bin p_fdiv op_fdiv (d_var 10) d_int) (d_var 8)) (d_cons (d_ite (d_cmpT p_gt op_gt (by rfl) (d_var 11) d_int) d_int d_int) d_nil)) rfl)
  (d_scons (d_set 12 (d_idx hr (d_tup (d_cons (d_bin p_mod op_mod (d_bin p_add op_add2 (d_var 11) d_int) (d_var 8)) (d_cons (d_var 15) (d_cons (d_bin p_mod op_mod (d_bin p_add op_add2 (d_bin p_add op_add2 (d_var 11) d_int) (d_var 14)) (d_var 8)) (d_cons (d_var 14) d_nil))))) (d_var 9)) sc__law_air.nd)
  (d_scons (d_set 13 (d_idx hr (d_tup (d_cons (d_bin p_add op_add2 d_int (d_bin p_mod op_mod (d_var 10) d_int)) (d_cons (d_bin p_add op_add2 d_int (d_bin p_mod op_mod (d_var 10) d_int)) (d_cons d_int d_nil)))) (d_var 4)) sc__law_air.nd)
  (d_sone (d_if (d_cmpT p_ne (op_ne2 (hu64 hr)) (by rfl) (d_var 11) (d_var 12)) (d_scons (d_sub (hu1 hr) (d_var 7) (d_tup (d_cons (d_var 11) (d_cons (d_var 12) d_nil))) (d_var 13))
  (d_sone (d_if (d_cmpT p_gt op_gt (by rfl) (d_bin p_mod op_mod (d_bin p_fdiv op_fdiv (d_var 10) d_int) d_int) d_int) (d_sone (d_sub (hu1 hr) (d_var 7) (d_tup (d_cons (d_var 12) (d_cons (d_var 11) d_nil))) (d_bin p_add op_add2 d_int (d_bin p_mod op_mod (d_bin p_add op_add2 (d_var 13) (d_bin p_fdiv op_fdiv (d_var 10) d_int)) d_int)))) d_snil))) d_snil))))))))
  (d_sone (d_ret (d_tup (d_cons (d_var 8) (d_cons (d_bfB pb_sorted (cr_sort2 rfl (hu64 hr)) T.b_sorted bb_sorted (d_cons (d_lock 7 (d_comp rfl sc__law_air.nd (d_keys (d_var 7)) (own := [("_law_one", 11), ("_law_other", 12)]) (blkOk_by (N := ["_law_script", "_law_by", "_law_most", "_law_cells", "_law_sort", "_law_at", "_law_whole", "_law_links", "_law_many", "_law_kind", "_law_number_here", "_law_one", "_law_other", "_law_quality", "_law_any_one", "_law_star"]) (sc := (defScope s__law_air)) (own := [("_law_one", 11), ("_law_other", 12)]) (by decide +kernel)) (fun _ _ _ _ _ => (d_gtup rfl (d_gcons 11 (d_gcons 12 d_gnil sc__law_air.nd) sc__law_air.nd))) (fun _ _ _ _ _ => d_tyes) (fun _ _ _ _ _ => (d_tup (d_cons (d_var 11) (d_cons (d_var 12) (d_cons (d_idx hr (d_var 7) (d_tup (d_cons (d_var 11) (d_cons (d_var 12) d_nil)))) d_nil))))))) d_nil)) d_nil))))))))))
theorem sc__law_copied : FnScope ["_law_air_here"] ["_law_air_here"] (defScope s__law_copied) := ⟨rfl, rfl, rfl, by decide +kernel, rfl, by decide +kernel, by decide +kernel⟩
theorem ok__law_copied (T : Txt mg) (F : Fun K "_law_copied" "_law_copied" s__law_copied fa fd)  : FnOk Pg w K mg base CX0 1 fa fd ["_law_air_here"] (spF (G0 Pg w K cls exc) 37) :=
  fn_nx (k := 0) F sc__law_copied rfl fun cdv A outer s H E hr =>
  (d_sone (d_ret (d_tup (d_cons (d_idx hr (d_var 0) d_int) (d_cons (d_bfT pb_list cr_list2 T.b_list bt_list (d_cons (d_idx hr (d_var 0) d_int) d_nil)) d_nil)))))
theorem sc__law_come : FnScope ["_law_air_here", "_law_one", "_law_least", "_law_found", "_law_again", "_law_first", "_law_second", "_law_quality"] ["_law_air_here", "_law_one", "_law_least"] (defScope s__law_come) := ⟨rfl, rfl, rfl, by decide +kernel, rfl, by decide +kernel, by decide +kernel⟩
theorem ok__law_come (T : Txt mg) (F : Fun K "_law_come" "_law_come" s__law_come fa fd)  : FnOk Pg w K mg base CX0 1 fa fd ["_law_air_here", "_law_one", "_law_least"] (spF (G0 Pg w K cls exc) 36) :=
  fn_nx (k := 0) F sc__law_come rfl fun cdv A outer s H E hr =>
  (d_scons (d_par2 (ctx := 0) 3 4 rfl sc__law_come.nd (d_cons d_dnewK (d_cons d_bl d_nil)) rfl)
  (d_scons (d_sub (hu1 hr) (d_var 3) (d_var 1) d_bl)
  (d_scons (d_while PassesOwn.never (d_tv (d_var 4)) (d_scons (d_set 4 d_bl sc__law_come.nd)
  (d_sone (d_for PassesOwn.never rfl (d_seq (d_idx hr (d_var 0) d_int)) (d_gtup rfl (d_gcons 5 (d_gcons 6 (d_gcons 7 d_gnil sc__law_come.nd) sc__law_come.nd) sc__law_come.nd)) (d_sone (d_if ((d_andW (d_cmpT p_ge (op_ge2 (hu0 hr)) (by rfl) (d_var 7) (d_var 2)) (d_andW (d_cmpT p_in (op_in2 (room_u hr)) (by rfl) (d_var 5) (d_var 3)) (d_oneA (d_cmpT p_notin (op_notin2 (room_u hr)) (by rfl) (d_var 6) (d_var 3)))))).pt (d_scons (d_sub (hu1 hr) (d_var 3) (d_var 6) d_bl)
  (d_sone (d_set 4 d_bl sc__law_come.nd))) d_snil))))))
  (d_sone (d_ret (d_bfT pb_list cr_list2 T.b_list bt_list (d_cons (d_var 3) d_nil)))))))
theorem sc__law_groups : FnScope ["_law_air_here", "_law_least", "_law_back", "_law_station", "_law_found", "_law_done", "_law_there", "_law_home", "_law_one", "_law_other", "_law_quality"] ["_law_air_here", "_law_least"] (defScope s__law_groups) := ⟨rfl, rfl, rfl, by decide +kernel, rfl, by decide +kernel, by decide +kernel⟩
theorem ok__law_groups (T : Txt mg) (F : Fun K "_law_groups" "_law_groups" s__law_groups fa fd) (C__law_come : FnS Pg w K mg base CX0 1 (G0 Pg w K cls exc) "_law_come" 36) : FnOk Pg w K mg base CX0 2 fa fd ["_law_air_here", "_law_least"] (spF (G0 Pg w K cls exc) 45) :=
  fn_nx (k := 1) F sc__law_groups rfl fun cdv A outer s H E hr =>
  (d_scons (d_set 2 (d_tup (d_cons (d_idx hr (d_var 0) d_int) (d_cons (d_comp rfl sc__law_groups.nd (d_seq (d_idx hr (d_var 0) d_int)) (own := [("_law_one", 8), ("_law_other", 9), ("_law_quality", 10)]) (blkOk_by (N := ["_law_air_here", "_law_least", "_law_back", "_law_station", "_law_found", "_law_done", "_law_there", "_law_home", "_law_one", "_law_other", "_law_quality"]) (sc := (defScope s__law_groups)) (own := [("_law_one", 8), ("_law_other", 9), ("_law_quality", 10)]) (by decide +kernel)) (fun _ _ _ _ _ => (d_gtup rfl (d_gcons 8 (d_gcons 9 (d_gcons 10 d_gnil sc__law_groups.nd) sc__law_groups.nd) sc__law_groups.nd))) (fun _ _ _ _ _ => d_tyes) (fun _ _ _ _ _ => (d_tup (d_cons (d_var 9) (d_cons (d_var 8) (d_cons (d_var 10) d_nil)))))) d_nil))) sc__law_groups.nd)
  (d_scons (d_par2 (ctx := 0) 4 5 rfl sc__law_groups.nd (d_cons (d_lst d_nil) (d_cons (d_lst d_nil) d_nil)) rfl)
  (d_scons (d_for PassesOwn.never rfl (d_rng1 (by rfl) T.b_range (d_idx hr (d_var 0) d_int)) (d_gname 3 sc__law_groups.nd) (d_sone (d_if (d_cmpT p_notin (op_notin2 (room_u hr)) (by rfl) (d_var 3) (d_var 5)) (d_scons (d_asg (d_tup (d_cons (d_call C__law_come hr pass0 (d_cons (d_var 0) (d_cons (d_var 3) (d_cons (d_var 1) d_nil)))) (d_cons (d_call C__law_come hr pass0 (d_cons (d_var 2) (d_cons (d_var 3) (d_cons (d_var 1) d_nil)))) d_nil))) (d_gtup rfl (d_gcons 6 (d_gcons 7 d_gnil sc__law_groups.nd) sc__law_groups.nd)))
  (d_scons (d_expr (d_bm mb_append (fun z => nomatch z) PySem.F.slot_list_append PySem.F.type_list_append mt_append (d_var 4) (d_cons (d_bfB pb_sorted (cr_sort2 rfl (hu64 hr)) T.b_sorted bb_sorted (d_cons (d_comp rfl sc__law_groups.nd (d_seq (d_var 6)) (own := [("_law_one", 8)]) (blkOk_by (N := ["_law_air_here", "_law_least", "_law_back", "_law_station", "_law_found", "_law_done", "_law_there", "_law_home", "_law_one", "_law_other", "_law_quality"]) (sc := (defScope s__law_groups)) (own := [("_law_one", 8)]) (by decide +kernel)) (fun _ _ _ _ _ => (d_gname 8 sc__law_groups.nd)) (fun _ _ _ _ _ => (pts_one (d_cmpT p_in (op_in2 (room_u hr)) (by rfl) (d_var 8) (d_var 7)))) (fun _ _ _ _ _ => (d_var 8))) d_nil)) d_nil)))
  (d_sone (d_set 5 (d_bin p_add op_add2 (d_var 5) (d_idx hr (d_var 4) (d_neg d_int))) sc__law_groups.nd)))) d_snil)))
  (d_sone (d_ret (d_var 4))))))
theorem sc_law : FnScope ["_law_script", "_law_whole", "_law_by", "_law_air_here", "_law_least", "_law_last", "_law_again", "_law_group", "_law_handed", "_law_due", "_law_found", "_law_wider", "_law_wide", "_law_one"] ["_law_script"] (defScope s_law) := ⟨rfl, rfl, rfl, by decide +kernel, rfl, by decide +kernel, by decide +kernel⟩
theorem ok_law (T : Txt mg) (F : Fun K "law" "law" s_law fa fd) (C_groups_of : FnS Pg w K mg base CX0 5 (G0 Pg w K cls exc) "groups_of" 110) (C__law_groups : FnS Pg w K mg base CX0 2 (G0 Pg w K cls exc) "_law_groups" 45) (C__law_copied : FnS Pg w K mg base CX0 1 (G0 Pg w K cls exc) "_law_copied" 37) (C__law_air : FnS Pg w K mg base CX0 2 (G0 Pg w K cls exc) "_law_air" 25) : FnOk Pg w K mg base CX0 6 fa fd ["_law_script"] (spF (G0 Pg w K cls exc) 118) :=
  fn_nx (k := 5) F sc_law rfl fun cdv A outer s H E hr =>
  (d_scons (d_set 1 (d_bfB pb_sum (cr_sum rfl) T.b_sum bb_sum (d_cons (d_slice (d_var 0) d_onone (d_osome d_int)) d_nil)) sc_law.nd)
  (d_scons (d_for PassesOwn.never rfl (d_rng1 (by rfl) T.b_range d_int) (d_gname 2 sc_law.nd) (d_scons (d_par2 (ctx := 0) 3 5 rfl sc_law.nd (d_cons (d_call C__law_air hr pass0 (d_cons (d_var 0) (d_cons (d_var 2) (d_cons (d_ite (d_cmpT p_eq (op_eq2 (hu64 hr)) (by rfl) (d_bin p_mod op_mod (d_var 1) d_int) (d_var 2)) d_int d_int) d_nil)))) (d_cons d_non d_nil)) rfl)
  (d_sone (d_for PassesOwn.never rfl (d_seq (d_tup (d_cons d_int (d_cons (d_bin p_add op_add2 d_int (d_bin p_mod op_mod (d_bin p_fdiv op_fdiv (d_var 1) d_int) d_int)) (d_cons d_int d_nil))))) (d_gname 4 sc_law.nd) (d_scons (d_par2 (ctx := 0) 8 9 rfl sc_law.nd (d_cons (d_call C__law_copied hr pass0 (d_cons (d_var 3) d_nil)) (d_cons (d_call C__law_groups hr pass0 (d_cons (d_var 3) (d_cons (d_var 4) d_nil))) d_nil)) rfl)
  (d_scons (d_for PassesOwn.never rfl (d_rng1 (by rfl) T.b_range d_int) (d_gname 6 sc_law.nd) (d_scons (d_set 10 (d_call C_groups_of hr pass0 (d_cons (d_var 8) (d_cons (d_var 4) d_nil))) sc_law.nd)
  (d_scons (d_if ((d_orW (d_notT (d_tv (d_isi rfl (d_var 10) bt_list (by rfl) T.b_isinstance (by rfl) T.b_list bb_isinstance))) (d_orW (d_cmpT p_ne (op_ne2 (hu64 hr)) (by rfl) (d_var 10) (d_var 9)) (d_oneO (d_cmpT p_ne (op_ne2 (hu64 hr)) (by rfl) (d_var 8) (d_var 3)))))).pt (d_sone (d_ret d_bl)) d_snil)
  (d_scons (d_if (d_notT (d_tv (d_bfB pb_all (cr_all rfl) T.b_all bb_all (d_cons (d_comp rfl sc_law.nd (d_seq (d_var 10)) (own := [("_law_group", 7)]) (blkOk_by (N := ["_law_script", "_law_whole", "_law_by", "_law_air_here", "_law_least", "_law_last", "_law_again", "_law_group", "_law_handed", "_law_due", "_law_found", "_law_wider", "_law_wide", "_law_one"]) (sc := (defScope s_law)) (own := [("_law_group", 7)]) (by decide +kernel)) (fun _ _ _ _ _ => (d_gname 7 sc_law.nd)) (fun _ _ _ _ _ => d_tyes) (fun _ _ _ _ _ => (d_isi rfl (d_var 7) bt_list (by rfl) T.b_isinstance (by rfl) T.b_list bb_isinstance))) d_nil)))) (d_sone (d_ret d_bl)) d_snil)
  (d_scons (d_for PassesOwn.never rfl (d_seq (d_var 10)) (d_gname 7 sc_law.nd) (d_sone (d_expr (d_bm mb_append (fun z => nomatch z) PySem.F.slot_list_append PySem.F.type_list_append mt_append (d_var 7) (d_cons d_int d_nil)))))
  (d_sone (d_expr (d_bm mb_append (fun z => nomatch z) PySem.F.slot_list_append PySem.F.type_list_append mt_append (d_var 10) (d_cons (d_lst d_nil) d_nil)))))))))
  (d_scons (d_for PassesOwn.never rfl (d_seq (d_var 9)) (d_gname 7 sc_law.nd) (d_scons (d_set 11 (d_comp rfl sc_law.nd (d_seq (d_ite (d_cmpT p_isnot op_isnot2 (by rfl) (d_var 5) d_non) (d_var 5) (d_var 9))) (own := [("_law_wide", 12)]) (blkOk_by (N := ["_law_script", "_law_whole", "_law_by", "_law_air_here", "_law_least", "_law_last", "_law_again", "_law_group", "_law_handed", "_law_due", "_law_found", "_law_wider", "_law_wide", "_law_one"]) (sc := (defScope s_law)) (own := [("_law_wide", 12)]) (by decide +kernel)) (fun _ _ _ _ _ => (d_gname 12 sc_law.nd)) (fun _ _ _ _ _ => (pts_one (d_cmpT p_in (op_in2 (room_u hr)) (by rfl) (d_idx hr (d_var 7) d_int) (d_var 12)))) (fun _ _ _ _ _ => (d_var 12))) sc_law.nd)
  (d_sone (d_if (d_notT (d_tv (d_bfB pb_all (cr_all rfl) T.b_all bb_all (d_cons (d_comp rfl sc_law.nd (d_seq (d_var 7)) (own := [("_law_one", 13)]) (blkOk_by (N := ["_law_script", "_law_whole", "_law_by", "_law_air_here", "_law_least", "_law_last", "_law_again", "_law_group", "_law_handed", "_law_due", "_law_found", "_law_wider", "_law_wide", "_law_one"]) (sc := (defScope s_law)) (own := [("_law_one", 13)]) (by decide +kernel)) (fun _ _ _ _ _ => (d_gname 13 sc_law.nd)) (fun _ _ _ _ _ => d_tyes) (fun _ _ _ _ _ => (d_cmp p_in (op_in2 (room_u hr)) (by rfl) (d_var 13) (d_idx hr (d_var 11) d_int)))) d_nil)))) (d_sone (d_ret d_bl)) d_snil))))
  (d_scons (d_set 5 (d_var 9) sc_law.nd)
  (d_sone (d_if (d_cmpT p_ne (op_ne2 (hu64 hr)) (by rfl) (d_idx hr (d_var 8) d_int) (d_lst d_nil)) (d_scons (d_expr (d_bm0 mb_pop (fun z => nomatch z) PySem.F.slot_list_pop PySem.F.type_list_pop mt_pop (d_idx hr (d_var 8) d_int)))
  (d_sone (d_if (d_cmpT p_ne (op_ne2 (hu64 hr)) (by rfl) (d_call C_groups_of hr pass0 (d_cons (d_var 8) (d_cons (d_var 4) d_nil))) (d_call C__law_groups hr pass0 (d_cons (d_var 8) (d_cons (d_var 4) d_nil)))) (d_sone (d_ret d_bl)) d_snil))) d_snil))))))))))
  (d_scons (d_set 3 (d_tup (d_cons d_int (d_cons (d_lst (d_cons (d_tup (d_cons d_int (d_cons d_int (d_cons d_int d_nil)))) (d_cons (d_tup (d_cons d_int (d_cons d_int (d_cons d_int d_nil)))) (d_cons (d_tup (d_cons d_int (d_cons d_int (d_cons d_int d_nil)))) (d_cons (d_tup (d_cons d_int (d_cons d_int (d_cons d_int d_nil)))) (d_cons (d_tup (d_cons d_int (d_cons d_int (d_cons d_int d_nil)))) d_nil)))))) d_nil))) sc_law.nd)
  (d_scons (d_if ((d_orW (d_cmpT p_ne (op_ne2 (hu64 hr)) (by rfl) (d_call C_groups_of hr pass0 (d_cons (d_var 3) (d_cons d_int d_nil))) (d_lst (d_cons (d_lst (d_cons d_int (d_cons d_int d_nil))) (d_cons (d_lst (d_cons d_int d_nil)) (d_cons (d_lst (d_cons d_int d_nil)) (d_cons (d_lst (d_cons d_int d_nil)) d_nil)))))) (d_oneO (d_cmpT p_ne (op_ne2 (hu64 hr)) (by rfl) (d_call C_groups_of hr pass0 (d_cons (d_tup (d_cons d_int (d_cons (d_lst d_nil) d_nil))) (d_cons d_int d_nil))) (d_lst (d_cons (d_lst (d_cons d_int d_nil)) d_nil)))))).pt (d_sone (d_ret d_bl)) d_snil)
  (d_sone (d_ret (d_cmp p_eq (op_eq2 (hu64 hr)) (by rfl) (d_call C_groups_of hr pass0 (d_cons (d_var 3) (d_cons d_int d_nil))) (d_lst (d_cons (d_lst (d_cons d_int (d_cons d_int d_nil))) (d_cons (d_lst (d_cons d_int d_nil)) (d_cons (d_lst (d_cons d_int (d_cons d_int d_nil))) d_nil)))))))))))
end
theorem all_mk {l : PySem.W.OpenLaw} {w : World} {K : PySem.W.Frag} {h : Heap} {mg : Str → Option Value} {fa : Addr} {f0 f1 f2 f3 f4 f5 f6 f7 f8 f9 f10 f11 f12 f13 : Addr} (X : K.In h) (G : h.Ns mainGlobals mg) (hfa : mg "law" = some (.ref fa))
    {od0 an0 od1 an1 od2 an2 od3 an3 od4 an4 od5 an5 od6 an6 od7 an7 od8 an8 od9 an9 od10 an10 od11 an11 od12 an12 od13 an13 : Option Addr} {sl0 sl1 sl2 sl3 sl4 sl5 sl6 sl7 sl8 sl9 sl10 sl11 sl12 sl13 : Array (Option Value)} {oc0 kV0 dc0 pm0 cd0 ct0 oc1 kV1 dc1 pm1 cd1 ct1 oc2 kV2 dc2 pm2 cd2 ct2 oc3 kV3 dc3 pm3 cd3 ct3 oc4 kV4 dc4 pm4 cd4 ct4 oc5 kV5 dc5 pm5 cd5 ct5 oc6 kV6 dc6 pm6 cd6 ct6 oc7 kV7 dc7 pm7 cd7 ct7 oc8 kV8 dc8 pm8 cd8 ct8 oc9 kV9 dc9 pm9 cd9 ct9 oc10 kV10 dc10 pm10 cd10 ct10 oc11 kV11 dc11 pm11 cd11 ct11 oc12 kV12 dc12 pm12 cd12 ct12 oc13 kV13 dc13 pm13 cd13 ct13 : Value} {t_BEST t_MOST_LINKS t_MOST_STATIONS : Tok}
    (a0 : PySem.W.nsIn K mainGlobals "is_whole" = some (some (.ref f0))) (l0 : K.lookup f0 = some ⟨oc0, od0, .func (PySem.W.fnOf "is_whole" "is_whole" (defArgs s_is_whole) (defBody s_is_whole) (defScope s_is_whole) .none kV0 dc0 pm0 an0 cd0 ct0), sl0⟩) (c0 : PySem.W.codeIn K cd0 "is_whole" = true) (k0 : PySem.W.keepIn K (.ref f0) = true)
    (a1 : PySem.W.nsIn K mainGlobals "is_between" = some (some (.ref f1))) (l1 : K.lookup f1 = some ⟨oc1, od1, .func (PySem.W.fnOf "is_between" "is_between" (defArgs s_is_between) (defBody s_is_between) (defScope s_is_between) .none kV1 dc1 pm1 an1 cd1 ct1), sl1⟩) (c1 : PySem.W.codeIn K cd1 "is_between" = true) (k1 : PySem.W.keepIn K (.ref f1) = true)
    (a2 : PySem.W.nsIn K mainGlobals "is_link" = some (some (.ref f2))) (l2 : K.lookup f2 = some ⟨oc2, od2, .func (PySem.W.fnOf "is_link" "is_link" (defArgs s_is_link) (defBody s_is_link) (defScope s_is_link) .none kV2 dc2 pm2 an2 cd2 ct2), sl2⟩) (c2 : PySem.W.codeIn K cd2 "is_link" = true) (k2 : PySem.W.keepIn K (.ref f2) = true)
    (a3 : PySem.W.nsIn K mainGlobals "check_air" = some (some (.ref f3))) (l3 : K.lookup f3 = some ⟨oc3, od3, .func (PySem.W.fnOf "check_air" "check_air" (defArgs s_check_air) (defBody s_check_air) (defScope s_check_air) .none kV3 dc3 pm3 an3 cd3 ct3), sl3⟩) (c3 : PySem.W.codeIn K cd3 "check_air" = true) (k3 : PySem.W.keepIn K (.ref f3) = true)
    (a4 : PySem.W.nsIn K mainGlobals "check_least" = some (some (.ref f4))) (l4 : K.lookup f4 = some ⟨oc4, od4, .func (PySem.W.fnOf "check_least" "check_least" (defArgs s_check_least) (defBody s_check_least) (defScope s_check_least) .none kV4 dc4 pm4 an4 cd4 ct4), sl4⟩) (c4 : PySem.W.codeIn K cd4 "check_least" = true) (k4 : PySem.W.keepIn K (.ref f4) = true)
    (a5 : PySem.W.nsIn K mainGlobals "heard_from" = some (some (.ref f5))) (l5 : K.lookup f5 = some ⟨oc5, od5, .func (PySem.W.fnOf "heard_from" "heard_from" (defArgs s_heard_from) (defBody s_heard_from) (defScope s_heard_from) .none kV5 dc5 pm5 an5 cd5 ct5), sl5⟩) (c5 : PySem.W.codeIn K cd5 "heard_from" = true) (k5 : PySem.W.keepIn K (.ref f5) = true)
    (a6 : PySem.W.nsIn K mainGlobals "steps_from" = some (some (.ref f6))) (l6 : K.lookup f6 = some ⟨oc6, od6, .func (PySem.W.fnOf "steps_from" "steps_from" (defArgs s_steps_from) (defBody s_steps_from) (defScope s_steps_from) .none kV6 dc6 pm6 an6 cd6 ct6), sl6⟩) (c6 : PySem.W.codeIn K cd6 "steps_from" = true) (k6 : PySem.W.keepIn K (.ref f6) = true)
    (a7 : PySem.W.nsIn K mainGlobals "groups_of" = some (some (.ref f7))) (l7 : K.lookup f7 = some ⟨oc7, od7, .func (PySem.W.fnOf "groups_of" "groups_of" (defArgs s_groups_of) (defBody s_groups_of) (defScope s_groups_of) .none kV7 dc7 pm7 an7 cd7 ct7), sl7⟩) (c7 : PySem.W.codeIn K cd7 "groups_of" = true) (k7 : PySem.W.keepIn K (.ref f7) = true)
    (a8 : PySem.W.nsIn K mainGlobals "_law_number" = some (some (.ref f8))) (l8 : K.lookup f8 = some ⟨oc8, od8, .func (PySem.W.fnOf "_law_number" "_law_number" (defArgs s__law_number) (defBody s__law_number) (defScope s__law_number) .none kV8 dc8 pm8 an8 cd8 ct8), sl8⟩) (c8 : PySem.W.codeIn K cd8 "_law_number" = true) (k8 : PySem.W.keepIn K (.ref f8) = true)
    (a9 : PySem.W.nsIn K mainGlobals "_law_air" = some (some (.ref f9))) (l9 : K.lookup f9 = some ⟨oc9, od9, .func (PySem.W.fnOf "_law_air" "_law_air" (defArgs s__law_air) (defBody s__law_air) (defScope s__law_air) .none kV9 dc9 pm9 an9 cd9 ct9), sl9⟩) (c9 : PySem.W.codeIn K cd9 "_law_air" = true) (k9 : PySem.W.keepIn K (.ref f9) = true)
    (a10 : PySem.W.nsIn K mainGlobals "_law_copied" = some (some (.ref f10))) (l10 : K.lookup f10 = some ⟨oc10, od10, .func (PySem.W.fnOf "_law_copied" "_law_copied" (defArgs s__law_copied) (defBody s__law_copied) (defScope s__law_copied) .none kV10 dc10 pm10 an10 cd10 ct10), sl10⟩) (c10 : PySem.W.codeIn K cd10 "_law_copied" = true) (k10 : PySem.W.keepIn K (.ref f10) = true)
    (a11 : PySem.W.nsIn K mainGlobals "_law_come" = some (some (.ref f11))) (l11 : K.lookup f11 = some ⟨oc11, od11, .func (PySem.W.fnOf "_law_come" "_law_come" (defArgs s__law_come) (defBody s__law_come) (defScope s__law_come) .none kV11 dc11 pm11 an11 cd11 ct11), sl11⟩) (c11 : PySem.W.codeIn K cd11 "_law_come" = true) (k11 : PySem.W.keepIn K (.ref f11) = true)
    (a12 : PySem.W.nsIn K mainGlobals "_law_groups" = some (some (.ref f12))) (l12 : K.lookup f12 = some ⟨oc12, od12, .func (PySem.W.fnOf "_law_groups" "_law_groups" (defArgs s__law_groups) (defBody s__law_groups) (defScope s__law_groups) .none kV12 dc12 pm12 an12 cd12 ct12), sl12⟩) (c12 : PySem.W.codeIn K cd12 "_law_groups" = true) (k12 : PySem.W.keepIn K (.ref f12) = true)
    (a13 : PySem.W.nsIn K mainGlobals "law" = some (some (.ref f13))) (l13 : K.lookup f13 = some ⟨oc13, od13, .func (PySem.W.fnOf "law" "law" (defArgs s_law) (defBody s_law) (defScope s_law) .none kV13 dc13 pm13 an13 cd13 ct13), sl13⟩) (c13 : PySem.W.codeIn K cd13 "law" = true) (k13 : PySem.W.keepIn K (.ref f13) = true)
    (z_all : PySem.W.nsIn K mainGlobals "all" = some none)
    (z_any : PySem.W.nsIn K mainGlobals "any" = some none)
    (z_bool : PySem.W.nsIn K mainGlobals "bool" = some none)
    (z_int : PySem.W.nsIn K mainGlobals "int" = some none)
    (z_isinstance : PySem.W.nsIn K mainGlobals "isinstance" = some none)
    (z_len : PySem.W.nsIn K mainGlobals "len" = some none)
    (z_list : PySem.W.nsIn K mainGlobals "list" = some none)
    (z_min : PySem.W.nsIn K mainGlobals "min" = some none)
    (z_range : PySem.W.nsIn K mainGlobals "range" = some none)
    (z_sorted : PySem.W.nsIn K mainGlobals "sorted" = some none)
    (z_sum : PySem.W.nsIn K mainGlobals "sum" = some none)
    (z_tuple : PySem.W.nsIn K mainGlobals "tuple" = some none)
    (z_zip : PySem.W.nsIn K mainGlobals "zip" = some none)
    (y_BEST : PySem.W.nsIn K mainGlobals "BEST" = some (some (.int 9 t_BEST)))
    (y_MOST_LINKS : PySem.W.nsIn K mainGlobals "MOST_LINKS" = some (some (.int 120 t_MOST_LINKS)))
    (y_MOST_STATIONS : PySem.W.nsIn K mainGlobals "MOST_STATIONS" = some (some (.int 40 t_MOST_STATIONS)))
    : ∃ fd : FuncData, (∀ (s : Shared) (v : Value), BindsTo s fd ⟨[v], []⟩ [("_law_script", v)]) ∧ ∀ base : Heap, K.In base → base.Ns mainGlobals mg → FnOk l.prog w K mg base CX0 6 fa fd ["_law_script"] (spF (G0 l.prog w K (fun _ => 0) (fun _ => 0)) 118) := by
  have e := hfa.symm.trans (PySem.W.mg_of X G a13)
  cases e
  have T : Txt mg := ⟨PySem.W.mg_none_of X G z_all, PySem.W.mg_none_of X G z_any, PySem.W.mg_none_of X G z_bool, PySem.W.mg_none_of X G z_int, PySem.W.mg_none_of X G z_isinstance, PySem.W.mg_none_of X G z_len, PySem.W.mg_none_of X G z_list, PySem.W.mg_none_of X G z_min, PySem.W.mg_none_of X G z_range, PySem.W.mg_none_of X G z_sorted, PySem.W.mg_none_of X G z_sum, PySem.W.mg_none_of X G z_tuple, PySem.W.mg_none_of X G z_zip, ⟨_, PySem.W.mg_of X G y_BEST⟩, ⟨_, PySem.W.mg_of X G y_MOST_LINKS⟩, ⟨_, PySem.W.mg_of X G y_MOST_STATIONS⟩⟩
  have F0 := fun_mk (st := s_is_whole) l0 c0 k0
  have F1 := fun_mk (st := s_is_between) l1 c1 k1
  have F2 := fun_mk (st := s_is_link) l2 c2 k2
  have F3 := fun_mk (st := s_check_air) l3 c3 k3
  have F4 := fun_mk (st := s_check_least) l4 c4 k4
  have F5 := fun_mk (st := s_heard_from) l5 c5 k5
  have F6 := fun_mk (st := s_steps_from) l6 c6 k6
  have F7 := fun_mk (st := s_groups_of) l7 c7 k7
  have F8 := fun_mk (st := s__law_number) l8 c8 k8
  have F9 := fun_mk (st := s__law_air) l9 c9 k9
  have F10 := fun_mk (st := s__law_copied) l10 c10 k10
  have F11 := fun_mk (st := s__law_come) l11 c11 k11
  have F12 := fun_mk (st := s__law_groups) l12 c12 k12
  have F13 := fun_mk (st := s_law) l13 c13 k13
  refine ⟨PySem.W.fnOf "law" "law" (defArgs s_law) (defBody s_law) (defScope s_law) .none kV13 dc13 pm13 an13 cd13 ct13, fun s v => .of_eq rfl, fun base _ _ => ?_⟩
  have b0 := F0.binds (ps := ["thing"]) fun _ _ _ _ _ _ us hl => match us, hl with | [_], _ => rfl
  have C0 : FnS l.prog w K mg base CX0 1 (G0 l.prog w K (fun _ => 0) (fun _ => 0)) "is_whole" 116 := ⟨_, _, _, ok_is_whole T F0 , PySem.W.mg_of X G a0, k0, b0⟩
  have b1 := F1.binds (ps := ["thing", "least", "most"]) fun _ _ _ _ _ _ us hl => match us, hl with | [_, _, _], _ => rfl
  have C1 : FnS l.prog w K mg base CX0 2 (G0 l.prog w K (fun _ => 0) (fun _ => 0)) "is_between" 112 := ⟨_, _, _, ok_is_between T F1 C0, PySem.W.mg_of X G a1, k1, b1⟩
  have b2 := F2.binds (ps := ["thing", "stations"]) fun _ _ _ _ _ _ us hl => match us, hl with | [_, _], _ => rfl
  have C2 : FnS l.prog w K mg base CX0 3 (G0 l.prog w K (fun _ => 0) (fun _ => 0)) "is_link" 114 := ⟨_, _, _, ok_is_link T F2 C1, PySem.W.mg_of X G a2, k2, b2⟩
  have b3 := F3.binds (ps := ["air"]) fun _ _ _ _ _ _ us hl => match us, hl with | [_], _ => rfl
  have C3 : FnS l.prog w K mg base CX0 4 (G0 l.prog w K (fun _ => 0) (fun _ => 0)) "check_air" 103 := ⟨_, _, _, ok_check_air T F3 C2 C1, PySem.W.mg_of X G a3, k3, b3⟩
  have b4 := F4.binds (ps := ["least"]) fun _ _ _ _ _ _ us hl => match us, hl with | [_], _ => rfl
  have C4 : FnS l.prog w K mg base CX0 3 (G0 l.prog w K (fun _ => 0) (fun _ => 0)) "check_least" 104 := ⟨_, _, _, ok_check_least T F4 C1, PySem.W.mg_of X G a4, k4, b4⟩
  have b5 := F5.binds (ps := ["air", "least"]) fun _ _ _ _ _ _ us hl => match us, hl with | [_, _], _ => rfl
  have C5 : FnS l.prog w K mg base CX0 1 (G0 l.prog w K (fun _ => 0) (fun _ => 0)) "heard_from" 111 := ⟨_, _, _, ok_heard_from T F5 , PySem.W.mg_of X G a5, k5, b5⟩
  have b6 := F6.binds (ps := ["air", "one", "least"]) fun _ _ _ _ _ _ us hl => match us, hl with | [_, _, _], _ => rfl
  have C6 : FnS l.prog w K mg base CX0 2 (G0 l.prog w K (fun _ => 0) (fun _ => 0)) "steps_from" 122 := ⟨_, _, _, ok_steps_from T F6 C5, PySem.W.mg_of X G a6, k6, b6⟩
  have b7 := F7.binds (ps := ["air", "least"]) fun _ _ _ _ _ _ us hl => match us, hl with | [_, _], _ => rfl
  have C7 : FnS l.prog w K mg base CX0 5 (G0 l.prog w K (fun _ => 0) (fun _ => 0)) "groups_of" 110 := ⟨_, _, _, ok_groups_of T F7 C6 C4 C3, PySem.W.mg_of X G a7, k7, b7⟩
  have b8 := F8.binds (ps := ["_law_cell", "_law_at", "_law_whole"]) fun _ _ _ _ _ _ us hl => match us, hl with | [_, _, _], _ => rfl
  have C8 : FnS l.prog w K mg base CX0 1 (G0 l.prog w K (fun _ => 0) (fun _ => 0)) "_law_number" 70 := ⟨_, _, _, ok__law_number T F8 , PySem.W.mg_of X G a8, k8, b8⟩
  have b9 := F9.binds (ps := ["_law_script", "_law_by", "_law_most"]) fun _ _ _ _ _ _ us hl => match us, hl with | [_, _, _], _ => rfl
  have C9 : FnS l.prog w K mg base CX0 2 (G0 l.prog w K (fun _ => 0) (fun _ => 0)) "_law_air" 25 := ⟨_, _, _, ok__law_air T F9 C8, PySem.W.mg_of X G a9, k9, b9⟩
  have b10 := F10.binds (ps := ["_law_air_here"]) fun _ _ _ _ _ _ us hl => match us, hl with | [_], _ => rfl
  have C10 : FnS l.prog w K mg base CX0 1 (G0 l.prog w K (fun _ => 0) (fun _ => 0)) "_law_copied" 37 := ⟨_, _, _, ok__law_copied T F10 , PySem.W.mg_of X G a10, k10, b10⟩
  have b11 := F11.binds (ps := ["_law_air_here", "_law_one", "_law_least"]) fun _ _ _ _ _ _ us hl => match us, hl with | [_, _, _], _ => rfl
  have C11 : FnS l.prog w K mg base CX0 1 (G0 l.prog w K (fun _ => 0) (fun _ => 0)) "_law_come" 36 := ⟨_, _, _, ok__law_come T F11 , PySem.W.mg_of X G a11, k11, b11⟩
  have b12 := F12.binds (ps := ["_law_air_here", "_law_least"]) fun _ _ _ _ _ _ us hl => match us, hl with | [_, _], _ => rfl
  have C12 : FnS l.prog w K mg base CX0 2 (G0 l.prog w K (fun _ => 0) (fun _ => 0)) "_law_groups" 45 := ⟨_, _, _, ok__law_groups T F12 C11, PySem.W.mg_of X G a12, k12, b12⟩
  exact ok_law T F13 C7 C12 C10 C9
/-- the law of the own machine -/
def Says : Prop := ∀ ns : List Int, ns.length ≤ 63 → (∀ z ∈ ns, Builtin.Int.intBits z ≤ 1048576) → ∃ n h, callF PR (evs PR n).s 118 [.ref 0] [O.rdl (ns.map V.int)] = .ok (.bl true) h
theorem says_sp (says : Says) {Pg : Program} {w : World} {K : PySem.W.Frag} {H : Hp} {a : Addr} {ns : List Int} (hl : ns.length ≤ 63) (hb : ∀ z ∈ ns, Builtin.Int.intBits z ≤ 1048576) (hO : Only H) (hS : SqL K H a (ns.map V.int)) : spF (G0 Pg w K (fun _ => 0) (fun _ => 0)) 118 [.ref a] H (fun v _ => v = .bl true) fun _ _ _ => False := by
  obtain ⟨n, h, e⟩ := says ns hl hb
  exact sp_law hO hS (d := fd_law) rfl rfl e
theorem walk (says : Says) {l : PySem.W.OpenLaw} {q : Program} {loose : List Str} {XP : (Str → Option Value) → Heap → Prop} {YP : World → Heap → Prop} {d : DefRec} {K : Params → PySem.W.Frag} (hn : l.most = some 63) (hdf : d.params.defaults = [])
    (hY : ∀ (w : World) (h : Heap), YP w h → (K w.params).In h)
    (F : ∀ (w : World) (mg : Str → Option Value) (fa : Addr) (h : Heap), (K w.params).In h → h.Ns mainGlobals mg → mg d.name = some (.ref fa) →
      ∃ fd : FuncData, (∀ (s : Shared) (u : Value), BindsTo s fd ⟨[u], []⟩ [("_law_script", u)]) ∧ ∀ base : Heap, (K w.params).In base → base.Ns mainGlobals mg → FnOk l.prog w (K w.params) mg base CX0 6 fa fd ["_law_script"] (spF (G0 l.prog w (K w.params) (fun _ => 0) (fun _ => 0)) 118)) :
    PySem.W.WalkO q loose XP YP l.row.toRowW d [] (fun f vs => PySem.call f vs) :=
  L2.walk_ofB (n := 63) (k := 6) (x := "_law_script") (CX := fun _ => CX0) (sp := fun w => spF (G0 l.prog w (K w.params) (fun _ => 0) (fun _ => 0)) 118) hn (by decide) hdf ⟨rfl, by decide, by decide⟩ hY F
    (fun w H a ns hl hb hO hS => says_sp says hl hb hO hS) fun _ _ _ _ _ z => z
end T05
/-! Ck16: runs of the own machine, backwards. -/
namespace Ck
open PySem L2
def WE (P : Prog) (e : Ex) (s : Sts) (h : Hs) (Q : V → Hs → Prop) : Prop := ∃ v h', (∃ N, ∀ n, N ≤ n → (evs P n).e e s h = .ok v h') ∧ Q v h'
def WL (P : Prog) (es : Exs) (s : Sts) (h : Hs) (Q : List V → Hs → Prop) : Prop := ∃ v h', (∃ N, ∀ n, N ≤ n → evL (fun e h => (evs P n).e e s h) es h = .ok v h') ∧ Q v h'
def WS (P : Prog) (st : Stm) (s : Sts) (h : Hs) (Q : Rs → Hs → Prop) : Prop := ∃ v h', (∃ N, ∀ n, N ≤ n → (evs P n).s st s h = .ok v h') ∧ Q v h'
def WF (P : Prog) (f : Nat) (vs : List V) (h : Hs) (Q : V → Hs → Prop) : Prop := ∃ v h', (∃ N, ∀ n, N ≤ n → callF P (evs P n).s f vs h = .ok v h') ∧ Q v h'
def WI (P : Prog) (it : It) (s : Sts) (h : Hs) (Q : ItD → Hs → Prop) : Prop := ∃ v h', (∃ N, ∀ n, N ≤ n → evI (fun e h => (evs P n).e e s h) it h = .ok v h') ∧ Q v h'
def R.sat {A : Type} (r : R A) (Q : A → Hs → Prop) : Prop := match r with
  | .ok a h => Q a h
  | _ => False
section
variable {P : Prog} {s : Sts} {h : Hs} {Q : V → Hs → Prop} {a b c d : Ex}
theorem WE.imp {Q' : V → Hs → Prop} (w : WE P a s h Q) (i : ∀ v h', Q v h' → Q' v h') : WE P a s h Q' := let ⟨v, h', e, q⟩ := w; ⟨v, h', e, i v h' q⟩
theorem WF.imp {f : Nat} {vs : List V} {Q' : V → Hs → Prop} (w : WF P f vs h Q) (i : ∀ v h', Q v h' → Q' v h') : WF P f vs h Q' := let ⟨v, h', e, q⟩ := w; ⟨v, h', e, i v h' q⟩
theorem WL.imp {es : Exs} {Q Q' : List V → Hs → Prop} (w : WL P es s h Q) (i : ∀ v h', Q v h' → Q' v h') : WL P es s h Q' := let ⟨v, h', e, q⟩ := w; ⟨v, h', e, i v h' q⟩
theorem WI.imp {it : It} {Q Q' : ItD → Hs → Prop} (w : WI P it s h Q) (i : ∀ v h', Q v h' → Q' v h') : WI P it s h Q' := let ⟨v, h', e, q⟩ := w; ⟨v, h', e, i v h' q⟩
theorem WS.imp {st : Stm} {Q Q' : Rs → Hs → Prop} (w : WS P st s h Q) (i : ∀ v h', Q v h' → Q' v h') : WS P st s h Q' := let ⟨v, h', e, q⟩ := w; ⟨v, h', e, i v h' q⟩
/-- one more turn: the step's run is wanted for all great n -/
theorem we_step (e : Ex) (w : ∃ v h', (∃ N, ∀ n, N ≤ n → stepE P n (evs P n) e s h = .ok v h') ∧ Q v h') : WE P e s h Q := by
  obtain ⟨v, h', ⟨N, hN⟩, q⟩ := w
  refine ⟨v, h', ⟨N + 1, fun n hn => ?_⟩, q⟩
  obtain ⟨m, rfl⟩ : ∃ m, n = m + 1 := ⟨n - 1, by omega⟩
  exact hN m (by omega)
theorem ws_step {Q : Rs → Hs → Prop} (e : Stm) (w : ∃ v h', (∃ N, ∀ n, N ≤ n → stepS P n (evs P n) e s h = .ok v h') ∧ Q v h') : WS P e s h Q := by
  obtain ⟨v, h', ⟨N, hN⟩, q⟩ := w
  refine ⟨v, h', ⟨N + 1, fun n hn => ?_⟩, q⟩
  obtain ⟨m, rfl⟩ : ∃ m, n = m + 1 := ⟨n - 1, by omega⟩
  exact hN m (by omega)
/-- runs for all great n -/
def Ru {A : Type} (x : Nat → R A) (Q : A → Hs → Prop) : Prop := ∃ v h', (∃ N, ∀ n, N ≤ n → x n = .ok v h') ∧ Q v h'
theorem Ru.bind {A B : Type} {x : Nat → R A} {f : Nat → A → Hs → R B} {Q : B → Hs → Prop} (w : Ru x fun v h' => Ru (fun n => f n v h') Q) : Ru (fun n => (x n).bind (f n)) Q := by
  obtain ⟨v, h', ⟨N, hN⟩, u, h2, ⟨M, hM⟩, q⟩ := w
  refine ⟨u, h2, ⟨max N M, fun n hn => ?_⟩, q⟩
  show (x n).bind (f n) = _
  rw [hN n (by omega)]
  exact hM n (by omega)
theorem Ru.ret {A : Type} {x : R A} {Q : A → Hs → Prop} (w : x.sat Q) : Ru (fun _ => x) Q := by
  cases x with
  | ok v h' => exact ⟨v, h', ⟨0, fun _ _ => rfl⟩, w⟩
  | ex c h' => exact False.elim w
  | no => exact False.elim w
theorem Ru.congr {A : Type} {x y : Nat → R A} {Q : A → Hs → Prop} (w : Ru x Q) (e : ∀ n, x n = y n) : Ru y Q := by
  obtain ⟨v, h', ⟨N, hN⟩, q⟩ := w
  exact ⟨v, h', ⟨N, fun n hn => (e n).symm.trans (hN n hn)⟩, q⟩
theorem Ru.imp {A : Type} {x : Nat → R A} {Q Q' : A → Hs → Prop} (w : Ru x Q) (i : ∀ v h', Q v h' → Q' v h') : Ru x Q' := let ⟨v, h', e, q⟩ := w; ⟨v, h', e, i v h' q⟩
theorem Ru.noex {A : Type} {x : Nat → R A} {Q : A → Hs → Prop} (w : Ru x Q) : Ru (fun n => (x n).noex) Q := by
  obtain ⟨v, h', ⟨N, hN⟩, q⟩ := w
  exact ⟨v, h', ⟨N, fun n hn => by show (x n).noex = _; rw [hN n hn]; rfl⟩, q⟩
theorem WE.of {e : Ex} (w : Ru (fun n => stepE P n (evs P n) e s h) Q) : WE P e s h Q := we_step e w
theorem WS.of {e : Stm} {Q : Rs → Hs → Prop} (w : Ru (fun n => stepS P n (evs P n) e s h) Q) : WS P e s h Q := ws_step e w

/-! ### expressions -/
theorem we_var {i : Nat} {v : V} (e : s[i]? = some (some v)) (q : Q v h) : WE P (.var i) s h Q := WE.of (Ru.congr (Ru.ret (show (Ck.R.ok v h).sat Q from q)) fun n => by
  show _ = (match s[i]? with | some (some v) => Ck.R.ok v h | _ => .no)
  rw [e])
theorem we_cst {v : V} (q : Q v h) : WE P (.cst v) s h Q := WE.of (Ru.ret (x := .ok v h) q)
theorem we_op2 {o : Op2} (w : WE P a s h fun x h => WE P b s h fun y h => (prim2 o x y h).sat Q) : WE P (.op2 o a b) s h Q := WE.of (Ru.bind (w.imp fun _ _ w => Ru.bind (w.imp fun _ _ w => Ru.ret w)))
theorem we_neg (w : WE P a s h fun x h => ∃ i, x = .int i ∧ Q (.int (-i)) h) : WE P (.neg a) s h Q := WE.of (Ru.bind (w.imp fun v h' ⟨i, e, q⟩ => by subst e; exact Ru.ret (x := Ck.R.ok (V.int (-i)) h') q))
theorem we_not (w : WE P a s h fun x h => ∃ k, x = .bl k ∧ Q (.bl (!k)) h) : WE P (.not a) s h Q := WE.of (Ru.bind (w.imp fun v h' ⟨i, e, q⟩ => by subst e; exact Ru.ret (x := Ck.R.ok (V.bl (!i)) h') q))
theorem we_and (w : WE P a s h fun x h => ∃ k, x = .bl k ∧ (k = true → WE P b s h Q) ∧ (k = false → Q (.bl false) h)) : WE P (.and a b) s h Q := WE.of (Ru.bind (w.imp fun v h' ⟨k, e, q1, q2⟩ => by
  subst e
  cases k with
  | true => exact q1 rfl
  | false => exact Ru.ret (x := Ck.R.ok (V.bl false) h') (q2 rfl)))
theorem we_or (w : WE P a s h fun x h => ∃ k, x = .bl k ∧ (k = false → WE P b s h Q) ∧ (k = true → Q (.bl true) h)) : WE P (.or a b) s h Q := WE.of (Ru.bind (w.imp fun v h' ⟨k, e, q1, q2⟩ => by
  subst e
  cases k with
  | false => exact q1 rfl
  | true => exact Ru.ret (x := Ck.R.ok (V.bl true) h') (q2 rfl)))
theorem we_ite (w : WE P c s h fun x h => ∃ k, x = .bl k ∧ (k = true → WE P a s h Q) ∧ (k = false → WE P b s h Q)) : WE P (.ite c a b) s h Q := WE.of (Ru.bind (w.imp fun v h' ⟨k, e, q1, q2⟩ => by
  subst e
  cases k with
  | true => exact q1 rfl
  | false => exact q2 rfl))
theorem we_chain {o p : Op2} (w : WE P a s h fun x h => WE P b s h fun y h => (prim2 o x y h).sat fun z h => ∃ k, z = .bl k ∧ (k = true → WE P c s h fun w h => (prim2 p y w h).sat Q) ∧ (k = false → Q (.bl false) h)) : WE P (.chain o p a b c) s h Q :=
  WE.of (Ru.bind (w.imp fun x h1 w => Ru.bind (w.imp fun y h2 w => by
    show Ru (fun n => (prim2 o x y h2).bind _) Q
    cases e : prim2 o x y h2 with
    | ok z h3 =>
      rw [e] at w
      obtain ⟨k, ez, q1, q2⟩ := w
      subst ez
      cases k with
      | true => exact Ru.bind (f := fun n w h => prim2 p y w h) ((q1 rfl).imp fun _ _ q => Ru.ret q)
      | false => exact Ru.ret (x := Ck.R.ok (V.bl false) h3) (q2 rfl)
    | ex c h3 =>
      rw [e] at w
      exact False.elim w
    | no =>
      rw [e] at w
      exact False.elim w)))
theorem wl_nil {Q : List V → Hs → Prop} (q : Q [] h) : WL P .nil s h Q := Ru.ret (x := .ok [] h) q
theorem wl_cons {es : Exs} {Q : List V → Hs → Prop} (w : WE P a s h fun x h => WL P es s h fun xs h => Q (x :: xs) h) : WL P (.cons a es) s h Q :=
  Ru.bind (f := fun n v h => (evL (fun e h => (evs P n).e e s h) es h).bind fun vs h => .ok (v :: vs) h) (w.imp fun x h1 w => Ru.bind (f := fun n vs h => .ok (x :: vs) h) (w.imp fun xs h2 q => Ru.ret (x := .ok (x :: xs) h2) q))
theorem we_tup {es : Exs} (w : WL P es s h fun vs h => vs.length ≤ SZ ∧ Q (.ref h.length) (h ++ [.tup vs])) : WE P (.tup es) s h Q := WE.of (Ru.bind (w.imp fun vs h1 ⟨l, q⟩ => by
  refine Ru.ret (x := if vs.length ≤ SZ then new h1 (.tup vs) else .no) ?_
  rw [if_pos l]
  exact q))
theorem we_lst {es : Exs} (w : WL P es s h fun vs h => vs.length ≤ SZ ∧ Q (.ref h.length) (h ++ [.lst vs])) : WE P (.lst es) s h Q := WE.of (Ru.bind (w.imp fun vs h1 ⟨l, q⟩ => by
  refine Ru.ret (x := if vs.length ≤ SZ then new h1 (.lst vs) else .no) ?_
  rw [if_pos l]
  exact q))
theorem we_dnew {t : Bool} (q : Q (.ref h.length) (h ++ [if t then .dT [] else .dK []])) : WE P (.dnew t) s h Q := WE.of (Ru.ret (x := new h (if t then .dT [] else .dK [])) q)
def WO (P : Prog) (o : Option Ex) (s : Sts) (h : Hs) (Q : Option Int → Hs → Prop) : Prop := match o with
  | none => Q none h
  | some e => WE P e s h fun v h => ∃ i, v = .int i ∧ Q (some i) h
theorem WO.ru {o : Option Ex} {Q : Option Int → Hs → Prop} (w : WO P o s h Q) : Ru (fun n => evO (fun e h => (evs P n).e e s h) o h) Q := by
  cases o with
  | none => exact Ru.ret (x := .ok none h) w
  | some e => exact Ru.bind (f := fun n v h => match v with | .int i => Ck.R.ok (some i) h | _ => .no) (WE.imp w fun v h' ⟨i, e, q⟩ => by subst e; exact Ru.ret (x := Ck.R.ok (some i) h') q)
theorem we_slice {lo hi : Option Ex} (w : WE P a s h fun x h => WO P lo s h fun l h => WO P hi s h fun u h => (sliceP x l u h).sat Q) : WE P (.slice a lo hi) s h Q :=
  WE.of (Ru.bind (w.imp fun x h1 w => Ru.bind (f := fun n l h => (evO (fun e h => (evs P n).e e s h) hi h).bind fun u h => sliceP x l u h) (w.ru.imp fun l h2 w => Ru.bind (f := fun n u h => sliceP x l u h) (w.ru.imp fun u h3 w => Ru.ret w))))
theorem we_rev (w : WE P a s h fun x h => ∃ p xs, x = .ref p ∧ lstAt h p = some xs ∧ Q (.ref h.length) (h ++ [.lst xs.reverse])) : WE P (.rev a) s h Q := WE.of (Ru.bind (w.imp fun x h1 ⟨p, xs, e, l, q⟩ => by
  subst e
  refine Ru.ret (x := match lstAt h1 p with | some xs => new h1 (.lst xs.reverse) | none => .no) ?_
  rw [l]
  exact q))
theorem we_fld {f : Nat} (w : WE P a s h fun x h => ∃ p c fs v, x = .ref p ∧ h[p]? = some (.ins c fs) ∧ P.fld c f = true ∧ fs.lookup f = some v ∧ Q v h) : WE P (.fld a f) s h Q := WE.of (Ru.bind (w.imp fun x h1 ⟨p, c, fs, v, e, l, hf, hv, q⟩ => by
  subst e
  refine Ru.ret (x := match h1[p]? with | some (.ins c fs) => if P.fld c f then R.ofOpt h1 (fs.lookup f) else .no | _ => .no) ?_
  rw [l]
  show R.sat (if P.fld c f then R.ofOpt h1 (fs.lookup f) else .no) Q
  rw [if_pos hf, hv]
  exact q))
theorem we_call {f : Nat} {es : Exs} (w : WL P es s h fun vs h => WF P f vs h Q) : WE P (.call f es) s h Q := WE.of (Ru.bind (w.imp fun vs h1 w => w))
theorem we_bm {m : Bm} {es : Exs} (w : WE P a s h fun x h => bmIs m x h = true ∧ WL P es s h fun vs h => (bmP m x vs h).sat Q) : WE P (.bm m a es) s h Q := WE.of (Ru.bind (w.imp fun x h1 ⟨e, w⟩ => by
  refine Ru.congr (x := fun n => (evL (fun e h => (evs P n).e e s h) es h1).bind fun vs h => bmP m x vs h) (Ru.bind (f := fun n vs h => bmP m x vs h) (w.imp fun vs h2 w => Ru.ret w)) fun n => ?_
  show _ = if bmIs m x h1 = true then _ else _
  rw [if_pos e]))
theorem we_bf {f : Bf} {es : Exs} (w : WL P es s h fun vs h => (bfP f vs h).sat Q) : WE P (.bf f es) s h Q := WE.of (Ru.bind (w.imp fun vs h1 w => Ru.ret w))
theorem we_isi {t : Ty} (w : WE P a s h fun x h => ∃ k, isiP P.isa x t h = some k ∧ Q (.bl k) h) : WE P (.isi a t) s h Q := WE.of (Ru.bind (w.imp fun x h1 ⟨k, e, q⟩ => by
  refine Ru.ret (x := (R.ofOpt h1 (isiP P.isa x t h1)).bind fun b h => Ck.R.ok (V.bl b) h) ?_
  rw [e]
  exact q))
/-! ### calls -/
theorem wf_call {f : Nat} {fd : Fd} {vs : List V} (hf : P.fn f = some fd) (hl : vs.length = fd.np) (w : WS P fd.body (start1 fd.ns vs) h fun r h => (retV r h).sat Q) : WF P f vs h Q := by
  have w2 : Ru (fun n => (((evs P n).s fd.body (start1 fd.ns vs) h).noexIf fd.nx).bind retV) Q := by
    refine Ru.bind (f := fun n r h => retV r h) ?_
    have w1 : Ru (fun n => (evs P n).s fd.body (start1 fd.ns vs) h) fun r h => Ru (fun _ => retV r h) Q := w.imp fun r h1 w => Ru.ret w
    cases hx : fd.nx with
    | true => exact w1.noex
    | false => exact w1
  refine Ru.congr w2 fun n => ?_
  unfold callF
  rw [hf]
  simp only
  rw [if_pos hl]
end

/-! ### statements -/
section
variable {P : Prog} {s : Sts} {h : Hs} {Q : Rs → Hs → Prop} {a b c : Ex} {u v : Stm}
theorem ws_pass (q : Q (.nx s) h) : WS P .pass s h Q := WS.of (Ru.ret (x := Ck.R.ok (Rs.nx s) h) q)
theorem ws_seq (w : WS P u s h fun r h => match r with | .nx s => WS P v s h Q | .rt x => Q (.rt x) h) : WS P (.seq u v) s h Q := WS.of (Ru.bind (w.imp fun r h1 w => by
  cases r with
  | nx s1 => exact w
  | rt x => exact Ru.ret (x := Ck.R.ok (Rs.rt x) h1) w))
theorem ws_asg {t : Tg} (w : WE P a s h fun x h => ∃ s2, bindTg t x s h = some s2 ∧ Q (.nx s2) h) : WS P (.asg t a) s h Q := WS.of (Ru.bind (w.imp fun x h1 ⟨s2, e, q⟩ => by
  refine Ru.ret (x := (R.ofOpt h1 (bindTg t x s h1)).bind fun s2 h => Ck.R.ok (Rs.nx s2) h) ?_
  rw [e]
  exact q))
theorem ws_set {i : Nat} (w : WE P a s h fun x h => Q (.nx (s.set i (some x))) h) : WS P (.asg (.name i) a) s h Q := ws_asg (w.imp fun x h1 q => ⟨_, rfl, q⟩)
theorem ws_par {is : List Nat} {es : Exs} (w : WL P es s h fun xs h => ∃ s2, setAll is xs s = some s2 ∧ Q (.nx s2) h) : WS P (.par is es) s h Q := WS.of (Ru.bind (w.imp fun x h1 ⟨s2, e, q⟩ => by
  refine Ru.ret (x := (R.ofOpt h1 (setAll is x s)).bind fun s2 h => Ck.R.ok (Rs.nx s2) h) ?_
  rw [e]
  exact q))
theorem ws_sub {o i e : Ex} (w : WE P e s h fun v h => WE P o s h fun x h => WE P i s h fun y h => (subP x y v h).sat fun _ h => Q (.nx s) h) : WS P (.sub o i e) s h Q :=
  WS.of (Ru.bind (w.imp fun v h1 w => Ru.bind (w.imp fun x h2 w => Ru.bind (w.imp fun y h3 w => Ru.bind (x := fun _ => subP x y v h3) (by
    refine Ru.ret ?_
    cases hx : subP x y v h3 with
    | ok a h4 =>
      rw [hx] at w
      exact Ru.ret (x := Ck.R.ok (Rs.nx s) h4) w
    | ex c h4 =>
      rw [hx] at w
      exact w
    | no =>
      rw [hx] at w
      exact w)))))
theorem ws_aug {i : Nat} {o : Op2} {x : V} (e : s[i]? = some (some x)) (w : WE P a s h fun y h => ∃ z, augV o x y = some z ∧ Q (.nx (s.set i (some z))) h) : WS P (.aug i o a) s h Q := WS.of (by
  refine Ru.congr (x := fun n => ((evs P n).e a s h).bind fun y h => (R.ofOpt h (augV o x y)).bind fun z h => Ck.R.ok (Rs.nx (s.set i (some z))) h) (Ru.bind (f := fun n y h => (R.ofOpt h (augV o x y)).bind fun z h => Ck.R.ok (Rs.nx (s.set i (some z))) h) (w.imp fun y h1 ⟨z, ez, q⟩ => by
    refine Ru.ret ?_
    rw [ez]
    exact q)) fun n => ?_
  show _ = (match s[i]? with | some (some x) => _ | _ => _)
  rw [e])
theorem ws_expr (w : WE P a s h fun _ h => Q (.nx s) h) : WS P (.expr a) s h Q := WS.of (Ru.bind (w.imp fun x h1 q => Ru.ret (x := Ck.R.ok (Rs.nx s) h1) q))
theorem ws_ret (w : WE P a s h fun x h => Q (.rt x) h) : WS P (.ret a) s h Q := WS.of (Ru.bind (w.imp fun x h1 q => Ru.ret (x := Ck.R.ok (Rs.rt x) h1) q))
theorem ws_if (w : WE P c s h fun x h => ∃ k, x = .bl k ∧ (k = true → WS P u s h Q) ∧ (k = false → WS P v s h Q)) : WS P (.if_ c u v) s h Q := WS.of (Ru.bind (w.imp fun x h' ⟨k, e, q1, q2⟩ => by
  subst e
  cases k with
  | true => exact q1 rfl
  | false => exact q2 rfl))
/-! ### loops -/
variable {Qi : ItD → Hs → Prop}
theorem wi_seq (w : WE P a s h fun x h => ∃ p xs, x = .ref p ∧ lstAt h p = some xs ∧ Qi (.seq p) h) : WI P (.seq a) s h Qi := Ru.bind (f := fun n v h => match v with
    | .ref a => match lstAt h a with
      | some _ => Ck.R.ok (ItD.seq a) h
      | none => match tupAt h a with
        | some _ => Ck.R.ok (ItD.tseq a) h
        | none => .no
    | _ => .no) (w.imp fun x h1 ⟨p, xs, e, l, q⟩ => by
  subst e
  refine Ru.ret ?_
  dsimp only
  rw [l]
  exact q)
theorem wi_tseq (w : WE P a s h fun x h => ∃ p xs, x = .ref p ∧ h[p]? = some (.tup xs) ∧ Qi (.tseq p) h) : WI P (.seq a) s h Qi := Ru.bind (f := fun n v h => match v with
    | .ref a => match lstAt h a with
      | some _ => Ck.R.ok (ItD.seq a) h
      | none => match tupAt h a with
        | some _ => Ck.R.ok (ItD.tseq a) h
        | none => .no
    | _ => .no) (w.imp fun x h1 ⟨p, xs, e, l, q⟩ => by
  subst e
  refine Ru.ret ?_
  have l1 : lstAt h1 p = none := by unfold lstAt; rw [l]
  have l2 : tupAt h1 p = some xs := by unfold tupAt; rw [l]
  dsimp only
  rw [l1, l2]
  exact q)
theorem wi_rng1 (w : WE P a s h fun x h => ∃ j, x = .int j ∧ -1000000 ≤ j ∧ j < 1000000 ∧ Qi (.rng 0 1 j.toNat) h) : WI P (.rng1 a) s h Qi := Ru.bind (f := fun n v h => match v with
    | .int j => if decide (-1000000 ≤ j) && decide (j < 1000000) then Ck.R.ok (ItD.rng 0 1 j.toNat) h else .no
    | _ => .no) (w.imp fun x h1 ⟨j, e, l1, l2, q⟩ => by
  subst e
  refine Ru.ret ?_
  simp only [l1, l2, decide_true, Bool.and_self, if_true]
  exact q)
theorem wi_zip (w : WE P a s h fun x h => WE P b s h fun y h => ∃ p q xs ys, x = .ref p ∧ y = .ref q ∧ lstAt h p = some xs ∧ lstAt h q = some ys ∧ Qi (.zip p q) h) : WI P (.zip a b) s h Qi :=
  Ru.bind (f := fun n v h => ((evs P n).e b s h).bind fun w h => match v, w with
    | .ref a, .ref b => match lstAt h a, lstAt h b with
      | some _, some _ => Ck.R.ok (ItD.zip a b) h
      | _, _ => .no
    | _, _ => .no) (w.imp fun x h1 w => Ru.bind (w.imp fun y h2 ⟨p, q, xs, ys, e1, e2, l1, l2, qq⟩ => by
  subst e1 e2
  refine Ru.ret ?_
  dsimp only
  rw [l1, l2]
  exact qq))
theorem wi_enum (w : WE P a s h fun x h => ∃ p xs, x = .ref p ∧ lstAt h p = some xs ∧ Qi (.enum p) h) : WI P (.enum a) s h Qi := Ru.bind (f := fun n v h => match v with
    | .ref a => match lstAt h a with
      | some _ => Ck.R.ok (ItD.enum a) h
      | none => .no
    | _ => .no) (w.imp fun x h1 ⟨p, xs, e, l, q⟩ => by
  subst e
  refine Ru.ret ?_
  dsimp only
  rw [l]
  exact q)
/-- a for loop by an invariant: at turn i the next item comes, or the end; what is returned within meets the end's wish -/
theorem for_ok {dd : ItD} {t : Tg} (I : Nat → Sts → Hs → Prop) (k : Nat) (step : ∀ i s h, i < k → I i s h → ∃ x h1 s2, itGet dd i h = .ok (some x) h1 ∧ bindTg t x s h1 = some s2 ∧ WS P u s2 h1 fun r h2 => match r with | .nx s3 => I (i + 1) s3 h2 | .rt v => Q (.rt v) h2)
    (stop : ∀ s h, I k s h → itGet dd k h = .ok none h ∧ Q (.nx s) h) : ∀ (j i : Nat) (s : Sts) (h : Hs), i + j = k → I i s h → ∃ r h', (∃ N, ∀ n, N ≤ n → ∀ m, N ≤ m → forLoop (evs P n).s dd t u m i s h = .ok r h') ∧ Q r h'
  | 0, i, s, h, e, hI => by
    have e : i = k := e
    subst e
    obtain ⟨g, q⟩ := stop s h hI
    refine ⟨.nx s, h, ⟨1, fun n hn m hm => ?_⟩, q⟩
    obtain ⟨m, rfl⟩ : ∃ l, m = l + 1 := ⟨m - 1, by omega⟩
    show (itGet dd i h).bind _ = _
    rw [g]
    rfl
  | j + 1, i, s, h, e, hI => by
    obtain ⟨x, h1, s2, g, eb, r, h2, ⟨N, hN⟩, w⟩ := step i s h (by omega) hI
    cases r with
    | nx s3 =>
      obtain ⟨r, h', ⟨M, hM⟩, q⟩ := for_ok I k step stop j (i + 1) s3 h2 (by omega) w
      refine ⟨r, h', ⟨max N M + 1, fun n hn m hm => ?_⟩, q⟩
      obtain ⟨m, rfl⟩ : ∃ l, m = l + 1 := ⟨m - 1, by omega⟩
      show (itGet dd i h).bind _ = _
      rw [g]
      show (R.ofOpt h1 (bindTg t x s h1)).bind _ = _
      rw [eb]
      show ((evs P n).s u s2 h1).bind _ = _
      rw [hN n (by omega)]
      exact hM n (by omega) m (by omega)
    | rt v =>
      refine ⟨.rt v, h2, ⟨N + 1, fun n hn m hm => ?_⟩, w⟩
      obtain ⟨m, rfl⟩ : ∃ l, m = l + 1 := ⟨m - 1, by omega⟩
      show (itGet dd i h).bind _ = _
      rw [g]
      show (R.ofOpt h1 (bindTg t x s h1)).bind _ = _
      rw [eb]
      show ((evs P n).s u s2 h1).bind _ = _
      rw [hN n (by omega)]
      rfl
theorem ws_for {t : Tg} {it : It} (w : WI P it s h fun dd h => ∃ (I : Nat → Sts → Hs → Prop) (k : Nat), I 0 s h ∧ (∀ i s h, i < k → I i s h → ∃ x h1 s2, itGet dd i h = .ok (some x) h1 ∧ bindTg t x s h1 = some s2 ∧ WS P u s2 h1 fun r h2 => match r with | .nx s3 => I (i + 1) s3 h2 | .rt v => Q (.rt v) h2) ∧
    ∀ s h, I k s h → itGet dd k h = .ok none h ∧ Q (.nx s) h) : WS P (.for_ t it u) s h Q := WS.of (Ru.bind (f := fun n d h => forLoop (evs P n).s d t u n 0 s h) (w.imp fun dd h1 ⟨I, k, i0, step, stop⟩ => by
  obtain ⟨r, h', ⟨N, hN⟩, q⟩ := for_ok I k step stop k 0 s h1 (by omega) i0
  exact ⟨r, h', ⟨N, fun n hn => hN n hn n hn⟩, q⟩))
/-- a while loop by an invariant with a measure -/
theorem while_ok (I : Nat → Sts → Hs → Prop) (step : ∀ m s h, I m s h → WE P c s h fun x h1 => ∃ k, x = .bl k ∧ (k = true → WS P u s h1 fun r h2 => match r with | .nx s3 => ∃ m', m' < m ∧ I m' s3 h2 | .rt v => Q (.rt v) h2) ∧ (k = false → Q (.nx s) h1)) :
    ∀ (m : Nat) (s : Sts) (h : Hs), I m s h → ∃ r h', (∃ N, ∀ n, N ≤ n → ∀ l, N ≤ l → whLoop (evs P n) c u l s h = .ok r h') ∧ Q r h' := by
  intro m
  induction m using Nat.strongRecOn with
  | ind m ih =>
    intro s h hI
    obtain ⟨x, h1, ⟨N, hN⟩, k, ex, q1, q2⟩ := step m s h hI
    subst ex
    cases k with
    | false =>
      refine ⟨.nx s, h1, ⟨N + 1, fun n hn l hl => ?_⟩, q2 rfl⟩
      obtain ⟨l, rfl⟩ : ∃ j, l = j + 1 := ⟨l - 1, by omega⟩
      show ((evs P n).e c s h).bind _ = _
      rw [hN n (by omega)]
      rfl
    | true =>
      obtain ⟨r, h2, ⟨M, hM⟩, w⟩ := q1 rfl
      cases r with
      | nx s3 =>
        obtain ⟨m', hm, hI'⟩ := w
        obtain ⟨r, h', ⟨L, hL⟩, q⟩ := ih m' hm s3 h2 hI'
        refine ⟨r, h', ⟨max (max N M) L + 1, fun n hn l hl => ?_⟩, q⟩
        obtain ⟨l, rfl⟩ : ∃ j, l = j + 1 := ⟨l - 1, by omega⟩
        show ((evs P n).e c s h).bind _ = _
        rw [hN n (by omega)]
        show ((evs P n).s u s h1).bind _ = _
        rw [hM n (by omega)]
        exact hL n (by omega) l (by omega)
      | rt v =>
        refine ⟨.rt v, h2, ⟨max N M + 1, fun n hn l hl => ?_⟩, w⟩
        obtain ⟨l, rfl⟩ : ∃ j, l = j + 1 := ⟨l - 1, by omega⟩
        show ((evs P n).e c s h).bind _ = _
        rw [hN n (by omega)]
        show ((evs P n).s u s h1).bind _ = _
        rw [hM n (by omega)]
        rfl
theorem ws_while (I : Nat → Sts → Hs → Prop) (m : Nat) (h0 : I m s h) (step : ∀ m s h, I m s h → WE P c s h fun x h1 => ∃ k, x = .bl k ∧ (k = true → WS P u s h1 fun r h2 => match r with | .nx s3 => ∃ m', m' < m ∧ I m' s3 h2 | .rt v => Q (.rt v) h2) ∧ (k = false → Q (.nx s) h1)) : WS P (.while_ c u) s h Q := WS.of (by
  obtain ⟨r, h', ⟨N, hN⟩, q⟩ := while_ok I step m s h h0
  exact ⟨r, h', ⟨N, fun n hn => hN n hn n hn⟩, q⟩)
end
/-- a comprehension by an invariant: I i acc h, acc what was gathered; the new list stands at D, untouched by what runs within -/
theorem comp_ok {P : Prog} {dd : ItD} {t : Tg} {c a : Ex} {s0 : Sts} {D : Nat} (I : Nat → List V → Hs → Prop) (k : Nat) {Qc : Hs → Prop}
    (step : ∀ i acc h, i < k → I i acc h → h[D]? = some (.lst acc) → acc.length < SZ ∧ ∃ x h1 s2, itGet dd i h = .ok (some x) h1 ∧ bindTg t x s0 h1 = some s2 ∧ WE P c s2 h1 fun cv h2 => ∃ b, cv = .bl b ∧
      (b = true → WE P a s2 h2 fun y h3 => h3[D]? = some (.lst acc) ∧ I (i + 1) (acc ++ [y]) (h3.set D (.lst (acc ++ [y])))) ∧ (b = false → h2[D]? = some (.lst acc) ∧ I (i + 1) acc h2))
    (stop : ∀ acc h, I k acc h → h[D]? = some (.lst acc) → itGet dd k h = .ok none h ∧ Qc h) : ∀ (j i : Nat) (acc : List V) (h : Hs), i + j = k → I i acc h → h[D]? = some (.lst acc) →
      ∃ h', (∃ N, ∀ n, N ≤ n → ∀ m, N ≤ m → lcLoop (evs P n).e dd t c a s0 D m i h = .ok () h') ∧ Qc h'
  | 0, i, acc, h, e, hI, hD => by
    have e : i = k := e
    subst e
    obtain ⟨g, q⟩ := stop acc h hI hD
    refine ⟨h, ⟨1, fun n hn m hm => ?_⟩, q⟩
    obtain ⟨m, rfl⟩ : ∃ l, m = l + 1 := ⟨m - 1, by omega⟩
    show (itGet dd i h).bind _ = _
    rw [g]
    rfl
  | j + 1, i, acc, h, e, hI, hD => by
    obtain ⟨hz, x, h1, s2, g, eb, cv, h2, ⟨N, hN⟩, b, ecv, q1, q2⟩ := step i acc h (by omega) hI hD
    subst ecv
    cases b with
    | false =>
      obtain ⟨hD2, hI2⟩ := q2 rfl
      obtain ⟨h', ⟨M, hM⟩, q⟩ := comp_ok I k step stop j (i + 1) acc h2 (by omega) hI2 hD2
      refine ⟨h', ⟨max N M + 1, fun n hn m hm => ?_⟩, q⟩
      obtain ⟨m, rfl⟩ : ∃ l, m = l + 1 := ⟨m - 1, by omega⟩
      show (itGet dd i h).bind _ = _
      rw [g]
      show (R.ofOpt h1 (bindTg t x s0 h1)).bind _ = _
      rw [eb]
      show ((evs P n).e c s2 h1).bind _ = _
      rw [hN n (by omega)]
      exact hM n (by omega) m (by omega)
    | true =>
      obtain ⟨y, h3, ⟨M, hM⟩, hD3, hI3⟩ := q1 rfl
      have hl : D < h3.length := lt_of_get hD3
      obtain ⟨h', ⟨L, hL⟩, q⟩ := comp_ok I k step stop j (i + 1) (acc ++ [y]) (h3.set D (.lst (acc ++ [y]))) (by omega) hI3 (List.getElem?_set_self hl)
      refine ⟨h', ⟨max (max N M) L + 1, fun n hn m hm => ?_⟩, q⟩
      obtain ⟨m, rfl⟩ : ∃ l, m = l + 1 := ⟨m - 1, by omega⟩
      show (itGet dd i h).bind _ = _
      rw [g]
      show (R.ofOpt h1 (bindTg t x s0 h1)).bind _ = _
      rw [eb]
      show ((evs P n).e c s2 h1).bind _ = _
      rw [hN n (by omega)]
      show ((evs P n).e a s2 h2).bind _ = _
      rw [hM n (by omega)]
      show (match h3[D]? with
          | some (.lst acc) => if acc.length < SZ then lcLoop (evs P n).e dd t c a s0 D m (i + 1) (h3.set D (.lst (acc ++ [y]))) else .no
          | _ => .no) = _
      rw [hD3]
      show (if acc.length < SZ then _ else _) = _
      rw [if_pos hz]
      exact hL n (by omega) m (by omega)
theorem we_comp {P : Prog} {s : Sts} {h : Hs} {Q : V → Hs → Prop} {ws : List Nat} {t : Tg} {it : It} {c a : Ex} (w : WI P it s h fun dd h => ∃ (I : Nat → List V → Hs → Prop) (k : Nat), I 0 [] (h ++ [.lst []]) ∧
    (∀ i acc h2, i < k → I i acc h2 → h2[h.length]? = some (.lst acc) → acc.length < SZ ∧ ∃ x h1 s2, itGet dd i h2 = .ok (some x) h1 ∧ bindTg t x (wipe s ws) h1 = some s2 ∧ WE P c s2 h1 fun cv h2 => ∃ b, cv = .bl b ∧
      (b = true → WE P a s2 h2 fun y h3 => h3[h.length]? = some (.lst acc) ∧ I (i + 1) (acc ++ [y]) (h3.set h.length (.lst (acc ++ [y])))) ∧ (b = false → h2[h.length]? = some (.lst acc) ∧ I (i + 1) acc h2)) ∧
    (∀ acc h2, I k acc h2 → h2[h.length]? = some (.lst acc) → itGet dd k h2 = .ok none h2 ∧ Q (.ref h.length) h2)) : WE P (.comp ws t it c a) s h Q :=
  WE.of (Ru.bind (f := fun n d h => (lcLoop (evs P n).e d t c a (wipe s ws) h.length n 0 (h ++ [.lst []])).noex.bind fun _ h' => Ck.R.ok (V.ref h.length) h') (w.imp fun dd h1 ⟨I, k, i0, step, stop⟩ => by
    obtain ⟨h', ⟨N, hN⟩, q⟩ := comp_ok I k step (Qc := fun h2 => Q (.ref h1.length) h2) stop k 0 [] (h1 ++ [.lst []]) (by omega) i0 (by rw [List.getElem?_append_right (Nat.le_refl _), Nat.sub_self]; rfl)
    refine ⟨.ref h1.length, h', ⟨N, fun n hn => ?_⟩, q⟩
    show (lcLoop (evs P n).e dd t c a (wipe s ws) h1.length n 0 (h1 ++ [.lst []])).noex.bind _ = _
    rw [hN n hn n hn]
    rfl))
end Ck
/-! Ck17: what stands in the own heap; single steps. -/
namespace Ck
open PySem L2
structure Keep (h h' : Hs) : Prop where
  le : h.length ≤ h'.length
  at_ : ∀ i, i < h.length → h'[i]? = h[i]?
theorem Keep.refl {h : Hs} : Keep h h := ⟨Nat.le_refl _, fun _ _ => rfl⟩
theorem Keep.trans {h h' h2 : Hs} (a : Keep h h') (b : Keep h' h2) : Keep h h2 := ⟨Nat.le_trans a.le b.le, fun i hi => (b.at_ i (Nat.lt_of_lt_of_le hi a.le)).trans (a.at_ i hi)⟩
theorem Keep.push {h : Hs} {o : O} : Keep h (h ++ [o]) := ⟨by rw [List.length_append]; omega, fun i hi => List.getElem?_append_left hi⟩
theorem Keep.set {h h' : Hs} {a : Nat} {o : O} (k : Keep h h') (l : h.length ≤ a) : Keep h (h'.set a o) := ⟨by rw [List.length_set]; exact k.le, fun i hi => by rw [List.getElem?_set_ne (by omega)]; exact k.at_ i hi⟩
theorem Keep.get {h h' : Hs} {a : Nat} {o : O} (k : Keep h h') (e : h[a]? = some o) : h'[a]? = some o := (k.at_ a (lt_of_get e)).trans e
theorem get_new {h : Hs} {o : O} : (h ++ [o])[h.length]? = some o := by rw [List.getElem?_append_right (Nat.le_refl _), Nat.sub_self]; rfl
theorem get_set {h : Hs} {a : Nat} {o : O} (l : a < h.length) : (h.set a o)[a]? = some o := List.getElem?_set_self l
theorem get_set_ne {h : Hs} {a b : Nat} {o : O} (l : a ≠ b) : (h.set a o)[b]? = h[b]? := List.getElem?_set_ne l
/-- two lists item by item -/
def All2 {A B : Type} (R : A → B → Prop) : List A → List B → Prop
  | [], [] => True
  | a :: as, b :: bs => R a b ∧ All2 R as bs
  | _, _ => False
section
variable {A B : Type} {R S : A → B → Prop}
theorem All2.len : ∀ {xs : List A} {ys : List B}, All2 R xs ys → xs.length = ys.length
  | [], [], _ => rfl
  | [], _ :: _, h => h.elim
  | _ :: _, [], h => h.elim
  | _ :: _, _ :: _, h => congrArg (· + 1) h.2.len
theorem All2.get : ∀ {xs : List A} {ys : List B} {i : Nat} {x : A}, All2 R xs ys → xs[i]? = some x → ∃ y, ys[i]? = some y ∧ R x y
  | [], [], i, x, _, e => by cases e
  | [], _ :: _, _, _, h, _ => h.elim
  | _ :: _, [], _, _, h, _ => h.elim
  | a :: as, b :: bs, 0, x, h, e => by
    cases e
    exact ⟨b, rfl, h.1⟩
  | a :: as, b :: bs, i + 1, x, h, e => All2.get (xs := as) (ys := bs) (i := i) h.2 e
theorem All2.at_ : ∀ {xs : List A} {ys : List B} {i : Nat} {y : B}, All2 R xs ys → ys[i]? = some y → ∃ x, xs[i]? = some x ∧ R x y
  | [], [], i, x, _, e => by cases e
  | [], _ :: _, _, _, h, _ => h.elim
  | _ :: _, [], _, _, h, _ => h.elim
  | a :: as, b :: bs, 0, x, h, e => by
    cases e
    exact ⟨a, rfl, h.1⟩
  | a :: as, b :: bs, i + 1, x, h, e => All2.at_ (xs := as) (ys := bs) (i := i) h.2 e
theorem All2.imp : ∀ {xs : List A} {ys : List B}, All2 R xs ys → (∀ x y, R x y → S x y) → All2 S xs ys
  | [], [], _, _ => trivial
  | [], _ :: _, h, _ => h.elim
  | _ :: _, [], h, _ => h.elim
  | _ :: _, _ :: _, h, i => ⟨i _ _ h.1, h.2.imp i⟩
theorem All2.app : ∀ {xs xs' : List A} {ys ys' : List B}, All2 R xs ys → All2 R xs' ys' → All2 R (xs ++ xs') (ys ++ ys')
  | [], _, [], _, _, h => h
  | [], _, _ :: _, _, h, _ => h.elim
  | _ :: _, _, [], _, h, _ => h.elim
  | _ :: _, _, _ :: _, _, h, h' => ⟨h.1, h.2.app h'⟩
theorem All2.push {xs : List A} {ys : List B} {x : A} {y : B} (h : All2 R xs ys) (r : R x y) : All2 R (xs ++ [x]) (ys ++ [y]) := h.app ⟨r, trivial⟩
theorem All2.drop : ∀ {xs : List A} {ys : List B} (n : Nat), All2 R xs ys → All2 R (xs.drop n) (ys.drop n)
  | _, _, 0, h => h
  | [], [], _ + 1, _ => trivial
  | [], _ :: _, _, h => h.elim
  | _ :: _, [], _, h => h.elim
  | _ :: _, _ :: _, n + 1, h => All2.drop n h.2
theorem All2.dropLast : ∀ {xs : List A} {ys : List B}, All2 R xs ys → All2 R xs.dropLast ys.dropLast
  | [], [], _ => trivial
  | [], _ :: _, h => h.elim
  | _ :: _, [], h => h.elim
  | [_], [_], _ => trivial
  | [_], _ :: _ :: _, h => h.2.elim
  | _ :: _ :: _, [_], h => h.2.elim
  | a :: b :: as, c :: d :: bs, h => ⟨h.1, All2.dropLast (xs := b :: as) (ys := d :: bs) h.2⟩
end

/-! ### single steps -/
section
variable {h : Hs} {Q : V → Hs → Prop}
theorem s_add {i j : Int} (q : Q (.int (i + j)) h) : (prim2 .add (.int i) (.int j) h).sat Q := q
theorem s_sub {i j : Int} (q : Q (.int (i - j)) h) : (prim2 .sub (.int i) (.int j) h).sat Q := q
theorem s_lt {i j : Int} (q : Q (.bl (decide (i < j))) h) : (prim2 .lt (.int i) (.int j) h).sat Q := q
theorem s_le {i j : Int} (q : Q (.bl (decide (i ≤ j))) h) : (prim2 .le (.int i) (.int j) h).sat Q := q
theorem s_gt {i j : Int} (q : Q (.bl (decide (j < i))) h) : (prim2 .gt (.int i) (.int j) h).sat Q := q
theorem s_ge {i j : Int} (q : Q (.bl (decide (j ≤ i))) h) : (prim2 .ge (.int i) (.int j) h).sat Q := q
theorem s_eqI {i j : Int} (q : Q (.bl (decide (i = j))) h) : (prim2 .eq (.int i) (.int j) h).sat Q := q
theorem s_neI {i j : Int} (q : Q (.bl (!decide (i = j))) h) : (prim2 .ne (.int i) (.int j) h).sat Q := q
theorem s_mod {i j : Int} (l : 0 < j) (q : Q (.int (i % j)) h) : (prim2 .mod (.int i) (.int j) h).sat Q := by
  show R.sat (if decide (0 < j) = true then _ else _) Q
  rw [if_pos (decide_eq_true l)]
  exact q
theorem s_fdiv {i j : Int} (l : 0 < j) (l2 : j < 1073741824) (q : Q (.int (i / j)) h) : (prim2 .fdiv (.int i) (.int j) h).sat Q := by
  show R.sat (if (decide (0 < j) && decide (j < 1073741824)) = true then _ else _) Q
  rw [decide_eq_true l, decide_eq_true l2]
  exact q
theorem s_mul {i j : Int} (l : mulOk i j = true) (q : Q (.int (i * j)) h) : (prim2 .mul (.int i) (.int j) h).sat Q := by
  show R.sat (if mulOk i j = true then _ else _) Q
  rw [if_pos l]
  exact q
theorem s_idx {x y v : V} (e : opIdx x y h = some v) (q : Q v h) : (prim2 .idx x y h).sat Q := by
  show R.sat (R.ofOpt h (opIdx x y h)) Q
  rw [e]
  exact q
theorem opIdx_tup {a : Nat} {xs : List V} {i : Int} {v : V} (e : h[a]? = some (.tup xs)) (ev : atI xs i = some v) : opIdx (.ref a) (.int i) h = some v := by
  unfold opIdx seqAt
  simp only [e]
  exact ev
theorem opIdx_lst {a : Nat} {xs : List V} {i : Int} {v : V} (e : h[a]? = some (.lst xs)) (ev : atI xs i = some v) : opIdx (.ref a) (.int i) h = some v := by
  unfold opIdx seqAt
  simp only [e]
  exact ev
theorem opIdx_dK {a : Nat} {kvs : List (Key × V)} {i : Int} {v : V} (e : h[a]? = some (.dK kvs)) (ev : valV kvs (.inl i) = some v) : opIdx (.ref a) (.int i) h = some v := by
  unfold opIdx
  simp only [e]
  unfold dget
  simp only [e]
  show ((keyV (.int i)).map (valV kvs)).bind id = some v
  show valV kvs (.inl i) = some v
  exact ev
theorem s_idxT {a : Nat} {xs : List V} {i : Int} {v : V} (e : h[a]? = some (.tup xs)) (ev : atI xs i = some v) (q : Q v h) : (prim2 .idx (.ref a) (.int i) h).sat Q := s_idx (opIdx_tup e ev) q
theorem s_idxL {a : Nat} {xs : List V} {i : Int} {v : V} (e : h[a]? = some (.lst xs)) (ev : atI xs i = some v) (q : Q v h) : (prim2 .idx (.ref a) (.int i) h).sat Q := s_idx (opIdx_lst e ev) q
theorem s_idxK {a : Nat} {kvs : List (Key × V)} {i : Int} {v : V} (e : h[a]? = some (.dK kvs)) (ev : valV kvs (.inl i) = some v) (q : Q v h) : (prim2 .idx (.ref a) (.int i) h).sat Q := s_idx (opIdx_dK e ev) q
theorem s_inK {a : Nat} {kvs : List (Key × V)} {i : Int} (e : h[a]? = some (.dK kvs)) (q : Q (.bl (valV kvs (.inl i)).isSome) h) : (prim2 .isin (.int i) (.ref a) h).sat Q := by
  have : opIn (.int i) (.ref a) h = some (valV kvs (.inl i)).isSome := by
    unfold opIn
    simp only [e]
    unfold dget
    simp only [e]
    rfl
  show R.sat ((R.ofOpt h (opIn (.int i) (.ref a) h)).bind fun b h => .ok (.bl b) h) Q
  rw [this]
  exact q
theorem s_notinK {a : Nat} {kvs : List (Key × V)} {i : Int} (e : h[a]? = some (.dK kvs)) (q : Q (.bl (!(valV kvs (.inl i)).isSome)) h) : (prim2 .notin (.int i) (.ref a) h).sat Q := by
  have : opIn (.int i) (.ref a) h = some (valV kvs (.inl i)).isSome := by
    unfold opIn
    simp only [e]
    unfold dget
    simp only [e]
    rfl
  show R.sat ((R.ofOpt h (opIn (.int i) (.ref a) h)).bind fun b h => .ok (.bl (!b)) h) Q
  rw [this]
  exact q
theorem inV_ints {i : Int} : ∀ {ns : List Int}, inV (.int i) (ns.map V.int) = decide (i ∈ ns)
  | [] => rfl
  | n :: ns => by
    have ih := inV_ints (i := i) (ns := ns)
    unfold inV at ih ⊢
    rw [List.map_cons, List.any_cons, ih]
    have e : eqV (.int n) (.int i) = decide (i = n) := by
      show decide (n = i) = decide (i = n)
      exact decide_eq_decide.mpr eq_comm
    rw [e]
    by_cases hh : i = n <;> simp [hh]
theorem opIn_ints {a : Nat} {i : Int} {ns : List Int} (e : h[a]? = some (.lst (ns.map V.int))) : opIn (.int i) (.ref a) h = some (decide (i ∈ ns)) := by
  unfold opIn seqAt
  simp only [e]
  have f : (flatV (.int i) && (ns.map V.int).all flatV) = true := by
    rw [List.all_map]
    simp [flatV]
  rw [if_pos f, inV_ints]
theorem s_inL {a : Nat} {i : Int} {ns : List Int} (e : h[a]? = some (.lst (ns.map V.int))) (q : Q (.bl (decide (i ∈ ns))) h) : (prim2 .isin (.int i) (.ref a) h).sat Q := by
  show R.sat ((R.ofOpt h (opIn (.int i) (.ref a) h)).bind fun b h => .ok (.bl b) h) Q
  rw [opIn_ints e]
  exact q
theorem s_notinL {a : Nat} {i : Int} {ns : List Int} (e : h[a]? = some (.lst (ns.map V.int))) (q : Q (.bl (!decide (i ∈ ns))) h) : (prim2 .notin (.int i) (.ref a) h).sat Q := by
  show R.sat ((R.ofOpt h (opIn (.int i) (.ref a) h)).bind fun b h => .ok (.bl (!b)) h) Q
  rw [opIn_ints e]
  exact q
theorem atI_nat {A : Type} {xs : List A} {i : Nat} {v : A} (e : xs[i]? = some v) : atI xs (i : Int) = some v := by
  have l := lt_of_get e
  unfold atI ixN
  rw [if_pos (by omega), if_pos (by omega), Int.toNat_natCast]
  exact e
theorem atI_int {A : Type} {xs : List A} {i : Int} {v : A} (h0 : 0 ≤ i) (e : xs[i.toNat]? = some v) : atI xs i = some v := by
  have := atI_nat e
  rwa [Int.toNat_of_nonneg h0] at this
end
theorem sz2 {n : Nat} (h : n.ble 100 = true) : n ≤ SZ := Nat.le_trans (Nat.le_of_ble_eq_true h) (by decide)
theorem yes {A B : Prop} (a : A) : ∃ k, V.bl true = .bl k ∧ (k = true → A) ∧ (k = false → B) := ⟨true, rfl, fun _ => a, fun z => nomatch z⟩
theorem no {A B : Prop} (b : B) : ∃ k, V.bl false = .bl k ∧ (k = true → A) ∧ (k = false → B) := ⟨false, rfl, (fun z => nomatch z), fun _ => b⟩
theorem oyes {A B : Prop} (a : A) : ∃ k, V.bl true = .bl k ∧ (k = false → B) ∧ (k = true → A) := ⟨true, rfl, (fun z => nomatch z), fun _ => a⟩
theorem ono {A B : Prop} (b : B) : ∃ k, V.bl false = .bl k ∧ (k = false → B) ∧ (k = true → A) := ⟨false, rfl, fun _ => b, fun z => nomatch z⟩
theorem dec {p : Prop} [Decidable p] {A B : Prop} (a : p → A) (b : ¬ p → B) : ∃ k, V.bl (decide p) = .bl k ∧ (k = true → A) ∧ (k = false → B) := ⟨_, rfl, fun e => a (of_decide_eq_true e), fun e => b (of_decide_eq_false e)⟩
theorem ndec {p : Prop} [Decidable p] {A B : Prop} (a : ¬ p → A) (b : p → B) : ∃ k, V.bl (!decide p) = .bl k ∧ (k = true → A) ∧ (k = false → B) := ⟨_, rfl, fun e => a (of_decide_eq_false (by simpa using e)), fun e => b (of_decide_eq_true (by simpa using e))⟩
theorem bol {b : Bool} {A : Bool → Prop} (a : A b) : ∃ k, V.bl b = .bl k ∧ A k := ⟨_, rfl, a⟩
theorem lstAt_of {h : Hs} {a : Nat} {xs : List V} (e : h[a]? = some (.lst xs)) : lstAt h a = some xs := by
  unfold lstAt
  rw [e]
theorem it_seq {h : Hs} {a i : Nat} {xs : List V} {x : V} (e : h[a]? = some (.lst xs)) (ex : xs[i]? = some x) : itGet (.seq a) i h = .ok (some x) h := by
  unfold itGet
  simp only [lstAt_of e, ex]
theorem it_seq_end {h : Hs} {a i : Nat} {xs : List V} (e : h[a]? = some (.lst xs)) (l : xs.length ≤ i) : itGet (.seq a) i h = .ok none h := by
  unfold itGet
  simp only [lstAt_of e, List.getElem?_eq_none l]
theorem it_tseq {h : Hs} {a i : Nat} {xs : List V} {x : V} (e : h[a]? = some (.tup xs)) (ex : xs[i]? = some x) : itGet (.tseq a) i h = .ok (some x) h := by
  unfold itGet tupAt
  simp only [e, ex]
theorem it_tseq_end {h : Hs} {a i : Nat} {xs : List V} (e : h[a]? = some (.tup xs)) (l : xs.length ≤ i) : itGet (.tseq a) i h = .ok none h := by
  unfold itGet tupAt
  simp only [e, List.getElem?_eq_none l]
theorem it_rng {h : Hs} {i n : Nat} (l : i < n) : itGet (.rng 0 1 n) i h = .ok (some (.int i)) h := by
  show Ck.R.ok (if i < n then some (V.int (0 + (i : Nat) * 1)) else none) h = _
  rw [if_pos l, Int.mul_one, Int.zero_add]
theorem it_rng_end {h : Hs} {n : Nat} : itGet (.rng 0 1 n) n h = .ok none h := by
  show Ck.R.ok (if n < n then some (V.int (0 + (n : Nat) * 1)) else none) h = _
  rw [if_neg (Nat.lt_irrefl _)]
theorem bind_tup {h : Hs} {c : Nat} {xs : List V} {is : List Nat} {s : Sts} (e : h[c]? = some (.tup xs)) : bindTg (.tup is) (.ref c) s h = setAll is xs s := by
  unfold bindTg tupAt
  simp only [e]
theorem bm_isL {h : Hs} {a : Nat} {xs : List V} {m : Bm} (e : h[a]? = some (.lst xs)) (hm : m ≠ .get) : bmIs m (.ref a) h = true := by
  have : isLst (.ref a) h = true := by
    unfold isLst
    simp only [e]
  cases m <;> first | exact this | exact absurd rfl hm
theorem bm_app {h : Hs} {a : Nat} {xs : List V} {y : V} {Q : V → Hs → Prop} (e : h[a]? = some (.lst xs)) (l : xs.length < SZ) (q : Q .non (h.set a (.lst (xs ++ [y])))) : (bmP .append (.ref a) [y] h).sat Q := by
  show R.sat (bmApp (.ref a) [y] h) Q
  unfold bmApp
  simp only [e]
  rw [if_pos l]
  exact q
theorem bm_ext {h : Hs} {a b : Nat} {xs ys : List V} {Q : V → Hs → Prop} (e : h[a]? = some (.lst xs)) (e2 : h[b]? = some (.lst ys)) (l : xs.length + ys.length ≤ SZ) (q : Q .non (h.set a (.lst (xs ++ ys)))) : (bmP .extend (.ref a) [.ref b] h).sat Q := by
  show R.sat (bmExt (.ref a) [.ref b] h) Q
  unfold bmExt
  simp only [e, e2]
  rw [if_pos l]
  exact q
/-! ### air -/
abbrev Lk := Int × Int × Int
structure Air where
  n : Int
  ls : List Lk
def LinkAt (h : Hs) (r : V) (l : Lk) : Prop := ∃ c, r = .ref c ∧ h[c]? = some (.tup [.int l.1, .int l.2.1, .int l.2.2])
structure AirIn (h : Hs) (a b : Nat) (rs : List V) (A : Air) : Prop where
  top : h[a]? = some (.tup [.int A.n, .ref b])
  lst : h[b]? = some (.lst rs)
  all : All2 (LinkAt h) rs A.ls
def AirAt (h : Hs) (v : V) (A : Air) : Prop := ∃ a b rs, v = .ref a ∧ AirIn h a b rs A
theorem LinkAt.keep {h h' : Hs} {r : V} {l : Lk} (x : LinkAt h r l) (k : Keep h h') : LinkAt h' r l := let ⟨c, e, q⟩ := x; ⟨c, e, k.get q⟩
theorem AirIn.keep {h h' : Hs} {a b : Nat} {rs : List V} {A : Air} (x : AirIn h a b rs A) (k : Keep h h') : AirIn h' a b rs A := ⟨k.get x.top, k.get x.lst, x.all.imp fun _ _ y => y.keep k⟩
theorem AirAt.keep {h h' : Hs} {v : V} {A : Air} (x : AirAt h v A) (k : Keep h h') : AirAt h' v A := let ⟨a, b, rs, e, q⟩ := x; ⟨a, b, rs, e, q.keep k⟩
def okL (n : Int) (l : Lk) : Prop := 0 ≤ l.1 ∧ l.1 < n ∧ 0 ≤ l.2.1 ∧ l.2.1 < n ∧ l.1 ≠ l.2.1 ∧ 1 ≤ l.2.2 ∧ l.2.2 ≤ 9
def ltL (a b : Lk) : Prop := a.1 < b.1 ∨ (a.1 = b.1 ∧ a.2.1 < b.2.1)
structure Air.Ok (A : Air) : Prop where
  n1 : 1 ≤ A.n
  n40 : A.n ≤ 40
  few : A.ls.length ≤ 120
  ok : ∀ l ∈ A.ls, okL A.n l
  up : A.ls.Pairwise ltL
/-- who is heard from j -/
def hdL (ls : List Lk) (t j : Int) : List Int := (ls.filter fun l => decide (l.1 = j) && decide (t ≤ l.2.2)).map (·.2.1)
theorem hdL_snoc {ls : List Lk} {l : Lk} {t j : Int} : hdL (ls ++ [l]) t j = if l.1 = j ∧ t ≤ l.2.2 then hdL ls t j ++ [l.2.1] else hdL ls t j := by
  unfold hdL
  rw [List.filter_append, List.map_append]
  by_cases h1 : l.1 = j <;> by_cases h2 : t ≤ l.2.2 <;> simp [h1, h2, List.filter]
theorem mem_hdL {ls : List Lk} {t j k : Int} : k ∈ hdL ls t j ↔ ∃ q, (j, k, q) ∈ ls ∧ t ≤ q := by
  unfold hdL
  rw [List.mem_map]
  constructor
  · rintro ⟨⟨a, b, c⟩, hm, rfl⟩
    rw [List.mem_filter] at hm
    obtain ⟨h1, h2⟩ := hm
    simp only [Bool.and_eq_true, decide_eq_true_eq] at h2
    obtain ⟨h2, h3⟩ := h2
    subst h2
    exact ⟨c, h1, h3⟩
  · rintro ⟨q, hm, hq⟩
    exact ⟨(j, k, q), List.mem_filter.mpr ⟨hm, by simp [hq]⟩, rfl⟩
end Ck
/-! Ck18: going on from a station, round by round: the pure side. -/
namespace Ck
open PySem L2
/-- what is come to -/
inductive Rch (ls : List Lk) (t : Int) (a : Int) : Int → Prop
  | refl : Rch ls t a a
  | step {b c : Int} (r : Rch ls t a b) (e : c ∈ hdL ls t b) : Rch ls t a c
theorem len_le : ∀ (N : Nat) (ws : List Int), ws.Nodup → (∀ k ∈ ws, 0 ≤ k ∧ k < (N : Int)) → ws.length ≤ N
  | 0, [], _, _ => Nat.le_refl _
  | 0, k :: ks, _, h => by
    have := h k List.mem_cons_self
    omega
  | N + 1, ws, nd, h => by
    by_cases hm : (N : Int) ∈ ws
    · have ih := len_le N (ws.erase N) (nd.erase _) fun k hk => by
        have h1 := h k (List.mem_of_mem_erase hk)
        have h2 : k ≠ (N : Int) := fun e => by
          rw [e] at hk
          exact (List.Nodup.not_mem_erase nd) hk
        omega
      have := List.length_erase_of_mem hm
      omega
    · have ih := len_le N ws nd fun k hk => by
        have h1 := h k hk
        have h2 : k ≠ (N : Int) := fun e => hm (e ▸ hk)
        omega
      omega
/-- key, rounds, from whom -/
abbrev W3 := Int × Int × Int
structure Bfs (ls : List Lk) (t one : Int) (ws : List W3) (p : Nat) : Prop where
  h0 : ws[0]? = some (one, 0, one)
  nd : (ws.map (·.1)).Nodup
  up : ∀ (i j : Nat) (u w : W3), i ≤ j → ws[i]? = some u → ws[j]? = some w → u.2.1 ≤ w.2.1
  pa : ∀ (i : Nat) (w : W3), ws[i]? = some w → i = 0 ∨ ∃ (j : Nat) (u : W3), j < i ∧ ws[j]? = some u ∧ w.2.2 = u.1 ∧ w.2.1 = u.2.1 + 1 ∧ w.1 ∈ hdL ls t u.1
  lim : ∀ (i : Nat) (w u : W3), ws[i]? = some w → ws[p]? = some u → w.2.1 ≤ u.2.1 + 1
  cl : ∀ (i : Nat) (w : W3) (k : Int), i < p → ws[i]? = some w → k ∈ hdL ls t w.1 → ∃ u ∈ ws, u.1 = k ∧ u.2.1 ≤ w.2.1 + 1
section
variable {ls : List Lk} {t one : Int} {ws : List W3} {p : Nat}
theorem Bfs.start : Bfs ls t one [(one, 0, one)] 0 where
  h0 := rfl
  nd := by simp
  up := fun i j u w _ e1 e2 => by
    have l1 := lt_of_get e1
    have l2 := lt_of_get e2
    have : i = 0 := by simp at l1; omega
    have : j = 0 := by simp at l2; omega
    subst i j
    cases e1
    cases e2
    exact Int.le_refl _
  pa := fun i w e => by
    have l1 := lt_of_get e
    exact .inl (by simp at l1; omega)
  lim := fun i w u e1 e2 => by
    have l1 := lt_of_get e1
    have : i = 0 := by simp at l1; omega
    subst i
    cases e1
    cases e2
    simp
  cl := fun i w k hi => absurd hi (Nat.not_lt_zero _)
theorem Bfs.push {u : W3} {m : Int} (b : Bfs ls t one ws p) (hu : ws[p]? = some u) (hm : m ∈ hdL ls t u.1) (nw : m ∉ ws.map (·.1)) : Bfs ls t one (ws ++ [(m, u.2.1 + 1, u.1)]) p := by
  have lp := lt_of_get hu
  have old : ∀ i w, (ws ++ [(m, u.2.1 + 1, u.1)])[i]? = some w → (i < ws.length ∧ ws[i]? = some w) ∨ (i = ws.length ∧ w = (m, u.2.1 + 1, u.1)) := fun i w e => by
    rcases Nat.lt_or_ge i ws.length with hl | hl
    · rw [List.getElem?_append_left hl] at e
      exact .inl ⟨hl, e⟩
    · have l := lt_of_get e
      rw [List.length_append, List.length_singleton] at l
      have : i = ws.length := by omega
      subst this
      rw [List.getElem?_append_right (Nat.le_refl _), Nat.sub_self] at e
      cases e
      exact .inr ⟨rfl, rfl⟩
  have new : ∀ {i w}, ws[i]? = some w → (ws ++ [(m, u.2.1 + 1, u.1)])[i]? = some w := fun e => by
    rw [List.getElem?_append_left (lt_of_get e)]
    exact e
  refine ⟨new b.h0, ?_, ?_, ?_, ?_, ?_⟩
  · rw [List.map_append]
    refine List.nodup_append.mpr ⟨b.nd, by simp, fun x hx y hy => ?_⟩
    have : y = m := by simpa using hy
    subst this
    exact fun e => nw (e ▸ hx)
  · intro i j x w hij e1 e2
    rcases old i x e1 with ⟨l1, e1⟩ | ⟨l1, e1⟩ <;> rcases old j w e2 with ⟨l2, e2⟩ | ⟨l2, e2⟩
    · exact b.up i j x w hij e1 e2
    · subst e2
      exact b.lim i x u e1 hu
    · omega
    · subst e1 e2
      exact Int.le_refl _
  · intro i w e
    rcases old i w e with ⟨l1, e1⟩ | ⟨l1, e1⟩
    · rcases b.pa i w e1 with h | ⟨j, v, hj, ej, h1, h2, h3⟩
      · exact .inl h
      · exact .inr ⟨j, v, hj, new ej, h1, h2, h3⟩
    · subst e1
      exact .inr ⟨p, u, by omega, new hu, rfl, rfl, hm⟩
  · intro i w v e1 e2
    rcases old p v e2 with ⟨l2, e2⟩ | ⟨l2, e2⟩
    · rw [hu] at e2
      cases e2
      rcases old i w e1 with ⟨l1, e1⟩ | ⟨l1, e1⟩
      · exact b.lim i w u e1 hu
      · subst e1
        exact Int.le_refl _
    · omega
  · intro i w k hi e hk
    rcases old i w e with ⟨l1, e1⟩ | ⟨l1, e1⟩
    · obtain ⟨v, hv, h1, h2⟩ := b.cl i w k hi e1 hk
      exact ⟨v, List.mem_append_left _ hv, h1, h2⟩
    · omega
theorem Bfs.next {u : W3} (b : Bfs ls t one ws p) (hu : ws[p]? = some u) (all : ∀ k ∈ hdL ls t u.1, ∃ v ∈ ws, v.1 = k ∧ v.2.1 ≤ u.2.1 + 1) : Bfs ls t one ws (p + 1) :=
  ⟨b.h0, b.nd, b.up, b.pa, fun i w v e1 e2 => by
    have h1 := b.lim i w u e1 hu
    have h2 := b.up p (p + 1) u v (Nat.le_succ _) hu e2
    omega, fun i w k hi e hk => by
    rcases Nat.lt_succ_iff_lt_or_eq.mp hi with hi | hi
    · exact b.cl i w k hi e hk
    · subst hi
      rw [hu] at e
      cases e
      exact all k hk⟩
theorem Bfs.rch (b : Bfs ls t one ws p) : ∀ (i : Nat) (w : W3), ws[i]? = some w → Rch ls t one w.1 := by
  intro i
  induction i using Nat.strongRecOn with
  | ind i ih =>
    intro w e
    rcases b.pa i w e with h | ⟨j, v, hj, ej, h1, h2, h3⟩
    · subst h
      rw [b.h0] at e
      cases e
      exact .refl
    · exact .step (ih j hj v ej) h3
/-- at the end the keys are what is come to -/
theorem Bfs.keys (b : Bfs ls t one ws p) (hp : ws.length ≤ p) (k : Int) : k ∈ ws.map (·.1) ↔ Rch ls t one k := by
  constructor
  · intro h
    obtain ⟨w, hw, rfl⟩ := List.mem_map.mp h
    obtain ⟨i, hi⟩ := List.getElem?_of_mem hw
    exact b.rch i w hi
  · intro r
    induction r with
    | refl => exact List.mem_map.mpr ⟨_, List.mem_of_getElem? b.h0, rfl⟩
    | step r e ih =>
      obtain ⟨w, hw, rfl⟩ := List.mem_map.mp ih
      obtain ⟨i, hi⟩ := List.getElem?_of_mem hw
      obtain ⟨u, hu, h1, _⟩ := b.cl i w _ (Nat.lt_of_lt_of_le (lt_of_get hi) hp) hi e
      exact List.mem_map.mpr ⟨u, hu, h1⟩
theorem hdL_range {A : Air} {j k : Int} (ok : A.Ok) (h : k ∈ hdL A.ls t j) : 0 ≤ k ∧ k < A.n := by
  obtain ⟨q, hm, _⟩ := mem_hdL.mp h
  obtain ⟨_, _, h1, h2, _⟩ := ok.ok _ hm
  exact ⟨h1, h2⟩
theorem Rch.range {A : Air} {a k : Int} (ok : A.Ok) (h0 : 0 ≤ a) (h1 : a < A.n) (r : Rch A.ls t a k) : 0 ≤ k ∧ k < A.n := by
  cases r with
  | refl => exact ⟨h0, h1⟩
  | step r e => exact hdL_range ok e
theorem Bfs.few {A : Air} (b : Bfs A.ls t one ws p) (ok : A.Ok) (h0 : 0 ≤ one) (h1 : one < A.n) : ws.length ≤ A.n.toNat := by
  have n1 := ok.n1
  have := len_le A.n.toNat (ws.map (·.1)) b.nd fun k hk => by
    obtain ⟨w, hw, rfl⟩ := List.mem_map.mp hk
    obtain ⟨i, hi⟩ := List.getElem?_of_mem hw
    have := (b.rch i w hi).range ok h0 h1
    omega
  rwa [List.length_map] at this
end
/-! ### the dict of it -/
def EntAt (h : Hs) (kv : Key × V) (w : W3) : Prop := kv.1 = .inl w.1 ∧ ∃ c, kv.2 = .ref c ∧ h[c]? = some (.tup [.int w.2.1, .int w.2.2])
def isTup : O → Bool
  | .tup _ => true
  | _ => false
theorem tup_set {h : Hs} {a c : Nat} {o o' : O} {xs : List V} (e : h[c]? = some (.tup xs)) (ea : h[a]? = some o) (n : isTup o = false) : (h.set a o')[c]? = some (.tup xs) := by
  rw [get_set_ne]
  · exact e
  · rintro rfl
    rw [e] at ea
    cases ea
    cases n
theorem EntAt.set {h : Hs} {a : Nat} {o o' : O} {kv : Key × V} {w : W3} (x : EntAt h kv w) (ea : h[a]? = some o) (n : isTup o = false) : EntAt (h.set a o') kv w := let ⟨e, c, e2, q⟩ := x; ⟨e, c, e2, tup_set q ea n⟩
theorem EntAt.keep {h h' : Hs} {kv : Key × V} {w : W3} (x : EntAt h kv w) (k : Keep h h') : EntAt h' kv w := let ⟨e, c, e2, q⟩ := x; ⟨e, c, e2, k.get q⟩
theorem ent_some {h : Hs} {k : Int} : ∀ {kvs : List (Key × V)} {ws : List W3}, All2 (EntAt h) kvs ws → (valV kvs (.inl k)).isSome = decide (k ∈ ws.map (·.1))
  | [], [], _ => rfl
  | [], _ :: _, h => h.elim
  | _ :: _, [], h => h.elim
  | kv :: kvs, w :: ws, hh => by
    have ih := ent_some (k := k) (kvs := kvs) (ws := ws) hh.2
    obtain ⟨e, _⟩ := hh.1
    by_cases hk : kv.1 = .inl k
    · rw [valV_pos hk]
      have : k = w.1 := by rw [e] at hk; exact (Sum.inl.inj hk).symm
      simp [this]
    · rw [valV_neg hk, ih]
      have : k ≠ w.1 := fun z => hk (by rw [e, z])
      simp [this]
theorem ent_get {h : Hs} : ∀ {kvs : List (Key × V)} {ws : List W3} {i : Nat} {w : W3}, All2 (EntAt h) kvs ws → (ws.map (·.1)).Nodup → ws[i]? = some w → ∃ c, valV kvs (.inl w.1) = some (.ref c) ∧ h[c]? = some (.tup [.int w.2.1, .int w.2.2])
  | [], [], _, _, _, _, e => by cases e
  | [], _ :: _, _, _, h, _, _ => h.elim
  | _ :: _, [], _, _, h, _, _ => h.elim
  | kv :: kvs, u :: ws, 0, w, hh, nd, e => by
    cases e
    obtain ⟨e1, c, e2, q⟩ := hh.1
    exact ⟨c, by rw [valV_pos e1, e2], q⟩
  | kv :: kvs, u :: ws, i + 1, w, hh, nd, e => by
    rw [List.map_cons] at nd
    obtain ⟨nd1, nd2⟩ := List.nodup_cons.mp nd
    have e : ws[i]? = some w := e
    obtain ⟨c, e1, q⟩ := ent_get (i := i) hh.2 nd2 e
    refine ⟨c, ?_, q⟩
    rw [valV_neg]
    · exact e1
    · rw [hh.1.1]
      intro z
      exact nd1 (List.mem_map.mpr ⟨w, List.mem_of_getElem? e, (Sum.inl.inj z).symm⟩)
theorem putK_new {kvs : List (Key × V)} {k : Key} {v : V} (h : (valV kvs k).isSome = false) : putK kvs k v = kvs ++ [(k, v)] := by
  unfold putK
  have : (kvs.any fun kv => decide (kv.1 = k)) = false := by
    unfold valV at h
    rw [Option.isSome_map] at h
    cases e : kvs.any fun kv => decide (kv.1 = k) with
    | false => rfl
    | true =>
      obtain ⟨x, hx, hk⟩ := List.any_eq_true.mp e
      have := List.find?_isSome (p := fun kv : Key × V => decide (kv.1 = k)) (xs := kvs)
      rw [this.mpr ⟨x, hx, hk⟩] at h
      cases h
  rw [this]
  rfl
theorem sub_dK {h : Hs} {a : Nat} {kvs : List (Key × V)} {i : Int} {v : V} {Q : Unit → Hs → Prop} (e : h[a]? = some (.dK kvs)) (l : kvs.length < SZ) (q : Q () (h.set a (.dK (putK kvs (.inl i) v)))) : (subP (.ref a) (.int i) v h).sat Q := by
  unfold subP
  simp only [e]
  show R.sat (if kvs.length < SZ then _ else _) Q
  rw [if_pos l]
  exact q
end Ck
namespace T05
open PySem L2 Ck
local macro_rules | `(tactic| trivial) => `(tactic| first | refine we_var rfl ?_ | refine we_cst ?_ | refine we_op2 ?_ | refine we_isi ?_ | refine we_call ?_ | refine we_bf ?_ | refine we_slice ?_ | refine we_chain ?_ | refine we_not ?_ | refine we_neg ?_ | refine wl_cons ?_ | refine wl_nil ?_ | refine s_add ?_ | refine s_sub ?_ | refine s_le ?_ | refine s_lt ?_ | refine s_gt ?_ | refine s_ge ?_ | refine s_eqI ?_ | refine s_neI ?_ | refine ws_ret ?_ | refine ws_set ?_ | refine ws_expr ?_ | refine ws_if ?_ | refine ws_seq ?_ | refine ws_pass ?_)
theorem is_whole_ok {i : Int} {h : Hs} : WF PR 116 [.int i] h fun v h' => v = .bl true ∧ h' = h := by
  refine wf_call (fd := fd_is_whole) rfl rfl ?_
  refine ws_ret (we_and (we_isi (we_var rfl ⟨true, rfl, true, rfl, fun _ => ?_, fun z => nomatch z⟩)))
  exact we_not (we_isi (we_var rfl ⟨false, rfl, false, rfl, ⟨rfl, rfl⟩⟩))
theorem is_between_ok {i j k : Int} {h : Hs} : WF PR 112 [.int i, .int j, .int k] h fun v h' => v = .bl (decide (j ≤ i ∧ i ≤ k)) ∧ h' = h := by
  refine wf_call (fd := fd_is_between) rfl rfl ?_
  refine ws_ret (we_and (we_call (wl_cons (we_var rfl (wl_nil (is_whole_ok.imp fun v h' ⟨e1, e2⟩ => ⟨true, e1, fun _ => ?_, fun z => nomatch z⟩))))))
  subst e2
  refine we_chain (we_var rfl (we_var rfl (s_le ⟨_, rfl, fun q => we_var rfl (s_le ⟨?_, rfl⟩), fun q => ⟨?_, rfl⟩⟩)))
  · simp only [decide_eq_true_eq] at q
    congr 1
    simp [q]
  · simp only [decide_eq_false_iff_not] at q
    congr 1
    simp [q]
theorem is_between_t {i j k : Int} {h : Hs} {Q : V → Hs → Prop} (l1 : j ≤ i) (l2 : i ≤ k) (q : Q (.bl true) h) : WF PR 112 [.int i, .int j, .int k] h Q := is_between_ok.imp fun v h' ⟨e1, e2⟩ => by
  subst e1 e2
  rw [decide_eq_true ⟨l1, l2⟩]
  exact q
theorem check_least_ok {i : Int} {h : Hs} {Q : V → Hs → Prop} (l1 : 1 ≤ i) (l2 : i ≤ 9) (q : Q .non h) : WF PR 104 [.int i] h Q := by
  refine wf_call (fd := fd_check_least) rfl rfl ?_
  repeat trivial
  refine is_between_t l1 l2 (bol (no ?_))
  exact ws_pass q
theorem is_link_ok {r : V} {l : Lk} {n : Int} {h : Hs} {Q : V → Hs → Prop} (hr : LinkAt h r l) (ok : okL n l) (q : Q (.bl true) h) : WF PR 114 [r, .int n] h Q := by
  obtain ⟨c, rfl, e⟩ := hr
  obtain ⟨a1, a2, b1, b2, ne, q1, q2⟩ := ok
  have isT : isiP PR.isa (.ref c) .tuple h = some true := by
    unfold isiP
    simp only [e]
  have ln : bfLen [.ref c] h = .ok (.int 3) h := by
    unfold bfLen seqAt
    simp only [e]
    rfl
  refine wf_call (fd := fd_is_link) rfl rfl ?_
  repeat trivial
  refine we_or ?_
  repeat trivial
  refine ⟨true, isT, bol (ono ?_)⟩
  refine we_or ?_
  repeat trivial
  show R.sat (bfLen [.ref c] h) _
  rw [ln]
  show Ck.WE _ _ _ _ _
  repeat trivial
  refine ono ?_
  repeat trivial
  refine s_idxT e rfl ?_
  repeat trivial
  refine is_between_t a1 (by omega) (bol (no ?_))
  repeat trivial
  refine we_and ?_
  repeat trivial
  refine s_idxT e rfl ?_
  repeat trivial
  refine is_between_t b1 (by omega) (yes ?_)
  refine we_and ?_
  repeat trivial
  refine s_idxT e rfl ?_
  repeat trivial
  refine s_idxT e rfl ?_
  repeat trivial
  refine ndec (fun _ => ?_) (fun z => absurd z ne)
  repeat trivial
  refine s_idxT e rfl ?_
  repeat trivial
  exact is_between_t q1 q2 q
theorem heard_from_ok {a b : Nat} {rs : List V} {A : Air} {t : Int} {h : Hs} (hA : AirIn h a b rs A) (ok : A.Ok) : WF PR 111 [.ref a, .int t] h fun v h' => v = .ref h.length ∧ Keep h h' ∧ h'.length = h.length + 1 + A.n.toNat ∧
    ∃ cs, h'[h.length]? = some (.lst cs) ∧ cs.length = A.n.toNat ∧ ∀ j : Nat, j < A.n.toNat → cs[j]? = some (.ref (h.length + 1 + j)) ∧ h'[h.length + 1 + j]? = some (.lst ((hdL A.ls t j).map V.int)) := by
  have n1 := ok.n1
  have n40 := ok.n40
  refine wf_call (fd := fd_heard_from) rfl rfl ?_
  repeat trivial
  refine we_comp (wi_rng1 ?_)
  repeat trivial
  refine s_idxT hA.top rfl ⟨A.n, rfl, by omega, by omega, ?_⟩
  refine ⟨fun i acc hh => Keep h hh ∧ hh.length = h.length + 1 + i ∧ acc.length = i ∧ ∀ j : Nat, j < i → acc[j]? = some (.ref (h.length + 1 + j)) ∧ hh[h.length + 1 + j]? = some (.lst []), A.n.toNat, ?_, ?_, ?_⟩
  · exact ⟨Keep.push, by simp, rfl, fun j hj => absurd hj (Nat.not_lt_zero _)⟩
  · rintro i acc hh hi ⟨k, hl, al, aj⟩ hD
    refine ⟨by rw [al]; unfold SZ; omega, .int i, hh, _, it_rng hi, rfl, we_cst (yes ?_)⟩
    refine we_lst (wl_nil ⟨sz2 (by rfl), ?_⟩)
    refine ⟨by rw [List.getElem?_append_left (lt_of_get hD)]; exact hD, ?_, ?_, ?_, ?_⟩
    · exact (k.trans Keep.push).set (Nat.le_refl _)
    · rw [List.length_set, List.length_append, hl]; rfl
    · rw [List.length_append, al]; rfl
    · intro j hj
      by_cases e : j = i
      · subst e
        refine ⟨by rw [List.getElem?_append_right (by omega), al, Nat.sub_self, hl]; rfl, ?_⟩
        rw [get_set_ne (by omega), ← hl]
        exact get_new
      · obtain ⟨q1, q2⟩ := aj j (by omega)
        refine ⟨by rw [List.getElem?_append_left (by omega)]; exact q1, ?_⟩
        rw [get_set_ne (by omega), List.getElem?_append_left (by omega)]
        exact q2
  · rintro cs h1 ⟨k1, l1, cl, cj⟩ hD
    refine ⟨it_rng_end, ?_⟩
    repeat trivial
    refine ws_for (wi_seq ?_)
    repeat trivial
    refine s_idxT (k1.get hA.top) rfl ⟨b, rs, rfl, lstAt_of (k1.get hA.lst), ?_⟩
    refine ⟨fun i s hh => (∃ x y z, s = [some (.ref a), some (.int t), some (.ref h.length), x, y, z, none]) ∧ Keep h hh ∧ hh.length = h.length + 1 + A.n.toNat ∧ hh[h.length]? = some (.lst cs) ∧ ∀ j : Nat, j < A.n.toNat → hh[h.length + 1 + j]? = some (.lst ((hdL (A.ls.take i) t j).map V.int)), A.ls.length, ?_, ?_, ?_⟩
    · exact ⟨⟨none, none, none, rfl⟩, k1, l1, hD, fun j hj => (cj j hj).2⟩
    · rintro i s hh hi ⟨⟨x, y, z, rfl⟩, k, hl, hf, hj⟩
      obtain ⟨r, er, c, rfl, ec⟩ := hA.all.at_ (List.getElem?_eq_getElem hi)
      generalize el : A.ls[i] = l at ec
      have elm : l ∈ A.ls := by rw [← el]; exact List.getElem_mem hi
      have okl := ok.ok l elm
      have etk : A.ls.take (i + 1) = A.ls.take i ++ [l] := by rw [List.take_succ, List.getElem?_eq_getElem hi, el]; rfl
      refine ⟨.ref c, hh, _, it_seq (k.get hA.lst) er, bind_tup (k.get ec), ?_⟩
      refine ws_if ?_
      repeat trivial
      refine dec (fun hq => ?_) (fun hq => ?_)
      · refine ws_expr (we_bm ?_)
        repeat trivial
        obtain ⟨o1, o2, _⟩ := okl
        obtain ⟨q1, q2⟩ := cj l.1.toNat (by omega)
        have q3 := hj l.1.toNat (by omega)
        refine s_idxL hf (atI_int o1 q1) ⟨bm_isL q3 (fun z => nomatch z), ?_⟩
        refine wl_cons (we_var rfl (wl_nil ?_))
        refine bm_app q3 (by
          rw [List.length_map]
          unfold hdL
          rw [List.length_map]
          have := List.length_filter_le (fun l : Lk => decide (l.1 = ((l.1.toNat : Nat) : Int)) && decide (t ≤ l.2.2)) (A.ls.take i)
          have f1 : ∀ (p : Lk → Bool), ((A.ls.take i).filter p).length ≤ 120 := fun p => Nat.le_trans (List.length_filter_le p _) (by rw [List.length_take]; have := ok.few; omega)
          have := f1 (fun l' : Lk => decide (l'.1 = ((l.1.toNat : Nat) : Int)) && decide (t ≤ l'.2.2))
          unfold SZ
          omega) ?_
        refine ⟨⟨_, _, _, rfl⟩, k.set (by omega), by rw [List.length_set]; exact hl, by rw [get_set_ne (by omega)]; exact hf, fun j hjn => ?_⟩
        rw [etk, hdL_snoc]
        by_cases e : j = l.1.toNat
        · subst e
          rw [get_set (by omega), if_pos ⟨by omega, hq⟩, List.map_append]
          rfl
        · rw [get_set_ne (by omega), if_neg (by omega)]
          exact hj j hjn
      · refine ws_pass ⟨⟨_, _, _, rfl⟩, k, hl, hf, fun j hjn => ?_⟩
        rw [etk, hdL_snoc, if_neg (by omega)]
        exact hj j hjn
    · rintro s hh ⟨⟨x, y, z, rfl⟩, k, hl, hf, hj⟩
      refine ⟨it_seq_end (k.get hA.lst) (Nat.le_of_eq hA.all.len), ?_⟩
      refine ws_ret (we_var rfl ⟨rfl, k, hl, cs, hf, cl, fun j hjn => ⟨(cj j hjn).1, ?_⟩⟩)
      have := hj j hjn
      rw [List.take_length] at this
      exact this
theorem len_lst {h : Hs} {a : Nat} {xs : List V} {Q : V → Hs → Prop} (e : h[a]? = some (.lst xs)) (q : Q (.int xs.length) h) : (bfP .len [.ref a] h).sat Q := by
  have ln : bfLen [.ref a] h = .ok (.int xs.length) h := by
    unfold bfLen seqAt
    simp only [e]
  show R.sat (bfLen [.ref a] h) Q
  rw [ln]
  exact q
theorem steps_from_ok {a b : Nat} {rs : List V} {A : Air} {one t : Int} {h : Hs} (hA : AirIn h a b rs A) (ok : A.Ok) (h0 : 0 ≤ one) (h1n : one < A.n) : WF PR 122 [.ref a, .int one, .int t] h fun v h' => Keep h h' ∧ ∃ D kvs ws, v = .ref D ∧ h.length ≤ D ∧ h'[D]? = some (.dK kvs) ∧
    All2 (EntAt h') kvs ws ∧ Bfs A.ls t one ws ws.length := by
  have n1 := ok.n1
  have n40 := ok.n40
  refine wf_call (fd := fd_steps_from) rfl rfl ?_
  refine ws_seq (ws_asg (we_tup (wl_cons ?_)))
  repeat trivial
  refine (heard_from_ok hA ok).imp fun v h1 ⟨ev, k1, l1, cs, hcs, cl, cj⟩ => ?_
  subst ev
  refine wl_cons (we_dnew (wl_cons (we_lst (wl_cons (we_var rfl (wl_nil ⟨sz2 (by rfl), ?_⟩))))))
  repeat trivial
  show 4 ≤ SZ ∧ _
  refine ⟨by decide, _, bind_tup get_new, ?_⟩
  have hD0 : ∀ o : O, ((h1 ++ [if false = true then O.dT [] else .dK []]) ++ [O.lst [.int one]] ++ [o])[h1.length]? = some (.dK []) := fun o => by
    rw [List.getElem?_append_left (by simp), List.getElem?_append_left (by simp)]
    exact get_new
  have hL0 : ∀ o : O, ((h1 ++ [if false = true then O.dT [] else .dK []]) ++ [O.lst [.int one]] ++ [o])[(h1 ++ [if false = true then O.dT [] else .dK []]).length]? = some (.lst [.int one]) := fun o => by
    rw [List.getElem?_append_left (by simp)]
    exact get_new
  have kk : ∀ o : O, Keep h1 ((h1 ++ [if false = true then O.dT [] else .dK []]) ++ [O.lst [.int one]] ++ [o]) := fun o => (Keep.push.trans Keep.push).trans Keep.push
  have hL1 : (h1 ++ [if false = true then O.dT [] else .dK []]).length = h1.length + 1 := by simp
  generalize hh2 : ((h1 ++ [if false = true then O.dT [] else .dK []]) ++ [O.lst [.int one]] ++ [O.tup [.ref h.length, .ref h1.length, .ref (h1 ++ [if false = true then O.dT [] else .dK []]).length, .int 0]]) = h3
  have hD1 : h3[h1.length]? = some (.dK []) := by rw [← hh2]; exact hD0 _
  have hL2 : h3[h1.length + 1]? = some (.lst [.int one]) := by rw [← hh2, ← hL1]; exact hL0 _
  have k3 : Keep h1 h3 := by rw [← hh2]; exact kk _
  clear hh2 hD0 hL0 kk
  rw [hL1]
  refine ws_seq (ws_sub (we_tup (wl_cons (we_cst (wl_cons (we_var rfl (wl_nil ⟨sz2 (by rfl), ?_⟩)))))))
  repeat trivial
  have hD4 : (h3 ++ [O.tup [.int 0, .int one]])[h1.length]? = some (.dK []) := Keep.push.get hD1
  have hL4 : (h3 ++ [O.tup [.int 0, .int one]])[h1.length + 1]? = some (.lst [.int one]) := Keep.push.get hL2
  have lD : h1.length < h3.length := lt_of_get hD1
  refine sub_dK hD4 (by decide) ?_
  refine ws_seq (ws_while (fun m s hh => ∃ (p : Nat) (ws : List W3) (kvs : List (Key × V)) (x y : Option V), s = [some (.ref a), some (.int one), some (.int t), some (.ref h.length), some (.ref h1.length), some (.ref (h1.length + 1)), some (.int p), x, y] ∧ Keep h1 hh ∧
    hh[h1.length]? = some (.dK kvs) ∧ hh[h1.length + 1]? = some (.lst ((ws.map (·.1)).map V.int)) ∧ All2 (EntAt hh) kvs ws ∧ Bfs A.ls t one ws p ∧ p ≤ ws.length ∧ m = A.n.toNat - p) A.n.toNat ?_ ?_)
  · refine ⟨0, [(one, 0, one)], [(.inl one, .ref h3.length)], none, none, rfl, ?_, ?_, ?_, ?_, Bfs.start, Nat.zero_le _, rfl⟩
    · exact (k3.trans Keep.push).set (Nat.le_refl _)
    · exact get_set (lt_of_get hD4)
    · rw [get_set_ne (by omega)]
      exact hL4
    · exact ⟨⟨rfl, h3.length, rfl, tup_set get_new hD4 rfl⟩, trivial⟩
  · rintro m s hh ⟨p, ws, kvs, x, y, rfl, k, hD, hL, hE, bf, hp, rfl⟩
    have few := bf.few ok h0 h1n
    repeat trivial
    refine len_lst hL (s_lt (dec (fun hlt => ?_) fun hge => ?_))
    · have hlt : p < ws.length := by
        rw [List.length_map, List.length_map] at hlt
        omega
      obtain ⟨u, hu⟩ : ∃ u, ws[p]? = some u := ⟨_, List.getElem?_eq_getElem hlt⟩
      have ur := (bf.rch p u hu).range ok h0 h1n
      have eu : ((ws.map (·.1)).map V.int)[p]? = some (.int u.1) := by rw [List.getElem?_map, List.getElem?_map, hu]; rfl
      repeat trivial
      refine s_idxL hL (Ck.atI_nat eu) ?_
      obtain ⟨q1, q2⟩ := cj u.1.toNat (by omega)
      have eun : ((u.1.toNat : Nat) : Int) = u.1 := by omega
      rw [eun] at q2
      refine ws_seq (ws_for (wi_seq ?_))
      repeat trivial
      refine s_idxL (k.get hcs) (atI_int ur.1 q1) ⟨_, _, rfl, lstAt_of (k.get q2), ?_⟩
      refine ⟨fun i s hh => ∃ (ws : List W3) (kvs : List (Key × V)) (y : Option V), s = [some (.ref a), some (.int one), some (.int t), some (.ref h.length), some (.ref h1.length), some (.ref (h1.length + 1)), some (.int p), some (.int u.1), y] ∧ Keep h1 hh ∧
        hh[h1.length]? = some (.dK kvs) ∧ hh[h1.length + 1]? = some (.lst ((ws.map (·.1)).map V.int)) ∧ All2 (EntAt hh) kvs ws ∧ Bfs A.ls t one ws p ∧ ws[p]? = some u ∧ ∀ k ∈ (hdL A.ls t u.1).take i, ∃ v ∈ ws, v.1 = k ∧ v.2.1 ≤ u.2.1 + 1, (hdL A.ls t u.1).length, ?_, ?_, ?_⟩
      · exact ⟨ws, kvs, y, rfl, k, hD, hL, hE, bf, hu, fun k hk => nomatch hk⟩
      · clear hD hL hE bf hu few hlt hp k eu
        rintro i s hh hi ⟨ws, kvs, y, rfl, k, hD, hL, hE, bf, hu, all⟩
        have few := bf.few ok h0 h1n
        generalize em : (hdL A.ls t u.1)[i] = mm
        have emi : (hdL A.ls t u.1)[i]? = some mm := by rw [List.getElem?_eq_getElem hi, em]
        have hmm : mm ∈ hdL A.ls t u.1 := List.mem_of_getElem? emi
        have etk : (hdL A.ls t u.1).take (i + 1) = (hdL A.ls t u.1).take i ++ [mm] := by rw [List.take_succ, emi]; rfl
        refine ⟨.int mm, hh, _, it_seq (k.get q2) (by rw [List.getElem?_map, emi]; rfl), rfl, ?_⟩
        refine ws_if ?_
        repeat trivial
        refine s_notinK hD ?_
        rw [ent_some hE]
        refine ndec (fun hn => ?_) fun hy => ?_
        · obtain ⟨c, g1, g2⟩ := ent_get hE bf.nd hu
          refine ws_seq (ws_sub (we_tup (wl_cons ?_)))
          repeat trivial
          refine s_idxK hD g1 ?_
          repeat trivial
          refine s_idxT g2 rfl ?_
          repeat trivial
          show 2 ≤ SZ ∧ _
          refine ⟨by decide, ?_⟩
          repeat trivial
          have kl : kvs.length = ws.length := hE.len
          have hD' : (hh ++ [O.tup [.int (u.2.1 + 1), .int u.1]])[h1.length]? = some (.dK kvs) := Keep.push.get hD
          have hL' : (hh ++ [O.tup [.int (u.2.1 + 1), .int u.1]])[h1.length + 1]? = some (.lst ((ws.map (·.1)).map V.int)) := Keep.push.get hL
          refine sub_dK hD' (by rw [kl]; unfold SZ; omega) ?_
          have lDh : h1.length < hh.length := lt_of_get hD
          have lLh : h1.length + 1 < hh.length := lt_of_get hL
          have hL2' : ((hh ++ [O.tup [.int (u.2.1 + 1), .int u.1]]).set h1.length (.dK (putK kvs (.inl mm) (.ref hh.length))))[h1.length + 1]? = some (.lst ((ws.map (·.1)).map V.int)) := by
            rw [get_set_ne (by omega)]
            exact hL'
          refine ws_expr (we_bm ?_)
          repeat trivial
          refine ⟨bm_isL hL2' (fun z => nomatch z), ?_⟩
          repeat trivial
          refine bm_app hL2' (by rw [List.length_map, List.length_map]; unfold SZ; omega) ?_
          have nk : putK kvs (.inl mm) (.ref hh.length) = kvs ++ [(.inl mm, .ref hh.length)] := putK_new (by rw [ent_some hE]; exact decide_eq_false hn)
          refine ⟨ws ++ [(mm, u.2.1 + 1, u.1)], kvs ++ [(.inl mm, .ref hh.length)], _, rfl, ?_, ?_, ?_, ?_, bf.push hu hmm hn, ?_, ?_⟩
          · exact ((k.trans Keep.push).set (Nat.le_refl _)).set (by omega)
          · rw [get_set_ne (by omega), get_set (by simp; omega), nk]
          · rw [get_set (by rw [List.length_set, List.length_append]; omega), List.map_append, List.map_append]
            rfl
          · refine All2.push (hE.imp fun kv w e => ?_) ⟨rfl, hh.length, rfl, ?_⟩
            · exact ((e.keep Keep.push).set hD' rfl).set hL2' rfl
            · exact tup_set (tup_set get_new hD' rfl) hL2' rfl
          · rw [List.getElem?_append_left (lt_of_get hu)]
            exact hu
          · intro k' hk'
            rw [etk] at hk'
            rcases List.mem_append.mp hk' with hk' | hk'
            · obtain ⟨v, hv, e1, e2⟩ := all k' hk'
              exact ⟨v, List.mem_append_left _ hv, e1, e2⟩
            · rw [List.mem_singleton.mp hk']
              exact ⟨_, List.mem_append_right _ List.mem_cons_self, rfl, Int.le_refl _⟩
        · refine ws_pass ⟨ws, kvs, _, rfl, k, hD, hL, hE, bf, hu, fun k' hk' => ?_⟩
          rw [etk] at hk'
          rcases List.mem_append.mp hk' with hk' | hk'
          · exact all k' hk'
          · rw [List.mem_singleton.mp hk']
            obtain ⟨v, hv, e1⟩ := List.mem_map.mp hy
            obtain ⟨j, hj⟩ := List.getElem?_of_mem hv
            exact ⟨v, hv, e1, bf.lim j v u hj hu⟩
      · rintro s hh ⟨ws, kvs, y, rfl, k, hD, hL, hE, bf, hu, all⟩
        refine ⟨it_seq_end (k.get q2) (by rw [List.length_map]; exact Nat.le_refl _), ?_⟩
        rw [List.take_length] at all
        have lt := lt_of_get hu
        have few := bf.few ok h0 h1n
        have es : [some (V.ref a), some (V.int one), some (V.int t), some (V.ref h.length), some (V.ref h1.length), some (V.ref (h1.length + 1)), some (V.int p), some (V.int u.1), y].set 6 (some (V.int ((p : Int) + 1))) = [some (V.ref a), some (V.int one), some (V.int t), some (V.ref h.length), some (V.ref h1.length), some (V.ref (h1.length + 1)), some (V.int ((p + 1 : Nat) : Int)), some (V.int u.1), y] := by
          rw [show ((p + 1 : Nat) : Int) = (p : Int) + 1 by omega]
          rfl
        exact ws_aug rfl (we_cst ⟨.int (p + 1), rfl, A.n.toNat - (p + 1), by omega, p + 1, ws, kvs, some (.int u.1), y, es, k, hD, hL, hE, bf.next hu all, lt, rfl⟩)
    · have hge : ws.length ≤ p := by
        rw [List.length_map, List.length_map] at hge
        omega
      have : p = ws.length := by omega
      subst this
      refine ws_ret (we_var rfl ⟨k1.trans k, h1.length, kvs, ws, rfl, k1.le, hD, hE, bf⟩)
end T05
namespace T05
open PySem L2 Ck
local macro_rules | `(tactic| trivial) => `(tactic| first | refine we_var rfl ?_ | refine we_cst ?_ | refine we_op2 ?_ | refine we_isi ?_ | refine we_call ?_ | refine we_bf ?_ | refine we_slice ?_ | refine we_chain ?_ | refine we_not ?_ | refine we_neg ?_ | refine wl_cons ?_ | refine wl_nil ?_ | refine s_add ?_ | refine s_sub ?_ | refine s_le ?_ | refine s_lt ?_ | refine s_gt ?_ | refine s_ge ?_ | refine s_eqI ?_ | refine s_neI ?_ | refine ws_ret ?_ | refine ws_set ?_ | refine ws_expr ?_ | refine ws_if ?_ | refine ws_seq ?_ | refine ws_pass ?_)
theorem bools_of_rep (b : Bool) : ∀ n, boolsOf (List.replicate n (V.bl b)) = some (List.replicate n b)
  | 0 => rfl
  | n + 1 => by
    have ih := bools_of_rep b n
    unfold boolsOf at ih ⊢
    rw [List.replicate_succ, List.replicate_succ, List.mapM_cons, ih]
    rfl
theorem all_rep {h : Hs} {a n : Nat} {Q : V → Hs → Prop} (e : h[a]? = some (.lst (List.replicate n (.bl true)))) (q : Q (.bl true) h) : (bfP .all [.ref a] h).sat Q := by
  have : bfBools (fun bs => .bl (bs.all id)) [.ref a] h = .ok (.bl true) h := by
    unfold bfBools
    simp only [lstAt_of e, Option.bind_some, bools_of_rep]
    have : (List.replicate n true).all id = true := by simp
    rw [this]
  show R.sat (bfBools (fun bs => .bl (bs.all id)) [.ref a] h) Q
  rw [this]
  exact q
theorem any_rep {h : Hs} {a n : Nat} {Q : V → Hs → Prop} (e : h[a]? = some (.lst (List.replicate n (.bl false)))) (q : Q (.bl false) h) : (bfP .any [.ref a] h).sat Q := by
  have : bfBools (fun bs => .bl (bs.any id)) [.ref a] h = .ok (.bl false) h := by
    unfold bfBools
    simp only [lstAt_of e, Option.bind_some, bools_of_rep]
    have : (List.replicate n false).any id = false := by simp
    rw [this]
  show R.sat (bfBools (fun bs => .bl (bs.any id)) [.ref a] h) Q
  rw [this]
  exact q
theorem rep_snoc {A : Type} {x : A} {n : Nat} : List.replicate n x ++ [x] = List.replicate (n + 1) x := (List.replicate_succ').symm
theorem cut1 (xs : List V) : cutV xs (some 1) none = xs.drop 1 := by
  unfold cutV
  rw [HT.sIx_none, show HT.sIx xs.length 0 (some 1) = min 1 xs.length from HT.sIx_nat xs.length 0 1]
  cases xs with
  | nil => rfl
  | cons x xs =>
    have : min 1 (x :: xs).length = 1 := by rw [List.length_cons]; omega
    rw [this]
    refine List.take_of_length_le ?_
    rw [List.length_drop]
    exact Nat.le_refl _
theorem slice_lst {h : Hs} {a : Nat} {xs : List V} {lo hi : Option Int} {Q : V → Hs → Prop} (e : h[a]? = some (.lst xs)) (q : Q (.ref h.length) (h ++ [.lst (cutV xs lo hi)])) : (sliceP (.ref a) lo hi h).sat Q := by
  unfold sliceP
  simp only [e, lstAt_of e]
  exact q
theorem slice_two {h : Hs} {a : Nat} {x y z : V} {Q : V → Hs → Prop} (e : h[a]? = some (.tup [x, y, z])) (q : Q (.ref h.length) (h ++ [.tup [x, y]])) : (sliceP (.ref a) none (some 2) h).sat Q := by
  unfold sliceP
  simp only [e]
  exact q
theorem ge_two {h : Hs} {c d : Nat} {x1 y1 x2 y2 : Int} {Q : V → Hs → Prop} (e1 : h[c]? = some (.tup [.int x1, .int y1])) (e2 : h[d]? = some (.tup [.int x2, .int y2])) (lt : x1 < x2 ∨ (x1 = x2 ∧ y1 < y2)) (q : Q (.bl false) h) : (prim2 .ge (.ref c) (.ref d) h).sat Q := by
  have t1 : tupInts h (.ref c) = some [x1, y1] := by
    unfold tupInts tupAt
    simp only [e1]
    rfl
  have t2 : tupInts h (.ref d) = some [x2, y2] := by
    unfold tupInts tupAt
    simp only [e2]
    rfl
  have g : geT [x1, y1] [x2, y2] = false := by
    show (if decide (x1 = x2) = true then (if decide (y1 = y2) = true then _ else decide (y2 ≤ y1)) else decide (x2 ≤ x1)) = false
    rcases lt with l | ⟨l1, l2⟩
    · rw [if_neg (by rw [decide_eq_true_eq]; omega), decide_eq_false (by omega)]
    · rw [if_pos (decide_eq_true l1), if_neg (by rw [decide_eq_true_eq]; omega), decide_eq_false (by omega)]
  show R.sat (opGe (.ref c) (.ref d) h) Q
  unfold opGe
  simp only [t1, t2, g]
  exact q
theorem it_zip {h : Hs} {a b i : Nat} {xs ys : List V} {x y : V} (ea : h[a]? = some (.lst xs)) (eb : h[b]? = some (.lst ys)) (ex : xs[i]? = some x) (ey : ys[i]? = some y) : itGet (.zip a b) i h = .ok (some (.ref h.length)) (h ++ [.tup [x, y]]) := by
  unfold itGet
  simp only [lstAt_of ea, lstAt_of eb, ex, ey]
theorem it_zip_end {h : Hs} {a b i : Nat} {xs ys : List V} (ea : h[a]? = some (.lst xs)) (eb : h[b]? = some (.lst ys)) (l : ys.length ≤ i) : itGet (.zip a b) i h = .ok none h := by
  unfold itGet
  simp only [lstAt_of ea, lstAt_of eb, List.getElem?_eq_none l]
  cases xs[i]? <;> rfl
theorem check_air_ok {a b : Nat} {rs : List V} {A : Air} {h : Hs} (hA : AirIn h a b rs A) (ok : A.Ok) : WF PR 103 [.ref a] h fun v h' => v = .non ∧ Keep h h' := by
  have isT : ∀ {hh}, Keep h hh → isiP PR.isa (.ref a) .tuple hh = some true := fun k => by
    unfold isiP
    simp only [k.get hA.top]
  have isL : ∀ {hh}, Keep h hh → isiP PR.isa (.ref b) .list hh = some true := fun k => by
    unfold isiP
    simp only [k.get hA.lst]
  have ln : ∀ {hh}, Keep h hh → bfLen [.ref a] hh = .ok (.int 2) hh := fun k => by
    unfold bfLen seqAt
    simp only [k.get hA.top]
    rfl
  have few := ok.few
  have rl : rs.length = A.ls.length := hA.all.len
  refine wf_call (fd := fd_check_air) rfl rfl ?_
  refine ws_seq (ws_if (we_or ?_))
  repeat trivial
  refine ⟨true, isT .refl, bol (ono (we_or ?_))⟩
  repeat trivial
  show R.sat (bfLen [.ref a] h) _
  rw [ln .refl]
  show Ck.WE _ _ _ _ _
  repeat trivial
  refine ono ?_
  repeat trivial
  refine s_idxT hA.top rfl ?_
  repeat trivial
  refine is_between_t ok.n1 ok.n40 (bol (no (ws_pass ?_)))
  refine ws_seq (ws_if (we_or ?_))
  repeat trivial
  refine s_idxT hA.top rfl ?_
  refine ⟨true, isL .refl, bol (ono (we_or ?_))⟩
  repeat trivial
  refine s_idxT hA.top rfl ?_
  repeat trivial
  refine len_lst hA.lst ?_
  repeat trivial
  refine ⟨false, by rw [decide_eq_false (by omega)], fun _ => ?_, fun z => nomatch z⟩
  repeat trivial
  refine we_comp (wi_seq ?_)
  repeat trivial
  refine s_idxT hA.top rfl ⟨b, rs, rfl, lstAt_of hA.lst, ?_⟩
  refine ⟨fun i acc hh => Keep h hh ∧ acc = List.replicate i (.bl true), rs.length, ⟨Keep.push, rfl⟩, ?_, ?_⟩
  · rintro i acc hh hi ⟨k, rfl⟩ hD
    refine ⟨by rw [List.length_replicate]; unfold SZ; omega, ?_⟩
    obtain ⟨l, el, q⟩ := hA.all.get (List.getElem?_eq_getElem hi)
    refine ⟨_, hh, _, it_seq (k.get hA.lst) (List.getElem?_eq_getElem hi), rfl, we_cst (yes ?_)⟩
    repeat trivial
    refine s_idxT (k.get hA.top) rfl ?_
    repeat trivial
    refine is_link_ok (q.keep k) (ok.ok l (List.mem_of_getElem? el)) ⟨hD, k.set (Nat.le_refl _), rep_snoc⟩
  · rintro acc h1 ⟨k1, rfl⟩ hD
    refine ⟨it_seq_end (k1.get hA.lst) (Nat.le_refl _), ?_⟩
    refine wl_nil (all_rep hD (bol (no (ws_pass ?_))))
    refine ws_if ?_
    repeat trivial
    refine we_comp (wi_zip ?_)
    repeat trivial
    refine s_idxT (k1.get hA.top) rfl ?_
    repeat trivial
    refine s_idxT (k1.get hA.top) rfl ?_
    show Ck.WE _ _ _ _ _
    refine we_cst ⟨1, rfl, ?_⟩
    show R.sat _ _
    refine slice_lst (k1.get hA.lst) ?_
    rw [cut1]
    have kp : Keep h (h1 ++ [.lst (rs.drop 1)]) := k1.trans Keep.push
    refine ⟨b, h1.length, rs, rs.drop 1, rfl, rfl, lstAt_of (kp.get hA.lst), lstAt_of get_new, ?_⟩
    refine ⟨fun i acc hh => Keep (h1 ++ [.lst (rs.drop 1)]) hh ∧ acc = List.replicate i (.bl false), rs.length - 1, ⟨Keep.push, rfl⟩, ?_, ?_⟩
    · rintro i acc hh hi ⟨k, rfl⟩ hD2
      refine ⟨by rw [List.length_replicate]; unfold SZ; omega, ?_⟩
      have i1 : i < rs.length := by omega
      have i2 : i + 1 < rs.length := by omega
      obtain ⟨l, el, c, ec, q⟩ := hA.all.get (List.getElem?_eq_getElem i1)
      obtain ⟨m, em, d, ed, r⟩ := hA.all.get (List.getElem?_eq_getElem i2)
      have kh : Keep h hh := kp.trans k
      have e2 : (rs.drop 1)[i]? = some (.ref d) := by
        rw [List.getElem?_drop, Nat.add_comm 1 i, List.getElem?_eq_getElem i2, ed]
      refine ⟨_, _, _, it_zip (kh.get hA.lst) (k.get get_new) (by rw [List.getElem?_eq_getElem i1, ec]) e2, bind_tup get_new, we_cst (yes ?_)⟩
      have kx : Keep hh (hh ++ [.tup [.ref c, .ref d]]) := Keep.push
      repeat trivial
      refine ⟨2, rfl, ?_⟩
      refine slice_two ((kh.trans kx).get q) ?_
      repeat trivial
      refine ⟨2, rfl, ?_⟩
      have ky := kx.trans (Keep.push (o := .tup [.int l.1, .int l.2.1]))
      refine slice_two ((kh.trans ky).get r) ?_
      have kz := ky.trans (Keep.push (o := .tup [.int m.1, .int m.2.1]))
      have lt : ltL l m := by
        obtain ⟨j1, e1⟩ := List.getElem?_eq_some_iff.mp el
        obtain ⟨j2, e2⟩ := List.getElem?_eq_some_iff.mp em
        have := List.pairwise_iff_getElem.mp ok.up i (i + 1) j1 j2 (Nat.lt_succ_self _)
        rw [e1, e2] at this
        exact this
      refine ge_two (Keep.push.get get_new) get_new lt ⟨kz.get hD2, ?_, rep_snoc⟩
      exact (k.trans kz).set (by simp)
    · rintro acc h2 ⟨k2, rfl⟩ hD2
      refine ⟨it_zip_end ((kp.trans k2).get hA.lst) (k2.get get_new) (by rw [List.length_drop]; exact Nat.le_refl _), ?_⟩
      refine wl_nil (any_rep hD2 (no (ws_pass ⟨rfl, kp.trans k2⟩)))
end T05
/-! Ck19: groups, the pure side. -/
namespace Ck
open PySem L2
theorem Rch.trans {ls : List Lk} {t a b c : Int} (r : Rch ls t a b) (q : Rch ls t b c) : Rch ls t a c := by
  induction q with
  | refl => exact r
  | step q e ih => exact .step ih e
open Classical in
noncomputable def grp (ls : List Lk) (t : Int) (n : Nat) (s : Int) : List Int := ((List.range n).map fun i : Nat => (i : Int)).filter fun o => decide (Rch ls t s o ∧ Rch ls t o s)
section
variable {ls : List Lk} {t : Int} {n : Nat} {s o : Int}
theorem grp_mem : o ∈ grp ls t n s ↔ (0 ≤ o ∧ o < n) ∧ Rch ls t s o ∧ Rch ls t o s := by
  unfold grp
  rw [List.mem_filter, List.mem_map]
  simp only [decide_eq_true_eq, List.mem_range]
  constructor
  · rintro ⟨⟨i, hi, rfl⟩, h⟩
    exact ⟨⟨by omega, by omega⟩, h⟩
  · rintro ⟨⟨h1, h2⟩, h⟩
    exact ⟨⟨o.toNat, by omega, by omega⟩, h⟩
theorem range_lt : ((List.range n).map fun i : Nat => (i : Int)).Pairwise (· < ·) := by
  rw [List.pairwise_map]
  exact List.pairwise_lt_range.imp fun h => by omega
theorem grp_lt : (grp ls t n s).Pairwise (· < ·) := range_lt.sublist List.filter_sublist
theorem grp_uniq {ms : List Int} (h : ms.Pairwise (· < ·)) (m : ∀ o, o ∈ ms ↔ (0 ≤ o ∧ o < (n : Int)) ∧ Rch ls t s o ∧ Rch ls t o s) : ms = grp ls t n s := strict_uniq h grp_lt fun k => by rw [m k, grp_mem]
theorem grp_len : (grp ls t n s).length ≤ n := by
  unfold grp
  refine Nat.le_trans (List.length_filter_le _ _) ?_
  rw [List.length_map, List.length_range]
  exact Nat.le_refl _
theorem grp_eq {r : Int} (h : r ∈ grp ls t n s) : grp ls t n r = grp ls t n s := by
  obtain ⟨_, h1, h2⟩ := grp_mem.mp h
  refine grp_uniq grp_lt fun o => ?_
  rw [grp_mem]
  exact ⟨fun ⟨a, b, c⟩ => ⟨a, h1.trans b, c.trans h2⟩, fun ⟨a, b, c⟩ => ⟨a, h2.trans b, c.trans h1⟩⟩
theorem grp_self (h0 : 0 ≤ s) (h1 : s < n) : s ∈ grp ls t n s := grp_mem.mpr ⟨⟨h0, h1⟩, .refl, .refl⟩
/-- found and done behind the first stations -/
noncomputable def gsTo (ls : List Lk) (t : Int) (n : Nat) : Nat → List (List Int) × List Int
  | 0 => ([], [])
  | i + 1 => if (i : Int) ∈ (gsTo ls t n i).2 then gsTo ls t n i else ((gsTo ls t n i).1 ++ [grp ls t n i], (gsTo ls t n i).2 ++ grp ls t n i)
noncomputable def gs (ls : List Lk) (t : Int) (n : Nat) : List (List Int) := (gsTo ls t n n).1
theorem gsTo_in {i : Nat} (h : (i : Int) ∈ (gsTo ls t n i).2) : gsTo ls t n (i + 1) = gsTo ls t n i := if_pos h
theorem gsTo_out {i : Nat} (h : ¬ (i : Int) ∈ (gsTo ls t n i).2) : gsTo ls t n (i + 1) = ((gsTo ls t n i).1 ++ [grp ls t n i], (gsTo ls t n i).2 ++ grp ls t n i) := if_neg h
theorem gsTo_len : ∀ i : Nat, (gsTo ls t n i).1.length ≤ i ∧ (gsTo ls t n i).2.length ≤ i * n
  | 0 => ⟨Nat.le_refl _, Nat.zero_le _⟩
  | i + 1 => by
    obtain ⟨h1, h2⟩ := gsTo_len i
    have e : (i + 1) * n = i * n + n := Nat.succ_mul i n
    by_cases h : (i : Int) ∈ (gsTo ls t n i).2
    · rw [gsTo_in h, e]
      exact ⟨by omega, by omega⟩
    · rw [gsTo_out h, e]
      have := grp_len (ls := ls) (t := t) (n := n) (s := i)
      exact ⟨by rw [List.length_append, List.length_singleton]; omega, by rw [List.length_append]; omega⟩
theorem gsTo_grp : ∀ (i : Nat), i ≤ n → ∀ g ∈ (gsTo ls t n i).1, ∃ s : Int, 0 ≤ s ∧ s < n ∧ g = grp ls t n s
  | 0, _, g, hg => nomatch hg
  | i + 1, hi, g, hg => by
    by_cases h : (i : Int) ∈ (gsTo ls t n i).2
    · rw [gsTo_in h] at hg
      exact gsTo_grp i (by omega) g hg
    · rw [gsTo_out h] at hg
      rcases List.mem_append.mp hg with hg | hg
      · exact gsTo_grp i (by omega) g hg
      · rw [List.mem_singleton.mp hg]
        exact ⟨i, by omega, by omega, rfl⟩
theorem gsTo_done : ∀ (i : Nat) (o : Int), o ∈ (gsTo ls t n i).2 → ∃ g ∈ (gsTo ls t n i).1, o ∈ g
  | 0, o, ho => nomatch ho
  | i + 1, o, ho => by
    by_cases h : (i : Int) ∈ (gsTo ls t n i).2
    · rw [gsTo_in h] at ho ⊢
      exact gsTo_done i o ho
    · rw [gsTo_out h] at ho ⊢
      rcases List.mem_append.mp ho with ho | ho
      · obtain ⟨g, hg, hog⟩ := gsTo_done i o ho
        exact ⟨g, List.mem_append_left _ hg, hog⟩
      · exact ⟨_, List.mem_append_right _ List.mem_cons_self, ho⟩
theorem gsTo_all : ∀ (i : Nat), i ≤ n → ∀ s : Nat, s < i → (s : Int) ∈ (gsTo ls t n i).2
  | 0, _, s, hs => absurd hs (Nat.not_lt_zero _)
  | i + 1, hi, s, hs => by
    rcases Nat.lt_succ_iff_lt_or_eq.mp hs with hs | hs
    · have := gsTo_all i (by omega) s hs
      by_cases h : (i : Int) ∈ (gsTo ls t n i).2
      · rw [gsTo_in h]; exact this
      · rw [gsTo_out h]; exact List.mem_append_left _ this
    · subst hs
      by_cases h : (s : Int) ∈ (gsTo ls t n s).2
      · rw [gsTo_in h]; exact h
      · rw [gsTo_out h]; exact List.mem_append_right _ (grp_self (by omega) (by omega))
theorem gs_grp {g : List Int} (h : g ∈ gs ls t n) : ∃ s : Int, 0 ≤ s ∧ s < n ∧ g = grp ls t n s := gsTo_grp n (Nat.le_refl _) g h
theorem gs_of (h0 : 0 ≤ s) (h1 : s < n) : ∃ g ∈ gs ls t n, s ∈ g := by
  have := gsTo_all (ls := ls) (t := t) n (Nat.le_refl _) s.toNat (by omega)
  rw [Int.toNat_of_nonneg h0] at this
  exact gsTo_done n s this
theorem gs_len : (gs ls t n).length ≤ n := (gsTo_len n).1
end
/-- a list of ints, not older than b -/
def IntsG (b : Nat) (h : Hs) (r : V) (ns : List Int) : Prop := ∃ c, r = .ref c ∧ b ≤ c ∧ h[c]? = some (.lst (ns.map V.int))
theorem IntsG.keep {b : Nat} {h h' : Hs} {r : V} {ns : List Int} (x : IntsG b h r ns) (k : Keep h h') : IntsG b h' r ns := let ⟨c, e, l, q⟩ := x; ⟨c, e, l, k.get q⟩
theorem IntsG.set {b a : Nat} {h : Hs} {r : V} {ns : List Int} {o : O} (x : IntsG b h r ns) (l : a < b) : IntsG b (h.set a o) r ns := let ⟨c, e, l2, q⟩ := x; ⟨c, e, l2, by rw [get_set_ne (by omega)]; exact q⟩
theorem IntsG.le {b d : Nat} {h : Hs} {r : V} {ns : List Int} (x : IntsG b h r ns) (l : d ≤ b) : IntsG d h r ns := let ⟨c, e, l2, q⟩ := x; ⟨c, e, by omega, q⟩
theorem ent_keys {h : Hs} : ∀ {kvs : List (Key × V)} {ws : List W3}, All2 (EntAt h) kvs ws → (kvs.map fun kv => kV kv.1) = (ws.map (·.1)).map V.int
  | [], [], _ => rfl
  | [], _ :: _, h => h.elim
  | _ :: _, [], h => h.elim
  | kv :: kvs, w :: ws, h => by
    rw [List.map_cons, List.map_cons, List.map_cons, ent_keys h.2, h.1.1]
    rfl
theorem list_dK {h : Hs} {a : Nat} {kvs : List (Key × V)} {Q : V → Hs → Prop} (e : h[a]? = some (.dK kvs)) (q : Q (.ref h.length) (h ++ [.lst (kvs.map fun kv => kV kv.1)])) : (bfP .list [.ref a] h).sat Q := by
  have : bfList [.ref a] h = new h (.lst (kvs.map fun kv => kV kv.1)) := by
    unfold bfList
    simp only [e]
  show R.sat (bfList [.ref a] h) Q
  rw [this]
  exact q
theorem list_lst {h : Hs} {a : Nat} {xs : List V} {Q : V → Hs → Prop} (e : h[a]? = some (.lst xs)) (q : Q (.ref h.length) (h ++ [.lst xs])) : (bfP .list [.ref a] h).sat Q := by
  have : bfList [.ref a] h = new h (.lst xs) := by
    unfold bfList seqAt
    simp only [e]
  show R.sat (bfList [.ref a] h) Q
  rw [this]
  exact q
theorem sorted_ints {h : Hs} {a : Nat} {ns : List Int} {Q : V → Hs → Prop} (e : h[a]? = some (.lst (ns.map V.int))) (q : Q (.ref h.length) (h ++ [.lst ((isort (fun i j => decide (i ≤ j)) ns).map V.int)])) : (bfP .sorted [.ref a] h).sat Q := by
  have : bfSorted [.ref a] h = new h (.lst ((isort (fun i j => decide (i ≤ j)) ns).map V.int)) := by
    unfold bfSorted
    simp only [e, lstAt_of e, intsOf_map]
  show R.sat (bfSorted [.ref a] h) Q
  rw [this]
  exact q
end Ck
namespace T05
open PySem L2 Ck
local macro_rules | `(tactic| trivial) => `(tactic| first | refine we_var rfl ?_ | refine we_cst ?_ | refine we_op2 ?_ | refine we_isi ?_ | refine we_call ?_ | refine we_bf ?_ | refine we_slice ?_ | refine we_chain ?_ | refine we_not ?_ | refine we_neg ?_ | refine wl_cons ?_ | refine wl_nil ?_ | refine s_add ?_ | refine s_sub ?_ | refine s_le ?_ | refine s_lt ?_ | refine s_gt ?_ | refine s_ge ?_ | refine s_eqI ?_ | refine s_neI ?_ | refine ws_ret ?_ | refine ws_set ?_ | refine ws_expr ?_ | refine ws_if ?_ | refine ws_seq ?_ | refine ws_pass ?_)
open Classical in
theorem groups_of_ok {a b : Nat} {rs : List V} {A : Air} {t : Int} {h : Hs} (hA : AirIn h a b rs A) (ok : A.Ok) (t1 : 1 ≤ t) (t9 : t ≤ 9) : WF PR 110 [.ref a, .int t] h fun v h' => Keep h h' ∧ ∃ f gv, v = .ref f ∧ h.length ≤ f ∧ h'[f]? = some (.lst gv) ∧ All2 (IntsG (f + 1) h') gv (gs A.ls t A.n.toNat) := by
  have n1 := ok.n1
  have n40 := ok.n40
  refine wf_call (fd := fd_groups_of) rfl rfl ?_
  refine ws_seq (ws_expr ?_)
  repeat trivial
  refine (check_air_ok hA ok).imp fun v h1 ⟨ev, k1⟩ => ?_
  refine ws_seq (ws_expr ?_)
  repeat trivial
  refine check_least_ok t1 t9 ?_
  have hA1 := hA.keep k1
  refine ws_seq (ws_asg (we_tup (wl_cons (we_comp (wi_rng1 ?_)))))
  repeat trivial
  refine s_idxT hA1.top rfl ⟨A.n, rfl, by omega, by omega, ?_⟩
  refine ⟨fun i acc hh => Keep h1 hh ∧ acc.length = i ∧ ∀ j : Nat, j < i → ∃ (c : Nat) (ks : List Int), acc[j]? = some (.ref c) ∧ h1.length < c ∧ hh[c]? = some (.lst (ks.map V.int)) ∧ ks.Nodup ∧ ∀ k, k ∈ ks ↔ Rch A.ls t j k, A.n.toNat, ⟨Keep.push, rfl, fun j hj => absurd hj (Nat.not_lt_zero _)⟩, ?_, ?_⟩
  · rintro i acc hh hi ⟨k, al, aj⟩ hD
    refine ⟨by rw [al]; unfold SZ; omega, .int i, hh, _, it_rng hi, rfl, we_cst (yes ?_)⟩
    have ac : AirIn hh a b rs A := hA1.keep k
    repeat trivial
    refine (steps_from_ok (t := t) ac ok (by omega) (by omega)).imp fun v h2 ⟨k2, D, kvs, ws, ev, lD, eD, hE, bf⟩ => ?_
    subst ev
    repeat trivial
    refine list_dK eD ?_
    rw [ent_keys hE]
    have hD2 : (h2 ++ [O.lst ((ws.map (·.1)).map V.int)])[h1.length]? = some (.lst acc) := Keep.push.get (k2.get hD)
    have lh : h1.length < h2.length := Nat.lt_of_lt_of_le (lt_of_get hD) k2.le
    refine ⟨hD2, ((k.trans k2).trans Keep.push).set (Nat.le_refl _), by rw [List.length_append, al]; rfl, fun j hj => ?_⟩
    by_cases e : j = i
    · subst e
      refine ⟨h2.length, ws.map (·.1), by rw [List.getElem?_append_right (by omega), al, Nat.sub_self]; rfl, lh, ?_, bf.nd, fun k => bf.keys (Nat.le_refl _) k⟩
      rw [get_set_ne (by omega)]
      exact get_new
    · obtain ⟨c, ks, q1, q2, q3, q4⟩ := aj j (by omega)
      refine ⟨c, ks, by rw [List.getElem?_append_left (by omega)]; exact q1, q2, ?_, q4⟩
      rw [get_set_ne (by omega)]
      exact Keep.push.get (k2.get q3)
  · rintro cs hC ⟨kC, cl, cj⟩ hD
    refine ⟨it_rng_end, ?_⟩
    refine wl_cons (we_lst (wl_nil ⟨sz2 (by rfl), wl_cons (we_lst (wl_nil ⟨sz2 (by rfl), wl_nil ⟨sz2 (by rfl), _, bind_tup get_new, ?_⟩⟩))⟩))
    have lF : (hC ++ [O.lst []]).length = hC.length + 1 := by simp
    have eF : ∀ o : O, ((hC ++ [O.lst []]) ++ [O.lst []] ++ [o])[hC.length]? = some (.lst []) := fun o => by
      rw [List.getElem?_append_left (by simp), List.getElem?_append_left (by simp)]
      exact get_new
    have eN : ∀ o : O, ((hC ++ [O.lst []]) ++ [O.lst []] ++ [o])[(hC ++ [O.lst []]).length]? = some (.lst []) := fun o => by
      rw [List.getElem?_append_left (by simp)]
      exact get_new
    have kk : ∀ o : O, Keep hC ((hC ++ [O.lst []]) ++ [O.lst []] ++ [o]) := fun o => (Keep.push.trans Keep.push).trans Keep.push
    have ll : ∀ o : O, ((hC ++ [O.lst []]) ++ [O.lst []] ++ [o]).length = hC.length + 3 := fun o => by simp
    have e3 : ∃ h3, h3 = ((hC ++ [O.lst []]) ++ [O.lst []] ++ [O.tup [.ref h1.length, .ref hC.length, .ref (hC ++ [O.lst []]).length]]) := ⟨_, rfl⟩
    obtain ⟨h3, e3⟩ := e3
    have eF3 : h3[hC.length]? = some (.lst []) := by rw [e3]; exact eF _
    have eN3 : h3[hC.length + 1]? = some (.lst []) := by rw [e3, ← lF]; exact eN _
    have k3 : Keep hC h3 := by rw [e3]; exact kk _
    have l3 : h3.length = hC.length + 3 := by rw [e3]; exact ll _
    rw [← e3, lF]
    clear e3 eF eN kk ll
    refine ws_seq (ws_for (wi_rng1 ?_))
    repeat trivial
    refine s_idxT ((hA1.keep (kC.trans k3)).top) rfl ⟨A.n, rfl, by omega, by omega, ?_⟩
    refine ⟨fun i s hh => ∃ (x y : Option V) (gv : List V), s = [some (.ref a), some (.int t), x, some (.ref h1.length), some (.ref hC.length), some (.ref (hC.length + 1)), y, none] ∧ Keep hC hh ∧ hC.length + 3 ≤ hh.length ∧ hh[hC.length]? = some (.lst gv) ∧
      hh[hC.length + 1]? = some (.lst ((gsTo A.ls t A.n.toNat i).2.map V.int)) ∧ All2 (IntsG (hC.length + 3) hh) gv (gsTo A.ls t A.n.toNat i).1, A.n.toNat, ?_, ?_, ?_⟩
    · exact ⟨none, none, [], rfl, k3, by omega, eF3, eN3, trivial⟩
    · rintro i s hh hi ⟨x, y, gv, rfl, k, lh, hF, hN, hG⟩
      refine ⟨.int i, hh, _, it_rng hi, rfl, ?_⟩
      refine ws_if ?_
      repeat trivial
      refine s_notinL hN (ndec (fun hn => ?_) fun hy => ?_)
      · obtain ⟨c, ks, q1, q2, q3, q4, q5⟩ := cj i hi
        have gl := hG.len
        obtain ⟨g1, g2⟩ := gsTo_len (ls := A.ls) (t := t) (n := A.n.toNat) i
        have g3 : i * A.n.toNat ≤ 40 * 40 := Nat.mul_le_mul (by omega) (by omega)
        refine ws_seq (ws_set ?_)
        repeat trivial
        refine we_comp (wi_seq ?_)
        repeat trivial
        refine s_idxL (k.get hD) (Ck.atI_nat q1) ⟨c, _, rfl, lstAt_of (k.get q3), ?_⟩
        have kl : ks.length ≤ A.n.toNat := len_le A.n.toNat ks q4 fun o ho => by
          have := ((q5 o).mp ho).range ok (by omega) (by omega)
          omega
        refine ⟨fun j acc h2 => Keep hh h2 ∧ acc = ((ks.take j).filter fun o => decide (Rch A.ls t o i)).map V.int, ks.length, ⟨Keep.push, rfl⟩, ?_, ?_⟩
        · rintro j acc h2 hj ⟨k2, rfl⟩ hX
          have fl : ((ks.take j).filter fun o => decide (Rch A.ls t o i)).length ≤ 40 := Nat.le_trans (List.length_filter_le _ _) (by rw [List.length_take]; omega)
          refine ⟨by rw [List.length_map]; unfold SZ; omega, ?_⟩
          obtain ⟨o, eo⟩ : ∃ o, ks[j]? = some o := ⟨_, List.getElem?_eq_getElem hj⟩
          have etk : ks.take (j + 1) = ks.take j ++ [o] := by rw [List.take_succ, eo]; rfl
          have orr := ((q5 o).mp (List.mem_of_getElem? eo)).range ok (by omega) (by omega)
          obtain ⟨c2, ks2, r1, r2, r3, r4, r5⟩ := cj o.toNat (by omega)
          have eon : ((o.toNat : Nat) : Int) = o := by omega
          refine ⟨.int o, h2, _, it_seq ((k.trans k2).get q3) (by rw [List.getElem?_map, eo]; rfl), rfl, ?_⟩
          repeat trivial
          refine s_idxL ((k.trans k2).get hD) (atI_int orr.1 r1) ?_
          refine s_inL ((k.trans k2).get r3) (dec (fun hin => ?_) fun hin => ?_)
          · refine we_var rfl ⟨hX, k2.set (Nat.le_refl _), ?_⟩
            have : Rch A.ls t o i := by
              have := (r5 i).mp hin
              rwa [eon] at this
            rw [etk, List.filter_append, List.map_append]
            simp [List.filter, this]
          · refine ⟨hX, k2, ?_⟩
            have : ¬ Rch A.ls t o i := fun z => hin ((r5 i).mpr (by rw [eon]; exact z))
            rw [etk, List.filter_append, List.map_append]
            simp [List.filter, this]
        · rintro acc h2 ⟨k2, rfl⟩ hX
          refine ⟨it_seq_end ((k.trans k2).get q3) (by rw [List.length_map]; exact Nat.le_refl _), ?_⟩
          rw [List.take_length] at hX
          refine wl_nil (sorted_ints hX ?_)
          have eg : isort (fun i j => decide (i ≤ j)) (ks.filter fun o => decide (Rch A.ls t o i)) = grp A.ls t A.n.toNat i := by
            refine grp_uniq (isort_lt (q4.sublist List.filter_sublist)) fun o => ?_
            rw [(isort_perm _).mem_iff, List.mem_filter, q5 o, decide_eq_true_eq]
            refine ⟨fun ⟨u1, u2⟩ => ⟨?_, u1, u2⟩, fun ⟨_, u1, u2⟩ => ⟨u1, u2⟩⟩
            have := u1.range ok (by omega) (by omega)
            omega
          rw [eg]
          have kp : Keep hh (h2 ++ [O.lst ((grp A.ls t A.n.toNat i).map V.int)]) := k2.trans Keep.push
          have hF2 := kp.get hF
          have hN2 := kp.get hN
          have l2 : hh.length ≤ h2.length := k2.le
          refine ws_seq (ws_expr (we_bm ?_))
          repeat trivial
          refine ⟨bm_isL hF2 (fun z => nomatch z), ?_⟩
          repeat trivial
          refine bm_app hF2 (by rw [gl]; unfold SZ; omega) ?_
          refine ws_expr (we_bm ?_)
          repeat trivial
          have hN3 : ((h2 ++ [O.lst ((grp A.ls t A.n.toNat i).map V.int)]).set hC.length (.lst (gv ++ [.ref h2.length])))[hC.length + 1]? = some (.lst ((gsTo A.ls t A.n.toNat i).2.map V.int)) := by
            rw [get_set_ne (by omega)]
            exact hN2
          have hG3 : ((h2 ++ [O.lst ((grp A.ls t A.n.toNat i).map V.int)]).set hC.length (.lst (gv ++ [.ref h2.length])))[h2.length]? = some (.lst ((grp A.ls t A.n.toNat i).map V.int)) := by
            rw [get_set_ne (by omega)]
            exact get_new
          refine ⟨bm_isL hN3 (fun z => nomatch z), ?_⟩
          repeat trivial
          have gl2 := grp_len (ls := A.ls) (t := t) (n := A.n.toNat) (s := i)
          refine bm_ext hN3 hG3 (by rw [List.length_map, List.length_map]; unfold SZ; omega) ?_
          refine ⟨_, _, gv ++ [.ref h2.length], rfl, ?_, ?_, ?_, ?_, ?_⟩
          · exact ((k.trans kp).set (Nat.le_refl _)).set (by omega)
          · simp only [List.length_set, List.length_append, List.length_singleton]
            omega
          · rw [get_set_ne (by omega), get_set (by simp; omega)]
          · rw [get_set (by simp; omega), gsTo_out hn, List.map_append]
          · rw [gsTo_out hn]
            refine All2.push (hG.imp fun r ns x => ?_) ⟨h2.length, rfl, by omega, ?_⟩
            · exact ((x.keep kp).set (by omega)).set (by omega)
            · rw [get_set_ne (by omega)]
              exact hG3
      · refine ws_pass ⟨_, _, gv, rfl, k, lh, hF, ?_, ?_⟩
        · rw [gsTo_in hy]
          exact hN
        · rw [gsTo_in hy]
          exact hG
    · rintro s hh ⟨x, y, gv, rfl, k, lh, hF, hN, hG⟩
      refine ⟨it_rng_end, ?_⟩
      refine ws_ret (we_var rfl ⟨(k1.trans kC).trans k, hC.length, gv, rfl, (k1.trans kC).le, hF, ?_⟩)
      exact hG.imp fun r ns x => x.le (by omega)
end T05
/-! Ck20: sizes of numbers; equality of nested lists. -/
namespace Ck
open PySem L2
def Bits (B : Nat) (x : Int) : Prop := x.natAbs < 2 ^ B
theorem Bits.mono {B C : Nat} {x : Int} (h : Bits B x) (l : B ≤ C) : Bits C x := Nat.lt_of_lt_of_le h (Nat.pow_le_pow_right (by decide) l)
theorem Bits.add {B : Nat} {x y : Int} (h : Bits B x) (k : Bits B y) : Bits (B + 1) (x + y) := by
  unfold Bits at *
  have := Int.natAbs_add_le x y
  rw [Nat.pow_succ]
  omega
theorem Bits.mul {B C : Nat} {x y : Int} (h : Bits B x) (k : Bits C y) : Bits (B + C) (x * y) := by
  unfold Bits at *
  rw [Int.natAbs_mul, Nat.pow_add]
  exact Nat.mul_lt_mul_of_lt_of_lt h k
theorem Bits.log {B : Nat} {x : Int} (h : Bits B x) : x.natAbs.log2 ≤ B := by
  by_cases e : x.natAbs = 0
  · rw [e]
    exact Nat.zero_le _
  · exact Nat.le_of_lt ((Nat.log2_lt e).mpr h)
theorem mulOk_of {B C : Nat} {x y : Int} (h : Bits B x) (k : Bits C y) (l : B + C < 100000000) : mulOk x y = true := by
  have := h.log
  have := k.log
  unfold mulOk
  exact decide_eq_true (by omega)
theorem Bits.lt {B : Nat} {x : Int} (h0 : 0 ≤ x) (h : x < 2 ^ B) : Bits B x := by
  unfold Bits
  have e : (x.natAbs : Int) = x := Int.natAbs_of_nonneg h0
  have : (x.natAbs : Int) < ((2 ^ B : Nat) : Int) := by
    rw [e]
    have : ((2 ^ B : Nat) : Int) = (2 : Int) ^ B := by simp
    rw [this]
    exact h
  exact Int.ofNat_lt.mp this
theorem s_pow {i j : Int} {h : Hs} {Q : V → Hs → Prop} (l : (decide (0 ≤ j) && decide (j ≤ 1000) && decide (i.natAbs < 1000)) = true) (q : Q (.int (i ^ j.toNat)) h) : (prim2 .pow (.int i) (.int j) h).sat Q := by
  show R.sat (if (decide (0 ≤ j) && decide (j ≤ 1000) && decide (i.natAbs < 1000)) = true then _ else _) Q
  rw [if_pos l]
  exact q
/-! ### data -/
theorem dataOf_int {h : Hs} {n : Nat} {i : Int} : dataOf (n + 1) h (.int i) = some (.int i) := rfl
theorem mapM_all {A B : Type} {f : A → Option B} {R : A → B → Prop} (e : ∀ x y, R x y → f x = some y) : ∀ {xs : List A} {ys : List B}, All2 R xs ys → xs.mapM f = some ys
  | [], [], _ => rfl
  | [], _ :: _, h => h.elim
  | _ :: _, [], h => h.elim
  | x :: xs, y :: ys, h => by
    rw [List.mapM_cons, e x y h.1, mapM_all e h.2]
    rfl
theorem all2_map {A B C : Type} {R : A → B → Prop} {f : B → C} : ∀ {xs : List A} {ys : List B}, All2 R xs ys → All2 (fun x z => ∃ y, R x y ∧ z = f y) xs (ys.map f)
  | [], [], _ => trivial
  | [], _ :: _, h => h.elim
  | _ :: _, [], h => h.elim
  | _ :: _, _ :: _, h => ⟨⟨_, h.1, rfl⟩, all2_map h.2⟩
theorem data_ints {h : Hs} {n a : Nat} {ns : List Int} (e : h[a]? = some (.lst (ns.map V.int))) : dataOf (n + 2) h (.ref a) = some (.list (ns.map .int)) := by
  show (match h[a]? with
      | some (.lst xs) => (xs.mapM (dataOf (n + 1) h)).map PyData.list
      | some (.rdl xs) => (xs.mapM (dataOf (n + 1) h)).map PyData.list
      | some (.tup xs) => (xs.mapM (dataOf (n + 1) h)).map PyData.tuple
      | _ => none) = _
  simp only [e]
  have : (ns.map V.int).mapM (dataOf (n + 1) h) = some (ns.map .int) := by
    induction ns with
    | nil => rfl
    | cons x xs ih =>
      rw [List.map_cons, List.map_cons, List.mapM_cons, dataOf_int]
      have ih2 : ∀ xs : List Int, (xs.map V.int).mapM (dataOf (n + 1) h) = some (xs.map PyData.int) := by
        intro xs
        induction xs with
        | nil => rfl
        | cons x xs ih =>
          rw [List.map_cons, List.map_cons, List.mapM_cons, dataOf_int, ih]
          rfl
      rw [ih2]
      rfl
  rw [this]
  rfl
theorem data_lists {b : Nat} {h : Hs} {n a : Nat} {gv : List V} {gs : List (List Int)} (e : h[a]? = some (.lst gv)) (g : All2 (IntsG b h) gv gs) : dataOf (n + 3) h (.ref a) = some (.list (gs.map fun ns => .list (ns.map .int))) := by
  show (match h[a]? with
      | some (.lst xs) => (xs.mapM (dataOf (n + 2) h)).map PyData.list
      | some (.rdl xs) => (xs.mapM (dataOf (n + 2) h)).map PyData.list
      | some (.tup xs) => (xs.mapM (dataOf (n + 2) h)).map PyData.tuple
      | _ => none) = _
  simp only [e]
  rw [mapM_all (R := fun x z => ∃ y, IntsG b h x y ∧ z = PyData.list (y.map .int)) (fun x z ⟨y, ⟨c, ex, _, q⟩, ez⟩ => by rw [ex, ez]; exact data_ints q) (all2_map g)]
  rfl
theorem data_links {h : Hs} {n b : Nat} {rs : List V} {ls : List Lk} (e : h[b]? = some (.lst rs)) (g : All2 (LinkAt h) rs ls) : dataOf (n + 3) h (.ref b) = some (.list (ls.map fun l => .tuple [.int l.1, .int l.2.1, .int l.2.2])) := by
  show (match h[b]? with
      | some (.lst xs) => (xs.mapM (dataOf (n + 2) h)).map PyData.list
      | some (.rdl xs) => (xs.mapM (dataOf (n + 2) h)).map PyData.list
      | some (.tup xs) => (xs.mapM (dataOf (n + 2) h)).map PyData.tuple
      | _ => none) = _
  simp only [e]
  rw [mapM_all (R := fun x z => ∃ y, LinkAt h x y ∧ z = PyData.tuple [.int y.1, .int y.2.1, .int y.2.2]) (fun x z ⟨y, ⟨c, ex, q⟩, ez⟩ => by
    rw [ex, ez]
    show (match h[c]? with
      | some (.lst xs) => (xs.mapM (dataOf (n + 1) h)).map PyData.list
      | some (.rdl xs) => (xs.mapM (dataOf (n + 1) h)).map PyData.list
      | some (.tup xs) => (xs.mapM (dataOf (n + 1) h)).map PyData.tuple
      | _ => none) = _
    simp only [q]
    rfl) (all2_map g)]
  rfl
def airD (A : Air) : PyData := .tuple [.int A.n, .list (A.ls.map fun l => .tuple [.int l.1, .int l.2.1, .int l.2.2])]
theorem data_air {h : Hs} {n a b : Nat} {rs : List V} {A : Air} (hA : AirIn h a b rs A) : dataOf (n + 4) h (.ref a) = some (airD A) := by
  show (match h[a]? with
      | some (.lst xs) => (xs.mapM (dataOf (n + 3) h)).map PyData.list
      | some (.rdl xs) => (xs.mapM (dataOf (n + 3) h)).map PyData.list
      | some (.tup xs) => (xs.mapM (dataOf (n + 3) h)).map PyData.tuple
      | _ => none) = _
  simp only [hA.top]
  rw [List.mapM_cons, List.mapM_cons, dataOf_int, data_links hA.lst hA.all]
  rfl
theorem eqvAll_map {A : Type} {f : A → PyData} (e : ∀ x, PyData.eqv (f x) (f x) = true) : ∀ xs : List A, PyData.eqvAll (xs.map f) (xs.map f) = true
  | [] => by rw [List.map_nil, PyData.eqvAll]
  | x :: xs => by rw [List.map_cons, PyData.eqvAll, e x, eqvAll_map e xs]; rfl
theorem eqv_int (i : Int) : PyData.eqv (.int i) (.int i) = true := by rw [PyData.eqv]; exact beq_self_eq_true i
theorem eqv_ints (ns : List Int) : PyData.eqv (.list (ns.map .int)) (.list (ns.map .int)) = true := by rw [PyData.eqv]; exact eqvAll_map eqv_int ns
theorem eqv_lists (gs : List (List Int)) : PyData.eqv (.list (gs.map fun ns => .list (ns.map .int))) (.list (gs.map fun ns => .list (ns.map .int))) = true := by rw [PyData.eqv]; exact eqvAll_map eqv_ints gs
theorem eqv_link (l : Lk) : PyData.eqv (.tuple [.int l.1, .int l.2.1, .int l.2.2]) (.tuple [.int l.1, .int l.2.1, .int l.2.2]) = true := by
  rw [PyData.eqv, PyData.eqvAll, PyData.eqvAll, PyData.eqvAll, PyData.eqvAll, eqv_int, eqv_int, eqv_int]
  rfl
theorem eqv_air (A : Air) : PyData.eqv (airD A) (airD A) = true := by
  unfold airD
  rw [PyData.eqv, PyData.eqvAll, PyData.eqvAll, PyData.eqvAll, eqv_int, PyData.eqv, eqvAll_map eqv_link]
  rfl
theorem eqD_ref {h : Hs} {a b : Nat} {d e : PyData} (ha : dataOf DP h (.ref a) = some d) (hb : dataOf DP h (.ref b) = some e) : eqD (.ref a) (.ref b) h = some (PyData.eqv d e) := by
  unfold eqD
  simp only [ha, hb]
theorem s_neD {h : Hs} {a b : Nat} {d e : PyData} {Q : V → Hs → Prop} (ha : dataOf DP h (.ref a) = some d) (hb : dataOf DP h (.ref b) = some e) (q : Q (.bl (!PyData.eqv d e)) h) : (prim2 .ne (.ref a) (.ref b) h).sat Q := by
  show R.sat ((R.ofOpt h (eqD (.ref a) (.ref b) h)).bind fun b h => .ok (.bl (!b)) h) Q
  rw [eqD_ref ha hb]
  exact q
theorem s_eqD {h : Hs} {a b : Nat} {d e : PyData} {Q : V → Hs → Prop} (ha : dataOf DP h (.ref a) = some d) (hb : dataOf DP h (.ref b) = some e) (q : Q (.bl (PyData.eqv d e)) h) : (prim2 .eq (.ref a) (.ref b) h).sat Q := by
  show R.sat ((R.ofOpt h (eqD (.ref a) (.ref b) h)).bind fun b h => .ok (.bl b) h) Q
  rw [eqD_ref ha hb]
  exact q
/-! ### what is kept of a list of ints as a dict of truths -/
def KeysAt (h : Hs) (a : Nat) (ks : List Int) : Prop := ∃ kvs, h[a]? = some (.dK kvs) ∧ kvs = ks.map fun k => (Sum.inl k, V.bl true)
theorem keys_some {k : Int} : ∀ {ks : List Int}, (valV (ks.map fun k => ((Sum.inl k : Key), V.bl true)) (.inl k)).isSome = decide (k ∈ ks)
  | [] => rfl
  | j :: ks => by
    have ih := keys_some (k := k) (ks := ks)
    rw [List.map_cons]
    by_cases e : j = k
    · subst e
      rw [valV_pos rfl]
      simp
    · rw [valV_neg (fun z => e (Sum.inl.inj z)), ih]
      have : k ≠ j := fun z => e z.symm
      simp [this]
/-- the links turned about -/
def back (ls : List Lk) : List Lk := ls.map fun l => (l.2.1, l.1, l.2.2)
theorem rch_back {ls : List Lk} {t a b : Int} : Rch (back ls) t a b ↔ Rch ls t b a := by
  have key : ∀ ls : List Lk, ∀ {t a b : Int}, Rch ls t a b → Rch (back ls) t b a := by
    intro ls t a b r
    have pre : ∀ {x y z : Int}, y ∈ hdL ls t x → Rch (back ls) t y z → Rch (back ls) t y z := fun _ r => r
    induction r with
    | refl => exact .refl
    | step r e ih =>
      rename_i b c
      obtain ⟨q, hm, hq⟩ := mem_hdL.mp e
      have e2 : b ∈ hdL (back ls) t c := mem_hdL.mpr ⟨q, List.mem_map.mpr ⟨_, hm, rfl⟩, hq⟩
      exact Rch.trans (.step .refl e2) ih
  constructor
  · intro r
    have := key _ r
    have e : back (back ls) = ls := by
      unfold back
      rw [List.map_map]
      exact List.map_id'' (fun _ => rfl) ls
    rwa [e] at this
  · exact key ls
structure Rg (n : Int) (ls : List Lk) : Prop where
  n1 : 1 ≤ n
  n40 : n ≤ 40
  few : ls.length ≤ 120
  ok : ∀ l ∈ ls, okL n l
theorem Air.Ok.rg {A : Air} (o : A.Ok) : Rg A.n A.ls := ⟨o.n1, o.n40, o.few, o.ok⟩
theorem Rg.back {n : Int} {ls : List Lk} (o : Rg n ls) : Rg n (back ls) := ⟨o.n1, o.n40, by unfold Ck.back; rw [List.length_map]; exact o.few, fun l hl => by
  obtain ⟨m, hm, rfl⟩ := List.mem_map.mp hl
  obtain ⟨a, b, c, d, e, f, g⟩ := o.ok m hm
  exact ⟨c, d, a, b, fun z => e z.symm, f, g⟩⟩
theorem Rg.range {n : Int} {ls : List Lk} {t a k : Int} (o : Rg n ls) (h0 : 0 ≤ a) (h1 : a < n) (r : Rch ls t a k) : 0 ≤ k ∧ k < n := by
  cases r with
  | refl => exact ⟨h0, h1⟩
  | step r e =>
    obtain ⟨q, hm, _⟩ := mem_hdL.mp e
    obtain ⟨_, _, c, d, _⟩ := o.ok _ hm
    exact ⟨c, d⟩
end Ck
namespace T05
open PySem L2 Ck
local macro_rules | `(tactic| trivial) => `(tactic| first | refine we_var rfl ?_ | refine we_cst ?_ | refine we_op2 ?_ | refine we_isi ?_ | refine we_call ?_ | refine we_bf ?_ | refine we_slice ?_ | refine we_chain ?_ | refine we_not ?_ | refine we_neg ?_ | refine wl_cons ?_ | refine wl_nil ?_ | refine s_add ?_ | refine s_sub ?_ | refine s_le ?_ | refine s_lt ?_ | refine s_gt ?_ | refine s_ge ?_ | refine s_eqI ?_ | refine s_neI ?_ | refine ws_ret ?_ | refine ws_set ?_ | refine ws_expr ?_ | refine ws_if ?_ | refine ws_seq ?_ | refine ws_pass ?_)
theorem s_cat {h : Hs} {a b : Nat} {xs ys : List V} {Q : V → Hs → Prop} (e : h[a]? = some (.lst xs)) (e2 : h[b]? = some (.lst ys)) (l : xs.length + ys.length ≤ SZ) (q : Q (.ref h.length) (h ++ [.lst (xs ++ ys)])) : (prim2 .add (.ref a) (.ref b) h).sat Q := by
  show R.sat (opAdd (.ref a) (.ref b) h) Q
  unfold opAdd
  simp only [e, e2]
  rw [if_pos l]
  exact q
theorem law_number_ok {C : Nat} {cell at_ whole : Int} {h : Hs} (hC : C ≤ 3000000) (h40 : 40 ≤ C) (b1 : Bits C cell) (a0 : 0 ≤ at_) (a1 : at_ < 1000) (b2 : Bits C whole) : WF PR 70 [.int cell, .int at_, .int whole] h fun v h' => h' = h ∧ ∃ r, v = .int r := by
  refine wf_call (fd := fd__law_number) rfl rfl ?_
  refine ws_seq (ws_if ?_)
  repeat trivial
  refine s_pow (by decide) ?_
  refine s_ge (dec (fun _ => ?_) fun _ => ?_)
  · exact ws_ret (we_var rfl ⟨rfl, cell, rfl⟩)
  · refine ws_pass (ws_seq (ws_set ?_))
    have ba : Bits 10 at_ := Bits.lt a0 (by omega)
    have b3 : Bits 20 (977 * at_) := Bits.mul (B := 10) (C := 10) (Bits.lt (by decide) (by decide)) ba
    have b4 : Bits (C + 1) (cell + 977 * at_) := b1.add (b3.mono (by omega))
    repeat trivial
    refine s_mul (mulOk_of (B := 10) (C := 10) (Bits.lt (by decide) (by decide)) ba (by decide)) ?_
    repeat trivial
    refine s_mul (mulOk_of (C := 16) b4 (Bits.lt (by decide) (by decide)) (by omega)) ?_
    repeat trivial
    generalize em : ((cell + 977 * at_) * 48271 + whole) % 2147483647 = m
    have m0 : 0 ≤ m := by rw [← em]; exact Int.emod_nonneg _ (by decide)
    have m1 : m < 2147483647 := by rw [← em]; exact Int.emod_lt_of_pos _ (by decide)
    have bm : Bits 31 m := Bits.lt m0 (by omega)
    have b5 : Bits 16 (31 * at_) := Bits.mul (B := 6) (C := 10) (Bits.lt (by decide) (by decide)) ba |>.mono (by decide)
    have b6 : Bits 33 (m + 31 * at_ + 7) := ((bm.add (b5.mono (by decide))).add (Bits.lt (by decide) (by decide))).mono (by decide)
    have b7 : Bits 64 (m * (m + 31 * at_ + 7)) := (bm.mul b6).mono (by decide)
    have b8 : Bits (C + 2) (m + cell + 5) := ((bm.mono (by omega)).add b1).add ((Bits.lt (B := 3) (by decide) (by decide)).mono (by omega))
    refine s_mul (mulOk_of (B := 6) (C := 10) (Bits.lt (by decide) (by decide)) ba (by decide)) ?_
    repeat trivial
    refine s_mul (mulOk_of bm b6 (by decide)) ?_
    repeat trivial
    refine s_mul (mulOk_of b7 b8 (by omega)) ?_
    have b9 : Bits (C + 66) (m * (m + 31 * at_ + 7) * (m + cell + 5)) := (b7.mul b8).mono (by omega)
    generalize m * (m + 31 * at_ + 7) * (m + cell + 5) = k at b9
    refine ws_ret (we_op2 (we_op2 (we_var rfl (we_op2 (we_var rfl (we_cst (s_add ?_)))))))
    refine s_mul (mulOk_of b9 (b9.add ((Bits.lt (B := 16) (x := 48271) (by decide) (by decide)).mono (by omega))) (by omega)) ?_
    exact we_cst (s_fdiv (j := 1009) (by decide) (by decide) ⟨rfl, _, rfl⟩)
theorem law_copied_ok {a b : Nat} {rs : List V} {A : Air} {h : Hs} (hA : AirIn h a b rs A) : WF PR 37 [.ref a] h fun v h' => v = .ref (h.length + 1) ∧ Keep h h' ∧ AirIn h' (h.length + 1) h.length rs A ∧ h'.length = h.length + 2 := by
  refine wf_call (fd := fd__law_copied) rfl rfl ?_
  refine ws_ret (we_tup (wl_cons ?_))
  repeat trivial
  refine s_idxT hA.top rfl ?_
  repeat trivial
  refine s_idxT hA.top rfl ?_
  repeat trivial
  refine list_lst hA.lst ?_
  refine wl_nil ⟨sz2 (by rfl), ?_⟩
  have e : (h ++ [O.lst rs]).length = h.length + 1 := by simp
  have k : Keep h ((h ++ [O.lst rs]) ++ [O.tup [.int A.n, .ref h.length]]) := Keep.push.trans Keep.push
  refine ⟨by rw [e], k, ⟨?_, ?_, hA.all.imp fun _ _ x => x.keep k⟩, by simp⟩
  · rw [← e]
    exact get_new
  · exact Keep.push.get get_new
def keysD (ks : List Int) : List (Key × V) := ks.map fun k => (Sum.inl k, V.bl true)
theorem law_come_ok {a b : Nat} {rs : List V} {n : Int} {ls : List Lk} {one t : Int} {h : Hs} (hA : AirIn h a b rs ⟨n, ls⟩) (ok : Rg n ls) (h0 : 0 ≤ one) (h1n : one < n) : WF PR 36 [.ref a, .int one, .int t] h fun v h' => Keep h h' ∧ ∃ (f : Nat) (ks : List Int), v = .ref f ∧ h.length ≤ f ∧ h'[f]? = some (.lst (ks.map V.int)) ∧ ks.Nodup ∧ ∀ k, k ∈ ks ↔ Rch ls t one k := by
  have n1 := ok.n1
  have n40 := ok.n40
  have klen : ∀ {ks : List Int}, ks.Nodup → (∀ k ∈ ks, Rch ls t one k) → ks.length ≤ n.toNat := fun nd hr => len_le n.toNat _ nd fun k hk => by
    have := ok.range h0 h1n (hr k hk)
    omega
  refine wf_call (fd := fd__law_come) rfl rfl ?_
  refine ws_seq (ws_par (wl_cons (we_dnew (wl_cons (we_cst (wl_nil ⟨_, rfl, ?_⟩))))))
  refine ws_seq (ws_sub ?_)
  repeat trivial
  have e0 : (h ++ [if false = true then O.dT [] else .dK []])[h.length]? = some (.dK []) := get_new
  refine sub_dK e0 (by decide) ?_
  refine ws_seq (ws_while (fun m s hh => ∃ (ks : List Int) (ag : Bool) (x y z : Option V), s = [some (.ref a), some (.int one), some (.int t), some (.ref h.length), some (.bl ag), x, y, z] ∧ Keep h hh ∧ hh[h.length]? = some (.dK (keysD ks)) ∧ ks.Nodup ∧ one ∈ ks ∧ (∀ k ∈ ks, Rch ls t one k) ∧
    (ag = false → ∀ l ∈ ls, t ≤ l.2.2 → l.1 ∈ ks → l.2.1 ∈ ks) ∧ m = 2 * (n.toNat - ks.length) + ag.toNat) (2 * (n.toNat - 1) + 1) ?_ ?_)
  · refine ⟨[one], true, none, none, none, rfl, Keep.push.set (Nat.le_refl _), get_set (lt_of_get e0), by simp, List.mem_cons_self, fun k hk => ?_, fun z => (nomatch z), rfl⟩
    rw [List.mem_singleton.mp hk]
    exact .refl
  · rintro m s hh ⟨ks, ag, x, y, z, rfl, k, hD, nd, ho, hr, hc, rfl⟩
    refine we_var rfl ⟨ag, rfl, fun e => ?_, fun e => ?_⟩
    · subst e
      have lh : h.length < hh.length := lt_of_get hD
      refine ws_seq (ws_set (we_cst ?_))
      refine ws_for (wi_seq ?_)
      repeat trivial
      refine s_idxT (k.get hA.top) rfl ⟨b, rs, rfl, lstAt_of (k.get hA.lst), ?_⟩
      refine ⟨fun i s hh => ∃ (ks' : List Int) (ag : Bool) (x y z : Option V), s = [some (.ref a), some (.int one), some (.int t), some (.ref h.length), some (.bl ag), x, y, z] ∧ Keep h hh ∧ hh[h.length]? = some (.dK (keysD ks')) ∧ ks'.Nodup ∧ one ∈ ks' ∧ (∀ k ∈ ks', Rch ls t one k) ∧
        (ag = true → ks.length < ks'.length) ∧ (ag = false → ks' = ks ∧ ∀ l ∈ ls.take i, t ≤ l.2.2 → l.1 ∈ ks → l.2.1 ∈ ks), ls.length, ?_, ?_, ?_⟩
      · exact ⟨ks, false, x, y, z, rfl, k, hD, nd, ho, hr, fun z => (nomatch z), fun _ => ⟨rfl, fun l hl => (nomatch hl)⟩⟩
      · clear hD k lh
        rintro i s hh hi ⟨ks', ag, x, y, z, rfl, k, hD, nd', ho', hr', hT, hF⟩
        obtain ⟨r, er, c, rfl, ec⟩ := hA.all.at_ (List.getElem?_eq_getElem hi)
        generalize el : ls[i] = l at ec
        have elm : l ∈ ls := by rw [← el]; exact List.getElem_mem hi
        have etk : ls.take (i + 1) = ls.take i ++ [l] := by rw [List.take_succ, List.getElem?_eq_getElem hi, el]; rfl
        have lk := klen nd' hr'
        refine ⟨.ref c, hh, _, it_seq (k.get hA.lst) er, bind_tup (k.get ec), ?_⟩
        have same : (ag = false → (t ≤ l.2.2 → l.1 ∈ ks → l.2.1 ∈ ks)) → WS PR .pass [some (.ref a), some (.int one), some (.int t), some (.ref h.length), some (.bl ag), some (.int l.1), some (.int l.2.1), some (.int l.2.2)] hh fun r h2 => match r with
            | .nx s => ∃ (ks' : List Int) (ag : Bool) (x y z : Option V), s = [some (.ref a), some (.int one), some (.int t), some (.ref h.length), some (.bl ag), x, y, z] ∧ Keep h h2 ∧ h2[h.length]? = some (.dK (keysD ks')) ∧ ks'.Nodup ∧ one ∈ ks' ∧ (∀ k ∈ ks', Rch ls t one k) ∧
                (ag = true → ks.length < ks'.length) ∧ (ag = false → ks' = ks ∧ ∀ l ∈ ls.take (i + 1), t ≤ l.2.2 → l.1 ∈ ks → l.2.1 ∈ ks)
            | .rt v => False := fun hl => by
          refine ws_pass ⟨ks', ag, _, _, _, rfl, k, hD, nd', ho', hr', hT, fun ea => ⟨(hF ea).1, fun l' hl' => ?_⟩⟩
          rw [etk] at hl'
          rcases List.mem_append.mp hl' with hl' | hl'
          · exact (hF ea).2 l' hl'
          · rw [List.mem_singleton.mp hl']
            exact hl ea
        have fin : ∀ {Q : Rs → Hs → Prop} {st : Stm} {s : Sts} {hh : Hs}, (WS PR st s hh fun r h2 => match r with
            | .nx s => ∃ (ks' : List Int) (ag : Bool) (x y z : Option V), s = [some (.ref a), some (.int one), some (.int t), some (.ref h.length), some (.bl ag), x, y, z] ∧ Keep h h2 ∧ h2[h.length]? = some (.dK (keysD ks')) ∧ ks'.Nodup ∧ one ∈ ks' ∧ (∀ k ∈ ks', Rch ls t one k) ∧
                (ag = true → ks.length < ks'.length) ∧ (ag = false → ks' = ks ∧ ∀ l ∈ ls.take (i + 1), t ≤ l.2.2 → l.1 ∈ ks → l.2.1 ∈ ks)
            | .rt v => False) → (∀ r h2, (match r with
            | .nx s => ∃ (ks' : List Int) (ag : Bool) (x y z : Option V), s = [some (.ref a), some (.int one), some (.int t), some (.ref h.length), some (.bl ag), x, y, z] ∧ Keep h h2 ∧ h2[h.length]? = some (.dK (keysD ks')) ∧ ks'.Nodup ∧ one ∈ ks' ∧ (∀ k ∈ ks', Rch ls t one k) ∧
                (ag = true → ks.length < ks'.length) ∧ (ag = false → ks' = ks ∧ ∀ l ∈ ls.take (i + 1), t ≤ l.2.2 → l.1 ∈ ks → l.2.1 ∈ ks)
            | .rt v => False) → Q r h2) → WS PR st s hh Q := fun w i => w.imp i
        refine fin (Q := _) ?_ (fun r h2 q => ?_)
        rotate_left
        · cases r with
          | nx s => exact q
          | rt v => exact False.elim q
        refine ws_if (we_and ?_)
        repeat trivial
        refine dec (fun hq => we_and ?_) fun hq => no (same fun _ z => absurd z hq)
        repeat trivial
        refine s_inK hD ?_
        unfold keysD
        rw [keys_some]
        refine dec (fun h1 => ?_) fun h1 => no (same fun ea _ z => absurd ((hF ea).1 ▸ z) h1)
        repeat trivial
        refine s_notinK hD ?_
        unfold keysD
        rw [keys_some]
        refine ndec (fun h2 => ?_) fun h2 => same fun ea _ _ => (hF ea).1 ▸ h2
        refine ws_seq (ws_sub ?_)
        repeat trivial
        refine sub_dK hD (by unfold keysD; rw [List.length_map]; unfold SZ; omega) ?_
        have lD : h.length < hh.length := lt_of_get hD
        have enew : putK (keysD ks') (.inl l.2.1) (.bl true) = keysD (ks' ++ [l.2.1]) := by
          rw [Ck.putK_new (by unfold keysD; rw [keys_some]; exact decide_eq_false h2)]
          unfold keysD
          rw [List.map_append]
          rfl
        have edge : l.2.1 ∈ hdL ls t l.1 := mem_hdL.mpr ⟨l.2.2, elm, hq⟩
        have grow : ks.length ≤ ks'.length := by
          cases ag with
          | true => exact Nat.le_of_lt (hT rfl)
          | false => rw [(hF rfl).1]; exact Nat.le_refl _
        refine ws_set (we_cst ⟨ks' ++ [l.2.1], true, _, _, _, rfl, k.set (Nat.le_refl _), ?_, ?_, List.mem_append_left _ ho', fun j hj => ?_, fun _ => ?_, fun z => (nomatch z)⟩)
        · rw [get_set lD, enew]
          rfl
        · refine List.nodup_append.mpr ⟨nd', by simp, fun u hu v hv => ?_⟩
          rw [List.mem_singleton.mp hv]
          exact fun e => h2 (e ▸ hu)
        · rcases List.mem_append.mp hj with hj | hj
          · exact hr' j hj
          · rw [List.mem_singleton.mp hj]
            exact .step (hr' _ h1) edge
        · rw [List.length_append, List.length_singleton]
          omega
      · rintro s hh ⟨ks', ag, x, y, z, rfl, k, hD, nd', ho', hr', hT, hF⟩
        refine ⟨it_seq_end (k.get hA.lst) (Nat.le_of_eq hA.all.len), ?_⟩
        have lk := klen nd' hr'
        refine ⟨2 * (n.toNat - ks'.length) + ag.toNat, ?_, ks', ag, x, y, z, rfl, k, hD, nd', ho', hr', fun ea => ?_, rfl⟩
        · cases ag with
          | true =>
            have := hT rfl
            show 2 * (n.toNat - ks'.length) + 1 < 2 * (n.toNat - ks.length) + 1
            omega
          | false =>
            rw [(hF rfl).1]
            exact Nat.lt_succ_self _
        · have := (hF ea).2
          rw [List.take_length] at this
          rw [(hF ea).1]
          exact this
    · subst e
      refine ws_ret (we_bf (wl_cons (we_var rfl (wl_nil (list_dK hD ?_)))))
      have lD : h.length ≤ hh.length := k.le
      refine ⟨k.trans Keep.push, hh.length, ks, rfl, lD, ?_, nd, fun j => ⟨hr j, fun r => ?_⟩⟩
      · rw [get_new]
        unfold keysD
        rw [List.map_map]
        rfl
      · induction r with
        | refl => exact ho
        | step r e ih =>
          obtain ⟨q, hm, hq⟩ := mem_hdL.mp e
          exact hc rfl _ hm hq ih
end T05
namespace T05
open PySem L2 Ck
local macro_rules | `(tactic| trivial) => `(tactic| first | refine we_var rfl ?_ | refine we_cst ?_ | refine we_op2 ?_ | refine we_isi ?_ | refine we_call ?_ | refine we_bf ?_ | refine we_slice ?_ | refine we_chain ?_ | refine we_not ?_ | refine we_neg ?_ | refine wl_cons ?_ | refine wl_nil ?_ | refine s_add ?_ | refine s_sub ?_ | refine s_le ?_ | refine s_lt ?_ | refine s_gt ?_ | refine s_ge ?_ | refine s_eqI ?_ | refine s_neI ?_ | refine ws_ret ?_ | refine ws_set ?_ | refine ws_expr ?_ | refine ws_if ?_ | refine ws_seq ?_ | refine ws_pass ?_)
theorem LinkAt.set {h : Hs} {a : Nat} {o o' : O} {r : V} {l : Lk} (x : LinkAt h r l) (ea : h[a]? = some o) (n : isTup o = false) : LinkAt (h.set a o') r l := let ⟨c, e, q⟩ := x; ⟨c, e, tup_set q ea n⟩
theorem atI_last {A : Type} {xs : List A} {x : A} : atI (xs ++ [x]) (-1) = some x := by
  unfold atI ixN
  rw [if_neg (by decide), if_pos (by rw [List.length_append, List.length_singleton]; omega)]
  show (xs ++ [x])[((-1 : Int) + ((xs ++ [x]).length : Nat)).toNat]? = some x
  have : ((-1 : Int) + ((xs ++ [x]).length : Nat)).toNat = xs.length := by
    rw [List.length_append, List.length_singleton]
    omega
  rw [this, List.getElem?_append_right (Nat.le_refl _), Nat.sub_self]
  rfl
open Classical in
theorem law_groups_ok {a b : Nat} {rs : List V} {A : Air} {t : Int} {h : Hs} (hA : AirIn h a b rs A) (ok : A.Ok) : WF PR 45 [.ref a, .int t] h fun v h' => Keep h h' ∧ ∃ (f : Nat) (gv : List V), v = .ref f ∧ h.length ≤ f ∧ h'[f]? = some (.lst gv) ∧ All2 (IntsG (f + 1) h') gv (gs A.ls t A.n.toNat) := by
  have n1 := ok.n1
  have n40 := ok.n40
  have few := ok.few
  have rg := ok.rg
  refine wf_call (fd := fd__law_groups) rfl rfl ?_
  refine ws_seq (ws_set (we_tup (wl_cons ?_)))
  repeat trivial
  refine s_idxT hA.top rfl ?_
  refine wl_cons (we_comp (wi_seq ?_))
  repeat trivial
  refine s_idxT hA.top rfl ⟨b, rs, rfl, lstAt_of hA.lst, ?_⟩
  refine ⟨fun i acc hh => Keep h hh ∧ All2 (LinkAt hh) acc (back (A.ls.take i)), A.ls.length, ⟨Keep.push, trivial⟩, ?_, ?_⟩
  · rintro i acc hh hi ⟨k, al⟩ hD
    have ll := al.len
    have ll2 : (back (A.ls.take i)).length ≤ 120 := by
      unfold back
      rw [List.length_map, List.length_take]
      omega
    refine ⟨by unfold SZ; omega, ?_⟩
    obtain ⟨r, er, c, rfl, ec⟩ := hA.all.at_ (List.getElem?_eq_getElem hi)
    generalize el : A.ls[i] = l at ec
    have etk : A.ls.take (i + 1) = A.ls.take i ++ [l] := by rw [List.take_succ, List.getElem?_eq_getElem hi, el]; rfl
    refine ⟨.ref c, hh, _, it_seq (k.get hA.lst) er, bind_tup (k.get ec), we_cst (yes ?_)⟩
    refine we_tup ?_
    repeat trivial
    show 3 ≤ SZ ∧ _
    have hD2 : (hh ++ [O.tup [.int l.2.1, .int l.1, .int l.2.2]])[h.length]? = some (.lst acc) := Keep.push.get hD
    refine ⟨by decide, hD2, (k.trans Keep.push).set (Nat.le_refl _), ?_⟩
    rw [etk]
    unfold back
    rw [List.map_append]
    refine All2.push (al.imp fun r l x => LinkAt.set (x.keep Keep.push) hD2 rfl) ⟨hh.length, rfl, tup_set get_new hD2 rfl⟩
  · rintro ts h1 ⟨k1, al⟩ hD
    refine ⟨it_seq_end (k1.get hA.lst) (Nat.le_of_eq hA.all.len), ?_⟩
    rw [List.take_length] at al
    refine wl_nil ⟨sz2 (by rfl), ?_⟩
    have kq : Keep h1 (h1 ++ [O.tup [.int A.n, .ref h.length]]) := Keep.push
    have hB : AirIn (h1 ++ [O.tup [.int A.n, .ref h.length]]) h1.length h.length ts ⟨A.n, back A.ls⟩ := ⟨get_new, kq.get hD, al.imp fun _ _ x => x.keep kq⟩
    have hA2 : AirIn (h1 ++ [O.tup [.int A.n, .ref h.length]]) a b rs A := hA.keep (k1.trans kq)
    have ll1 : h.length ≤ h1.length := k1.le
    generalize eh2 : h1 ++ [O.tup [.int A.n, .ref h.length]] = h2 at hB hA2 kq
    have ll2 : h2.length = h1.length + 1 := by rw [← eh2]; simp
    clear eh2 hD al
    refine ws_seq (ws_par (wl_cons (we_lst (wl_nil ⟨sz2 (by rfl), wl_cons (we_lst (wl_nil ⟨sz2 (by rfl), wl_nil ⟨_, rfl, ?_⟩⟩))⟩))))
    have lF : (h2 ++ [O.lst []]).length = h2.length + 1 := by simp
    have k3 : Keep h2 (h2 ++ [O.lst []] ++ [O.lst []]) := Keep.push.trans Keep.push
    have eF : (h2 ++ [O.lst []] ++ [O.lst []])[h2.length]? = some (.lst []) := Keep.push.get get_new
    have eN : (h2 ++ [O.lst []] ++ [O.lst []])[h2.length + 1]? = some (.lst []) := by rw [← lF]; exact get_new
    rw [lF]
    generalize h2 ++ [O.lst []] ++ [O.lst []] = h3 at k3 eF eN
    refine ws_seq (ws_for (wi_rng1 ?_))
    repeat trivial
    refine s_idxT (hA2.keep k3).top rfl ⟨A.n, rfl, by omega, by omega, ?_⟩
    refine ⟨fun i s hh => ∃ (x y z : Option V) (gv : List V) (dn : Nat), s = [some (.ref a), some (.int t), some (.ref h1.length), x, some (.ref h2.length), some (.ref dn), y, z, none, none, none] ∧ Keep h2 hh ∧ h2.length < dn ∧ hh[h2.length]? = some (.lst gv) ∧
      hh[dn]? = some (.lst ((gsTo A.ls t A.n.toNat i).2.map V.int)) ∧ All2 (IntsG (h2.length + 1) hh) gv (gsTo A.ls t A.n.toNat i).1, A.n.toNat, ?_, ?_, ?_⟩
    · exact ⟨none, none, none, [], h2.length + 1, rfl, k3, by omega, eF, eN, trivial⟩
    · rintro i s hh hi ⟨x, y, z, gv, dn, rfl, k, ldn, hF, hN, hG⟩
      refine ⟨.int i, hh, _, it_rng hi, rfl, ?_⟩
      refine ws_if ?_
      repeat trivial
      refine s_notinL hN (ndec (fun hn => ?_) fun hy => ?_)
      · have gl := hG.len
        obtain ⟨g1, g2⟩ := gsTo_len (ls := A.ls) (t := t) (n := A.n.toNat) i
        have g3 : i * A.n.toNat ≤ 40 * 40 := Nat.mul_le_mul (by omega) (by omega)
        refine ws_seq (ws_asg (we_tup ?_))
        repeat trivial
        refine (law_come_ok (t := t) (show AirIn hh a b rs ⟨A.n, A.ls⟩ from hA2.keep k) rg (by omega) (by omega)).imp fun v h4 ⟨k4, f1, ks1, ev, lf1, e1, nd1, m1⟩ => ?_
        subst ev
        repeat trivial
        refine (law_come_ok (t := t) (hB.keep (k.trans k4)) rg.back (by show (0 : Int) ≤ i; omega) (by show (i : Int) < A.n; omega)).imp fun v h5 ⟨k5, f2, ks2, ev, lf2, e2, nd2, m2⟩ => ?_
        subst ev
        refine wl_nil ⟨sz2 (by rfl), _, bind_tup get_new, ?_⟩
        have k6 : Keep hh (h5 ++ [O.tup [.ref f1, .ref f2]]) := (k4.trans k5).trans Keep.push
        have f1e : (h5 ++ [O.tup [.ref f1, .ref f2]])[f1]? = some (.lst (ks1.map V.int)) := Keep.push.get (k5.get e1)
        have f2e : (h5 ++ [O.tup [.ref f1, .ref f2]])[f2]? = some (.lst (ks2.map V.int)) := Keep.push.get e2
        generalize h5 ++ [O.tup [.ref f1, .ref f2]] = h6 at k6 f1e f2e
        have kl1 : ks1.length ≤ 40 := Nat.le_trans (len_le A.n.toNat ks1 nd1 fun o ho => by
          have := rg.range (by omega) (by omega) ((m1 o).mp ho)
          omega) (by omega)
        have hF6 := k6.get hF
        refine ws_seq (ws_expr (we_bm ?_))
        repeat trivial
        refine ⟨bm_isL hF6 (fun z => nomatch z), ?_⟩
        repeat trivial
        refine we_comp (wi_seq ?_)
        repeat trivial
        refine ⟨f1, _, rfl, lstAt_of f1e, ?_⟩
        refine ⟨fun j acc h7 => Keep h6 h7 ∧ acc = ((ks1.take j).filter fun o => decide (o ∈ ks2)).map V.int, ks1.length, ⟨Keep.push, rfl⟩, ?_, ?_⟩
        · rintro j acc h7 hj ⟨k7, rfl⟩ hX
          have fl : ((ks1.take j).filter fun o => decide (o ∈ ks2)).length ≤ 40 := Nat.le_trans (List.length_filter_le _ _) (by rw [List.length_take]; omega)
          refine ⟨by rw [List.length_map]; unfold SZ; omega, ?_⟩
          obtain ⟨o, eo⟩ : ∃ o, ks1[j]? = some o := ⟨_, List.getElem?_eq_getElem hj⟩
          have etk : ks1.take (j + 1) = ks1.take j ++ [o] := by rw [List.take_succ, eo]; rfl
          refine ⟨.int o, h7, _, it_seq (k7.get f1e) (by rw [List.getElem?_map, eo]; rfl), rfl, ?_⟩
          repeat trivial
          refine s_inL (k7.get f2e) (dec (fun hin => ?_) fun hin => ?_)
          · refine we_var rfl ⟨hX, k7.set (Nat.le_refl _), ?_⟩
            rw [etk, List.filter_append, List.map_append]
            simp [List.filter, hin]
          · refine ⟨hX, k7, ?_⟩
            rw [etk, List.filter_append, List.map_append]
            simp [List.filter, hin]
        · rintro acc h7 ⟨k7, rfl⟩ hX
          refine ⟨it_seq_end (k7.get f1e) (by rw [List.length_map]; exact Nat.le_refl _), ?_⟩
          rw [List.take_length] at hX
          refine wl_nil (sorted_ints hX ?_)
          have eg : isort (fun i j => decide (i ≤ j)) (ks1.filter fun o => decide (o ∈ ks2)) = grp A.ls t A.n.toNat i := by
            refine grp_uniq (isort_lt (nd1.sublist List.filter_sublist)) fun o => ?_
            rw [(isort_perm _).mem_iff, List.mem_filter, m1 o, decide_eq_true_eq, m2 o, rch_back]
            refine ⟨fun ⟨u1, u2⟩ => ⟨?_, u1, u2⟩, fun ⟨_, u1, u2⟩ => ⟨u1, u2⟩⟩
            have := rg.range (by omega) (by omega) u1
            omega
          rw [eg]
          have kp : Keep hh (h7 ++ [O.lst ((grp A.ls t A.n.toNat i).map V.int)]) := (k6.trans k7).trans Keep.push
          have hF2 := kp.get hF
          have hN2 := kp.get hN
          have ll7 : hh.length ≤ h7.length := (k6.trans k7).le
          have llF : h2.length < hh.length := lt_of_get hF
          refine wl_nil (bm_app hF2 (by rw [gl]; unfold SZ; omega) ?_)
          have hF3 : ((h7 ++ [O.lst ((grp A.ls t A.n.toNat i).map V.int)]).set h2.length (.lst (gv ++ [.ref h7.length])))[h2.length]? = some (.lst (gv ++ [.ref h7.length])) := get_set (lt_of_get hF2)
          have hN3 : ((h7 ++ [O.lst ((grp A.ls t A.n.toNat i).map V.int)]).set h2.length (.lst (gv ++ [.ref h7.length])))[dn]? = some (.lst ((gsTo A.ls t A.n.toNat i).2.map V.int)) := by
            rw [get_set_ne (by omega)]
            exact hN2
          have hG3 : ((h7 ++ [O.lst ((grp A.ls t A.n.toNat i).map V.int)]).set h2.length (.lst (gv ++ [.ref h7.length])))[h7.length]? = some (.lst ((grp A.ls t A.n.toNat i).map V.int)) := by
            rw [get_set_ne (by omega)]
            exact get_new
          have k8 : Keep h2 ((h7 ++ [O.lst ((grp A.ls t A.n.toNat i).map V.int)]).set h2.length (.lst (gv ++ [.ref h7.length]))) := (k.trans kp).set (Nat.le_refl _)
          have l8 : ((h7 ++ [O.lst ((grp A.ls t A.n.toNat i).map V.int)]).set h2.length (.lst (gv ++ [.ref h7.length]))).length = h7.length + 1 := by simp
          have hG8 : All2 (IntsG (h2.length + 1) ((h7 ++ [O.lst ((grp A.ls t A.n.toNat i).map V.int)]).set h2.length (.lst (gv ++ [.ref h7.length])))) gv (gsTo A.ls t A.n.toNat i).1 := hG.imp fun r ns x => (x.keep kp).set (by omega)
          generalize (h7 ++ [O.lst ((grp A.ls t A.n.toNat i).map V.int)]).set h2.length (.lst (gv ++ [.ref h7.length])) = h8 at hF3 hN3 hG3 k8 l8 hG8
          refine ws_set (we_op2 (we_var rfl (we_op2 (we_var rfl (we_neg (we_cst ⟨1, rfl, ?_⟩))))))
          refine s_idxL hF3 atI_last ?_
          have gl2 := grp_len (ls := A.ls) (t := t) (n := A.n.toNat) (s := i)
          refine s_cat hN3 hG3 (by rw [List.length_map, List.length_map]; unfold SZ; omega) ?_
          refine ⟨_, _, _, gv ++ [.ref h7.length], h8.length, rfl, k8.trans Keep.push, by omega, Keep.push.get hF3, ?_, ?_⟩
          · rw [gsTo_out hn, get_new, List.map_append]
          · rw [gsTo_out hn]
            exact All2.push (hG8.imp fun r ns x => x.keep Keep.push) ⟨h7.length, rfl, by omega, Keep.push.get hG3⟩
      · refine ws_pass ⟨_, _, _, gv, dn, rfl, k, ldn, hF, ?_, ?_⟩
        · rw [gsTo_in hy]
          exact hN
        · rw [gsTo_in hy]
          exact hG
    · rintro s hh ⟨x, y, z, gv, dn, rfl, k, ldn, hF, hN, hG⟩
      refine ⟨it_rng_end, ?_⟩
      exact ws_ret (we_var rfl ⟨(k1.trans kq).trans k, h2.length, gv, rfl, by omega, hF, hG⟩)
end T05
/-! Ck21: links in a dict by pairs; their order; the lock. -/
namespace Ck
open PySem L2
theorem bits_of {z : Int} (h : Builtin.Int.intBits z ≤ 1048576) : Bits 1048576 z := by
  generalize 1048576 = B at h
  unfold Builtin.Int.intBits at h
  unfold Bits
  by_cases e : z = 0
  · subst e
    exact Nat.two_pow_pos B
  · have e2 : (z == 0) = false := beq_eq_false_iff_ne.mpr e
    rw [e2] at h
    have h : z.natAbs.log2 + 1 ≤ B := h
    exact (Nat.log2_lt (by omega)).mp h
theorem bits_sum {B : Nat} : ∀ {ns : List Int}, (∀ z ∈ ns, Bits B z) → ns.sum.natAbs ≤ ns.length * 2 ^ B
  | [], _ => by simp
  | n :: ns, h => by
    have ih := bits_sum (B := B) (ns := ns) fun z hz => h z (List.mem_cons_of_mem _ hz)
    have hn : n.natAbs < 2 ^ B := h n List.mem_cons_self
    rw [List.sum_cons, List.length_cons, Nat.succ_mul]
    have := Int.natAbs_add_le n ns.sum
    omega
theorem bits_sum63 {B : Nat} {ns : List Int} (h : ∀ z ∈ ns, Bits B z) (l : ns.length ≤ 63) : Bits (B + 6) ns.sum := by
  have h1 := bits_sum h
  unfold Bits
  have h2 : ns.length * 2 ^ B ≤ 63 * 2 ^ B := Nat.mul_le_mul_right _ l
  have h3 : 2 ^ (B + 6) = 64 * 2 ^ B := by rw [Nat.pow_add, Nat.mul_comm]
  have h4 : 0 < 2 ^ B := Nat.two_pow_pos B
  rw [h3]
  omega
theorem sum_ints {h : Hs} {a : Nat} {ns : List Int} {Q : V → Hs → Prop} (e : h[a]? = some (.lst (ns.map V.int))) (q : Q (.int ns.sum) h) : (bfP .sum [.ref a] h).sat Q := by
  have : bfInts (fun ns => some (.int ns.sum)) [.ref a] h = .ok (.int ns.sum) h := by
    unfold bfInts
    simp only [lstAt_of e, Option.bind_some, intsOf_map]
    rfl
  show R.sat (bfInts (fun ns => some (.int ns.sum)) [.ref a] h) Q
  rw [this]
  exact q
/-! ### a dict by pairs -/
def DT (es : List Lk) : List (List Key × V) := es.map fun l => ([.inl l.1, .inl l.2.1], .int l.2.2)
def kk (l : Lk) : Int × Int := (l.1, l.2.1)
theorem putDT {es : List Lk} {x y q : Int} {n : Int} (nd : (es.map kk).Nodup) (ok : ∀ l ∈ es, okL n l) (okn : okL n (x, y, q)) : ∃ es', putK (DT es) [.inl x, .inl y] (.int q) = DT es' ∧ (es'.map kk).Nodup ∧ (∀ l ∈ es', okL n l) ∧ es'.length ≤ es.length + 1 := by
  unfold putK
  by_cases ha : ((DT es).any fun kv => decide (kv.1 = [Sum.inl x, Sum.inl y])) = true
  · rw [if_pos ha]
    refine ⟨es.map fun l => if l.1 = x ∧ l.2.1 = y then (x, y, q) else l, ?_, ?_, ?_, ?_⟩
    · unfold DT
      rw [List.map_map, List.map_map]
      refine List.map_congr_left fun l _ => ?_
      show (if ([Sum.inl l.1, Sum.inl l.2.1] : List Key) = [Sum.inl x, Sum.inl y] then _ else _) = _
      by_cases hl : l.1 = x ∧ l.2.1 = y
      · rw [if_pos (by rw [hl.1, hl.2])]
        show _ = (([Sum.inl (if l.1 = x ∧ l.2.1 = y then (x, y, q) else l).1, Sum.inl (if l.1 = x ∧ l.2.1 = y then (x, y, q) else l).2.1] : List Key), V.int (if l.1 = x ∧ l.2.1 = y then (x, y, q) else l).2.2)
        rw [if_pos hl]
        show (([Sum.inl l.1, Sum.inl l.2.1] : List Key), V.int q) = (([Sum.inl x, Sum.inl y] : List Key), V.int q)
        rw [hl.1, hl.2]
      · rw [if_neg (by
          intro z
          injection z with z1 z2
          injection z2 with z2 _
          exact hl ⟨Sum.inl.inj z1, Sum.inl.inj z2⟩)]
        show _ = (([Sum.inl (if l.1 = x ∧ l.2.1 = y then (x, y, q) else l).1, Sum.inl (if l.1 = x ∧ l.2.1 = y then (x, y, q) else l).2.1] : List Key), V.int (if l.1 = x ∧ l.2.1 = y then (x, y, q) else l).2.2)
        rw [if_neg hl]
    · have : (es.map fun l => if l.1 = x ∧ l.2.1 = y then (x, y, q) else l).map kk = es.map kk := by
        rw [List.map_map]
        refine List.map_congr_left fun l _ => ?_
        show kk (if l.1 = x ∧ l.2.1 = y then (x, y, q) else l) = kk l
        split
        · rename_i hl
          unfold kk
          rw [hl.1, hl.2]
        · rfl
      rw [this]
      exact nd
    · intro l hl
      obtain ⟨m, hm, rfl⟩ := List.mem_map.mp hl
      split
      · exact okn
      · exact ok m hm
    · rw [List.length_map]
      omega
  · rw [if_neg ha]
    refine ⟨es ++ [(x, y, q)], ?_, ?_, ?_, ?_⟩
    · unfold DT
      rw [List.map_append]
      rfl
    · rw [List.map_append]
      refine List.nodup_append.mpr ⟨nd, by simp, fun u hu v hv => ?_⟩
      obtain ⟨m, hm, rfl⟩ := List.mem_map.mp hu
      have : v = (x, y) := by simpa [kk] using hv
      subst this
      intro e
      apply ha
      rw [List.any_eq_true]
      refine ⟨([.inl m.1, .inl m.2.1], .int m.2.2), List.mem_map.mpr ⟨m, hm, rfl⟩, decide_eq_true ?_⟩
      have e1 : m.1 = x := congrArg Prod.fst e
      have e2 : m.2.1 = y := congrArg Prod.snd e
      show ([Sum.inl m.1, Sum.inl m.2.1] : List Key) = _
      rw [e1, e2]
    · intro l hl
      rcases List.mem_append.mp hl with hl | hl
      · exact ok l hl
      · rw [List.mem_singleton.mp hl]
        exact okn
    · rw [List.length_append, List.length_singleton]
      exact Nat.le_refl _
theorem tkey_two {h : Hs} {b : Nat} {x y : Int} (e : h[b]? = some (.tup [.int x, .int y])) : tkey h (.ref b) = some [.inl x, .inl y] := by
  unfold tkey tupAt
  simp only [e]
  rfl
theorem sub_dT {h : Hs} {a b : Nat} {kvs : List (List Key × V)} {x y : Int} {v : V} {Q : Unit → Hs → Prop} (e : h[a]? = some (.dT kvs)) (eb : h[b]? = some (.tup [.int x, .int y])) (l : kvs.length < SZ) (q : Q () (h.set a (.dT (putK kvs [.inl x, .inl y] v)))) : (subP (.ref a) (.ref b) v h).sat Q := by
  unfold subP
  simp only [e, tkey_two eb]
  rw [if_pos l]
  exact q
theorem valDT {es : List Lk} : ∀ {i : Nat} {l : Lk}, (es.map kk).Nodup → es[i]? = some l → valV (DT es) [.inl l.1, .inl l.2.1] = some (.int l.2.2) := by
  induction es with
  | nil => intro i l _ e; cases e
  | cons m es ih =>
    intro i l nd e
    rw [List.map_cons] at nd
    obtain ⟨nd1, nd2⟩ := List.nodup_cons.mp nd
    cases i with
    | zero =>
      cases e
      exact valV_pos rfl
    | succ i =>
      have e : es[i]? = some l := e
      refine (valV_neg ?_).trans (ih nd2 e)
      intro z
      injection z with z1 z2
      injection z2 with z2 _
      apply nd1
      have : kk m = kk l := by unfold kk; rw [Sum.inl.inj z1, Sum.inl.inj z2]
      rw [this]
      exact List.mem_map.mpr ⟨l, List.mem_of_getElem? e, rfl⟩
theorem s_idxLk {h : Hs} {a b : Nat} {kvs : List (List Key × V)} {x y : Int} {v : V} {Q : V → Hs → Prop} (e : h[a]? = some (.lkT kvs)) (eb : h[b]? = some (.tup [.int x, .int y])) (ev : valV kvs [.inl x, .inl y] = some v) (q : Q v h) : (prim2 .idx (.ref a) (.ref b) h).sat Q := by
  refine s_idx ?_ q
  unfold opIdx
  simp only [e]
  unfold dget
  simp only [e, tkey_two eb]
  show (valV kvs [.inl x, .inl y]) = some v
  exact ev
/-! ### the lock -/
theorem we_lock {P : Prog} {s : Sts} {h : Hs} {Q : V → Hs → Prop} {i a : Nat} {kvs : List (List Key × V)} {x : Ex} (hs : s[i]? = some (some (.ref a))) (e : h[a]? = some (.dT kvs)) (w : WE P x s (h.set a (.lkT kvs)) fun v h' => h'[a]? = some (.lkT kvs) ∧ Q v (h'.set a (.dT kvs))) : WE P (.lock (.var i) x) s h Q := by
  obtain ⟨v, h', ⟨N, hN⟩, e2, q⟩ := w
  refine ⟨v, h'.set a (.dT kvs), ⟨N + 2, fun n hn => ?_⟩, q⟩
  obtain ⟨m, rfl⟩ : ∃ m, n = m + 2 := ⟨n - 2, by omega⟩
  have e1 : (evs P (m + 1)).e (.var i) s h = .ok (.ref a) h := by
    show (match s[i]? with | some (some v) => Ck.R.ok v h | _ => .no) = _
    rw [hs]
  show ((evs P (m + 1)).e (.var i) s h).bind _ = _
  rw [e1]
  show (match h[a]? with
      | some (.dT kvs) => ((evs P (m + 1)).e x s (h.set a (.lkT kvs))).noex.bind fun v h => match h[a]? with
        | some (.lkT kvs') => if kvs' = kvs then .ok v (h.set a (.dT kvs)) else .no
        | _ => .no
      | _ => .no : Ck.R V) = _
  rw [e]
  show ((evs P (m + 1)).e x s (h.set a (.lkT kvs))).noex.bind _ = _
  rw [hN (m + 1) (by omega)]
  show (match h'[a]? with
        | some (.lkT kvs') => if kvs' = kvs then .ok v (h'.set a (.dT kvs)) else .no
        | _ => .no : Ck.R V) = _
  rw [e2]
  show (if kvs = kvs then _ else _) = _
  rw [if_pos rfl]
theorem wi_dict {P : Prog} {s : Sts} {h : Hs} {Qi : ItD → Hs → Prop} {x : Ex} (w : WE P x s h fun v h => ∃ a kvs, v = .ref a ∧ h[a]? = some (.lkT kvs) ∧ Qi (.dict a kvs) h) : WI P (.dict x) s h Qi := Ru.bind (f := fun n v h => match v with
    | .ref a => match h[a]? with
      | some (.lkT kvs) => Ck.R.ok (ItD.dict a kvs) h
      | _ => .no
    | _ => .no) (w.imp fun v h1 ⟨a, kvs, e, l, q⟩ => by
  subst e
  refine Ru.ret ?_
  dsimp only
  rw [l]
  exact q)
theorem it_dict {h : Hs} {a i : Nat} {kvs : List (List Key × V)} {kv : List Key × V} (e : h[a]? = some (.lkT kvs)) (ei : kvs[i]? = some kv) : itGet (.dict a kvs) i h = .ok (some (.ref h.length)) (h ++ [.tup (kv.1.map kV)]) := by
  unfold itGet
  simp only [e, ei, if_true]
theorem it_dict_end {h : Hs} {a i : Nat} {kvs : List (List Key × V)} (e : h[a]? = some (.lkT kvs)) (l : kvs.length ≤ i) : itGet (.dict a kvs) i h = .ok none h := by
  unfold itGet
  simp only [e, List.getElem?_eq_none l, if_true]
/-! ### the order of the links -/
def encL (l : Lk) : PyData := .tuple ([l.1, l.2.1, l.2.2].map .int)
def leL : Lk → Lk → Bool := PySem.W.dataLe false encL
theorem leL_lt {a b : Lk} (h : leL a b = true) (ne : kk a ≠ kk b) : ltL a b := by
  unfold leL PySem.W.dataLe PySem.W.sortLe encL at h
  simp only [cond_false, List.map_cons, List.map_nil, PySem.W.keyToks, PySem.W.keyToksAll, PyProof.Rows.lexLt, PyProof.Rows.itemLt, List.cons_append, List.nil_append, Int.lt_irrefl, decide_false, Bool.not_false, Bool.false_or, Bool.true_and, Bool.not_eq_true', Bool.or_eq_false_iff, Bool.and_eq_false_iff, decide_eq_false_iff_not, Bool.not_eq_false', decide_eq_true_eq] at h
  unfold ltL
  unfold kk at ne
  have ne2 : ¬ (a.1 = b.1 ∧ a.2.1 = b.2.1) := fun ⟨x, y⟩ => ne (by rw [x, y])
  omega
end Ck
namespace T05
open PySem L2 Ck
local macro_rules | `(tactic| trivial) => `(tactic| first | refine we_var rfl ?_ | refine we_cst ?_ | refine we_op2 ?_ | refine we_isi ?_ | refine we_call ?_ | refine we_bf ?_ | refine we_slice ?_ | refine we_chain ?_ | refine we_not ?_ | refine we_neg ?_ | refine wl_cons ?_ | refine wl_nil ?_ | refine s_add ?_ | refine s_sub ?_ | refine s_le ?_ | refine s_lt ?_ | refine s_gt ?_ | refine s_ge ?_ | refine s_eqI ?_ | refine s_neI ?_ | refine ws_ret ?_ | refine ws_set ?_ | refine ws_expr ?_ | refine ws_if ?_ | refine ws_seq ?_ | refine ws_pass ?_)
theorem tupInts_link {h : Hs} {r : V} {l : Lk} (x : LinkAt h r l) : tupInts h r = some [l.1, l.2.1, l.2.2] := by
  obtain ⟨c, rfl, e⟩ := x
  unfold tupInts tupAt
  simp only [e]
  rfl
def lkOf (h : Hs) (r : V) : Lk := match tupInts h r with
  | some [a, b, c] => (a, b, c)
  | _ => (0, 0, 0)
theorem lkOf_link {h : Hs} {r : V} {l : Lk} (x : LinkAt h r l) : lkOf h r = l := by
  unfold lkOf
  rw [tupInts_link x]
theorem all2_of_map {A B : Type} {R : A → B → Prop} {f : A → B} : ∀ {xs : List A}, (∀ x ∈ xs, R x (f x)) → All2 R xs (xs.map f)
  | [], _ => trivial
  | x :: xs, h => ⟨h x List.mem_cons_self, all2_of_map fun y hy => h y (List.mem_cons_of_mem _ hy)⟩
theorem all2_map_eq {A B : Type} {R : A → B → Prop} {f : A → B} (e : ∀ x y, R x y → f x = y) : ∀ {xs : List A} {ys : List B}, All2 R xs ys → xs.map f = ys
  | [], [], _ => rfl
  | [], _ :: _, h => h.elim
  | _ :: _, [], h => h.elim
  | x :: xs, y :: ys, h => by rw [List.map_cons, e x y h.1, all2_map_eq e h.2]
theorem all2_mem {A B : Type} {R : A → B → Prop} : ∀ {xs : List A} {ys : List B}, All2 R xs ys → ∀ x ∈ xs, ∃ y ∈ ys, R x y
  | [], [], _, x, hx => nomatch hx
  | [], _ :: _, h, _, _ => h.elim
  | _ :: _, [], h, _, _ => h.elim
  | a :: xs, b :: ys, h, x, hx => by
    rcases List.mem_cons.mp hx with rfl | hx
    · exact ⟨b, List.mem_cons_self, h.1⟩
    · obtain ⟨y, hy, r⟩ := all2_mem h.2 x hx
      exact ⟨y, List.mem_cons_of_mem _ hy, r⟩
theorem sorted_links {h : Hs} {a : Nat} {rs : List V} {es : List Lk} {Q : V → Hs → Prop} (e : h[a]? = some (.lst rs)) (al : All2 (LinkAt h) rs es) (q : ∀ rs', All2 (LinkAt h) rs' (es.mergeSort leL) → Q (.ref h.length) (h ++ [.lst rs'])) : (bfP .sorted [.ref a] h).sat Q := by
  cases rs with
  | nil =>
    cases es with
    | cons _ _ => exact al.elim
    | nil =>
      refine sorted_ints (ns := []) e ?_
      have : isort (fun i j : Int => decide (i ≤ j)) [] = [] := List.mergeSort_nil
      rw [this]
      exact q [] (by rw [List.mergeSort_nil]; exact True.intro)
  | cons r rs =>
    have ni : intsOf (r :: rs) = none := by
      cases es with
      | nil => exact al.elim
      | cons l es =>
        obtain ⟨c, rfl, _⟩ := al.1
        unfold intsOf
        rw [List.mapM_cons]
        rfl
    have ht : (r :: rs).all (isTupI h) = true := by
      rw [List.all_eq_true]
      intro x hx
      obtain ⟨l, _, hl⟩ := all2_mem al x hx
      unfold isTupI
      rw [tupInts_link hl]
    have eb : bfSorted [.ref a] h = new h (.lst ((r :: rs).mergeSort (tupLe h))) := by
      unfold bfSorted
      simp only [e, lstAt_of e, ni]
      rw [if_pos ht]
    show R.sat (bfSorted [.ref a] h) Q
    rw [eb]
    refine q _ ?_
    have em : ((r :: rs).mergeSort (tupLe h)).map (lkOf h) = ((r :: rs).map (lkOf h)).mergeSort leL := by
      refine List.map_mergeSort fun x hx y hy => ?_
      obtain ⟨l, _, hl⟩ := all2_mem al x hx
      obtain ⟨m, _, hm⟩ := all2_mem al y hy
      unfold tupLe leL PySem.W.dataLe PySem.W.sortLe encL
      have e1 : tupKey h x = [(lkOf h x).1, (lkOf h x).2.1, (lkOf h x).2.2] := by rw [lkOf_link hl]; unfold tupKey; rw [tupInts_link hl]; rfl
      have e2 : tupKey h y = [(lkOf h y).1, (lkOf h y).2.1, (lkOf h y).2.2] := by rw [lkOf_link hm]; unfold tupKey; rw [tupInts_link hm]; rfl
      simp only [e1, e2]
    rw [all2_map_eq (R := LinkAt h) (fun x y r => lkOf_link r) al] at em
    rw [← em]
    refine all2_of_map fun x hx => ?_
    obtain ⟨l, _, hl⟩ := all2_mem al x (List.mem_mergeSort.mp hx)
    rw [lkOf_link hl]
    exact hl
theorem sorted_up {es : List Lk} (nd : (es.map kk).Nodup) : (es.mergeSort leL).Pairwise ltL := by
  have tot := PySem.W.sortLe_total (PyProof.Rows.listOrd PyProof.Rows.itemOrd) false fun l : Lk => PySem.W.keyToks (encL l)
  have h1 : (es.mergeSort leL).Pairwise fun a b => leL a b = true := List.pairwise_mergeSort (fun a b c => tot.trans a b c) (fun a b => by
    rcases tot.total a b with x | x
    · exact Bool.or_eq_true_iff.mpr (.inl x)
    · exact Bool.or_eq_true_iff.mpr (.inr x)) es
  have h2 : ((es.mergeSort leL).map kk).Nodup := ((List.mergeSort_perm es leL).map kk).nodup_iff.mpr nd
  have h3 : (es.mergeSort leL).Pairwise fun a b => kk a ≠ kk b := List.pairwise_map.mp h2
  exact h1.imp₂ (fun a b x y => leL_lt x y) h3
theorem cells_ok {ns : List Int} {s : Sts} {h : Hs} {Q : V → Hs → Prop} (hs : s[0]? = some (some (.ref 0))) (h0 : h[0]? = some (.rdl (ns.map V.int))) (l63 : ns.length ≤ 63) (B : Nat) (hB : 10 ≤ B) (bits : ∀ z ∈ ns, Bits B z)
    (q : ∀ (cells : List Int) (c : Nat) (h' : Hs), Keep h h' → h'[c]? = some (.lst (cells.map V.int)) → cells ≠ [] → cells.length ≤ 63 → (∀ z ∈ cells, Bits B z) → Q (.ref c) h') :
    Ck.WE PR (.ite (.op2 .ne (.var 0) (.lst .nil)) (.slice (.var 0) none (some (.cst (.int 63)))) (.lst (.cons (.cst (.int 5)) .nil))) s h Q := by
  refine we_ite (we_op2 (we_var hs (we_lst (wl_nil ⟨sz2 (by rfl), ?_⟩))))
  have k1 : Keep h (h ++ [O.lst []]) := Keep.push
  have d0 : dataOf DP (h ++ [O.lst []]) (.ref 0) = some (.list (ns.map .int)) := by
    show (match (h ++ [O.lst []])[0]? with
      | some (.lst xs) => (xs.mapM (dataOf 19 (h ++ [O.lst []]))).map PyData.list
      | some (.rdl xs) => (xs.mapM (dataOf 19 (h ++ [O.lst []]))).map PyData.list
      | some (.tup xs) => (xs.mapM (dataOf 19 (h ++ [O.lst []]))).map PyData.tuple
      | _ => none) = _
    rw [k1.get h0]
    dsimp only
    rw [mapM_all (f := dataOf 19 (h ++ [O.lst []])) (R := fun x y => ∃ i : Int, x = .int i ∧ y = .int i) (fun x y ⟨i, ex, ey⟩ => by rw [ex, ey]; rfl) (ys := ns.map .int) (by
      clear bits l63 h0
      induction ns with
      | nil => trivial
      | cons n ns ih => exact ⟨⟨n, rfl, rfl⟩, ih⟩)]
    rfl
  have d1 : dataOf DP (h ++ [O.lst []]) (.ref h.length) = some (.list ([] : List PyData)) := by
    have := data_ints (h := h ++ [O.lst []]) (n := 18) (a := h.length) (ns := []) get_new
    exact this
  refine s_neD d0 d1 ?_
  cases ns with
  | nil =>
    have : PyData.eqv (.list (([] : List Int).map .int)) (.list []) = true := by rw [PyData.eqv, List.map_nil, PyData.eqvAll]
    rw [this]
    refine no (we_lst (wl_cons (we_cst (wl_nil ⟨sz2 (by rfl), ?_⟩))))
    refine q [5] _ _ (k1.trans Keep.push) get_new (fun z => nomatch z) (by decide) fun z hz => ?_
    rw [List.mem_singleton.mp hz]
    exact (Bits.lt (B := 4) (by decide) (by decide)).mono (by omega)
  | cons n ns =>
    have : PyData.eqv (.list ((n :: ns).map .int)) (.list []) = false := by rw [PyData.eqv, List.map_cons, PyData.eqvAll]
    rw [this]
    refine yes (we_slice (we_var hs ?_))
    refine we_cst ⟨63, rfl, ?_⟩
    have hh : (h ++ [O.lst []])[0]? = some (.rdl ((n :: ns).map V.int)) := k1.get h0
    have ec : cutV ((n :: ns).map V.int) none (some 63) = (n :: ns).map V.int := by
      unfold cutV
      have e1 : HT.sIx ((n :: ns).map V.int).length 0 none = 0 := rfl
      have e2 : HT.sIx ((n :: ns).map V.int).length ((n :: ns).map V.int).length (some 63) = min 63 ((n :: ns).map V.int).length := HT.sIx_nat _ _ 63
      rw [e1, e2, List.drop_zero, List.take_of_length_le]
      rw [List.length_map]
      omega
    have el : lstAt (h ++ [O.lst []]) 0 = some ((n :: ns).map V.int) := by
      unfold lstAt
      rw [hh]
    unfold sliceP
    simp only [hh, el, ec]
    exact q (n :: ns) _ _ (k1.trans Keep.push) get_new (fun z => nomatch z) l63 bits
theorem atI4 {a b c d k : Int} (h0 : 0 ≤ k) (h1 : k < 4) : ∃ o, atI [V.int a, V.int b, V.int c, V.int d] k = some (.int o) ∧ (o = a ∨ o = b ∨ o = c ∨ o = d) := by
  have : k = 0 ∨ k = 1 ∨ k = 2 ∨ k = 3 := by omega
  rcases this with rfl | rfl | rfl | rfl
  · exact ⟨a, rfl, .inl rfl⟩
  · exact ⟨b, rfl, .inr (.inl rfl)⟩
  · exact ⟨c, rfl, .inr (.inr (.inl rfl))⟩
  · exact ⟨d, rfl, .inr (.inr (.inr rfl))⟩
theorem atI3 {a b c k : Int} (h0 : 0 ≤ k) (h1 : k < 3) : ∃ o, atI [V.int a, V.int b, V.int c] k = some (.int o) ∧ (o = a ∨ o = b ∨ o = c) := by
  have : k = 0 ∨ k = 1 ∨ k = 2 := by omega
  rcases this with rfl | rfl | rfl
  · exact ⟨a, rfl, .inl rfl⟩
  · exact ⟨b, rfl, .inr (.inl rfl)⟩
  · exact ⟨c, rfl, .inr (.inr rfl)⟩
theorem min_sixty {j : Int} {h : Hs} {Q : V → Hs → Prop} (q : Q (.int (if j < 60 then j else 60)) h) : (bfP .min2 [.int 60, .int j] h).sat Q := q
theorem law_air_ok {ns : List Int} {by_ most : Int} {h : Hs} (h0 : h[0]? = some (.rdl (ns.map V.int))) (l63 : ns.length ≤ 63) (B : Nat) (hB : 40 ≤ B) (hB2 : B ≤ 2000000) (bits : ∀ z ∈ ns, Bits B z) (by0 : 0 ≤ by_) (by1 : by_ < 10) (m1 : 1 ≤ most) (m40 : most ≤ 40) :
    WF PR 25 [.ref 0, .int by_, .int most] h fun v h' => Keep h h' ∧ ∃ (a b : Nat) (rs : List V) (A : Air), v = .ref a ∧ AirIn h' a b rs A ∧ A.Ok := by
  refine wf_call (fd := fd__law_air) rfl rfl ?_
  refine ws_seq (ws_set (cells_ok rfl h0 l63 B (by omega) bits fun cells c h1 k1 ec ne cl cb => ?_))
  -- whole, links
  refine ws_seq (ws_asg (we_tup (wl_cons ?_)))
  repeat trivial
  refine sum_ints ec ?_
  repeat trivial
  refine we_dnew (wl_nil ⟨sz2 (by rfl), _, bind_tup get_new, ?_⟩)
  have bw : Bits (B + 7) (cells.sum + by_) := ((bits_sum63 cb cl).add ((Bits.lt (B := 4) by0 (by omega)).mono (by omega)))
  generalize cells.sum + by_ = whole at bw
  have k2 : Keep h1 (h1 ++ [if true = true then O.dT [] else .dK []] ++ [O.tup [.int whole, .ref h1.length]]) := Keep.push.trans Keep.push
  have eD : (h1 ++ [if true = true then O.dT [] else .dK []] ++ [O.tup [.int whole, .ref h1.length]])[h1.length]? = some (.dT []) := Keep.push.get get_new
  generalize h1 ++ [if true = true then O.dT [] else .dK []] ++ [O.tup [.int whole, .ref h1.length]] = h2 at k2 eD
  have bw2 : Bits (B + 7) whole := bw
  -- many, kind
  refine ws_seq (ws_par (wl_cons (we_op2 ?_)))
  repeat trivial
  refine (law_number_ok (C := B + 10) (by omega) (by omega) (bw2.mono (by omega)) (by omega) (by omega) ((Bits.lt (B := 4) (x := 3) (by decide) (by decide)).mono (by omega))).imp fun v h3 ⟨eh, r1, ev⟩ => ?_
  subst eh ev
  refine we_cst (s_fdiv (j := 9) (by decide) (by decide) (we_var rfl (s_mod (by omega) (s_add (wl_cons (we_op2 (we_op2 ?_)))))))
  repeat trivial
  refine (law_number_ok (C := B + 10) (by omega) (by omega) (bw2.mono (by omega)) (by omega) (by omega) ((Bits.lt (B := 4) (x := 3) (by decide) (by decide)).mono (by omega))).imp fun v h4 ⟨eh, r2, ev⟩ => ?_
  subst eh ev
  refine we_cst (s_fdiv (j := 360) (by decide) (by decide) (we_cst (s_mod (j := 4) (by decide) (wl_nil ⟨_, rfl, ?_⟩))))
  have q1 : 0 ≤ r1 / 9 % most := Int.emod_nonneg _ (by omega)
  have q2 : r1 / 9 % most < most := Int.emod_lt_of_pos _ (by omega)
  generalize hmany : 1 + r1 / 9 % most = many
  have q3 : 0 ≤ r2 / 360 % 4 := Int.emod_nonneg _ (by decide)
  have q4 : r2 / 360 % 4 < 4 := Int.emod_lt_of_pos _ (by decide)
  generalize r2 / 360 % 4 = kind at q3 q4
  -- sort
  refine ws_seq (ws_set (we_op2 (we_op2 ?_)))
  repeat trivial
  refine (law_number_ok (C := B + 10) (by omega) (by omega) (bw2.mono (by omega)) (by omega) (by omega) ((Bits.lt (B := 4) (x := 3) (by decide) (by decide)).mono (by omega))).imp fun v h5 ⟨eh, r3, ev⟩ => ?_
  subst eh ev
  refine we_cst (s_fdiv (j := 1440) (by decide) (by decide) (we_cst (s_mod (j := 3) (by decide) ?_)))
  have q5 : 0 ≤ r3 / 1440 % 3 := Int.emod_nonneg _ (by decide)
  have q6 : r3 / 1440 % 3 < 3 := Int.emod_lt_of_pos _ (by decide)
  generalize r3 / 1440 % 3 = sort at q5 q6
  refine ws_seq (ws_for (wi_rng1 ?_))
  have cnt : ∀ {s : Sts} {hh : Hs}, s[8]? = some (some (.int many)) → Ck.WE PR (.ite (.op2 .gt (.var 8) (.cst (.int 1))) (.bf .min2 (.cons (.cst (.int 60)) (.cons (.op2 .mul (.cst (.int 3)) (.var 8)) .nil))) (.cst (.int 0))) s hh fun x h' => ∃ k : Int, x = .int k ∧ h' = hh ∧ 0 ≤ k ∧ k ≤ 60 ∧ (0 < k → 1 < many) := fun hs => by
    refine we_ite (we_op2 (we_var hs (we_cst (s_gt (dec (fun hm => ?_) fun hm => ?_)))))
    · refine we_bf (wl_cons (we_cst (wl_cons (we_op2 (we_cst (we_var hs (s_mul (mulOk_of (B := 2) (C := 6) (Bits.lt (by decide) (by decide)) (Bits.lt (by omega) (by omega)) (by decide)) (wl_nil (min_sixty ?_)))))))))
      refine ⟨_, rfl, rfl, ?_, ?_, fun _ => hm⟩
      · split <;> omega
      · split <;> omega
    · exact we_cst ⟨0, rfl, rfl, by omega, by omega, fun z => absurd z (by omega)⟩
  refine (cnt rfl).imp fun x h6 ⟨cn, ex, eh, c0, c60, cm⟩ => ?_
  subst ex eh
  refine ⟨cn, rfl, by omega, by omega, ?_⟩
  refine ⟨fun i s hh => ∃ (es : List Lk) (x5 x10 x11 x12 x13 x14 x15 : Option V), s = [some (.ref 0), some (.int by_), some (.int most), some (.ref c), some (.int sort), x5, some (.int whole), some (.ref h1.length), some (.int many), some (.int kind), x10, x11, x12, x13, x14, x15] ∧
    Keep h1 hh ∧ hh[h1.length]? = some (.dT (DT es)) ∧ (es.map kk).Nodup ∧ (∀ l ∈ es, okL many l) ∧ es.length ≤ 2 * i, cn.toNat, ?_, ?_, ?_⟩
  · exact ⟨[], none, none, none, none, none, none, none, rfl, k2, eD, List.nodup_nil, (fun l hl => nomatch hl), Nat.le_refl _⟩
  · rintro i s hh hi ⟨es, x5, x10, x11, x12, x13, x14, x15, rfl, k, hD, nd, oks, el⟩
    have hm : 1 < many := cm (by omega)
    have lD : h1.length < hh.length := lt_of_get hD
    refine ⟨.int i, hh, _, it_rng hi, rfl, ?_⟩
    refine ws_seq (ws_set (we_op2 ?_))
    repeat trivial
    refine len_lst (k.get ec) ?_
    have cpos : (0 : Int) < ((cells.map V.int).length : Nat) := by
      rw [List.length_map]
      have : cells.length ≠ 0 := fun z => ne (List.eq_nil_of_length_eq_zero z)
      omega
    refine s_mod cpos ?_
    have i0 : 0 ≤ ((i : Int) + by_) % ((cells.map V.int).length : Nat) := Int.emod_nonneg _ (by omega)
    have i1 : ((i : Int) + by_) % ((cells.map V.int).length : Nat) < ((cells.map V.int).length : Nat) := Int.emod_lt_of_pos _ cpos
    generalize ((i : Int) + by_) % ((cells.map V.int).length : Nat) = ix at i0 i1
    obtain ⟨z, ez⟩ : ∃ z, cells[ix.toNat]? = some z := ⟨_, List.getElem?_eq_getElem (by rw [List.length_map] at i1; omega)⟩
    refine s_idxL (k.get ec) (atI_int i0 (by rw [List.getElem?_map, ez]; rfl)) ?_
    repeat trivial
    have bz : Bits (B + 10) (z + (i : Int)) := (((cb z (List.mem_of_getElem? ez)).add ((Bits.lt (B := 7) (x := (i : Int)) (by omega) (by omega)).mono (by omega)))).mono (by omega)
    refine (law_number_ok (C := B + 10) (by omega) (by omega) bz (by omega) (by omega) (bw2.mono (by omega))).imp fun v hh ⟨eh, r, ev⟩ => ?_
    subst eh ev
    refine we_cst (s_fdiv (j := 3) (by decide) (by decide) ?_)
    generalize r / 3 = num
    refine ws_seq (ws_set (we_op2 (we_var rfl (we_var rfl (s_mod (by omega) ?_)))))
    have o0 : 0 ≤ (i : Int) % many := Int.emod_nonneg _ (by omega)
    have o1 : (i : Int) % many < many := Int.emod_lt_of_pos _ (by omega)
    generalize (i : Int) % many = one at o0 o1
    refine ws_seq (ws_par (wl_cons (we_op2 (we_op2 (we_var rfl (we_cst (s_fdiv (j := 9) (by decide) (by decide) (we_var rfl (s_mod (by omega) (wl_cons (we_ite (we_op2 (we_var rfl (we_cst (s_gt ?_)))))))))))))))
    have a0 : 0 ≤ num / 9 % many := Int.emod_nonneg _ (by omega)
    have a1 : num / 9 % many < many := Int.emod_lt_of_pos _ (by omega)
    generalize num / 9 % many = any_ at a0 a1
    have rest : ∀ star : Int, 0 ≤ star → star < 2 → WS PR (.seq (.asg (.name 12) (.op2 .idx (.tup (.cons (.op2 .mod (.op2 .add (.var 11) (.cst (.int 1))) (.var 8)) (.cons (.var 15) (.cons (.op2 .mod (.op2 .add (.op2 .add (.var 11) (.cst (.int 1))) (.var 14)) (.var 8)) (.cons (.var 14) .nil))))) (.var 9))) (.seq (.asg (.name 13) (.op2 .idx (.tup (.cons (.op2 .add (.cst (.int 1)) (.op2 .mod (.var 10) (.cst (.int 9)))) (.cons (.op2 .add (.cst (.int 1)) (.op2 .mod (.var 10) (.cst (.int 3)))) (.cons (.cst (.int 5)) .nil)))) (.var 4))) (.if_ (.op2 .ne (.var 11) (.var 12)) (.seq (.sub (.var 7) (.tup (.cons (.var 11) (.cons (.var 12) .nil))) (.var 13)) (.if_ (.op2 .gt (.op2 .mod (.op2 .fdiv (.var 10) (.cst (.int 4096))) (.cst (.int 3))) (.cst (.int 0))) (.sub (.var 7) (.tup (.cons (.var 12) (.cons (.var 11) .nil))) (.op2 .add (.cst (.int 1)) (.op2 .mod (.op2 .add (.var 13) (.op2 .fdiv (.var 10) (.cst (.int 12288)))) (.cst (.int 9))))) .pass)) .pass)))
        [some (.ref 0), some (.int by_), some (.int most), some (.ref c), some (.int sort), some (.int i), some (.int whole), some (.ref h1.length), some (.int many), some (.int kind), some (.int num), some (.int one), x12, x13, some (.int any_), some (.int star)] hh fun r h2 => match r with
          | .nx s => ∃ (es : List Lk) (x5 x10 x11 x12 x13 x14 x15 : Option V), s = [some (.ref 0), some (.int by_), some (.int most), some (.ref c), some (.int sort), x5, some (.int whole), some (.ref h1.length), some (.int many), some (.int kind), x10, x11, x12, x13, x14, x15] ∧
              Keep h1 h2 ∧ h2[h1.length]? = some (.dT (DT es)) ∧ (es.map kk).Nodup ∧ (∀ l ∈ es, okL many l) ∧ es.length ≤ 2 * (i + 1)
          | .rt _ => False := by
      intro star s0 s1
      refine ws_seq (ws_set (we_op2 (we_tup (wl_cons (we_op2 (we_op2 (we_var rfl (we_cst (s_add (we_var rfl (s_mod (by omega) (wl_cons (we_var rfl (wl_cons (we_op2 (we_op2 (we_op2 (we_var rfl (we_cst (s_add (we_var rfl (s_add (we_var rfl (s_mod (by omega) (wl_cons (we_var rfl (wl_nil ⟨sz2 (by rfl), we_var rfl ?_⟩)))))))))))))))))))))))))))
      have t0 : 0 ≤ (one + 1) % many := Int.emod_nonneg _ (by omega)
      have t1 : (one + 1) % many < many := Int.emod_lt_of_pos _ (by omega)
      have t2 : 0 ≤ (one + 1 + any_) % many := Int.emod_nonneg _ (by omega)
      have t3 : (one + 1 + any_) % many < many := Int.emod_lt_of_pos _ (by omega)
      obtain ⟨other, eo, oo⟩ := atI4 (a := (one + 1) % many) (b := star) (c := (one + 1 + any_) % many) (d := any_) q3 q4
      refine s_idxT get_new eo ?_
      have oth : 0 ≤ other ∧ other < many := by
        rcases oo with rfl | rfl | rfl | rfl <;> exact ⟨by omega, by omega⟩
      have k7 : Keep hh (hh ++ [O.tup [.int ((one + 1) % many), .int star, .int ((one + 1 + any_) % many), .int any_]]) := Keep.push
      generalize hh ++ [O.tup [.int ((one + 1) % many), .int star, .int ((one + 1 + any_) % many), .int any_]] = h7 at k7
      refine ws_seq (ws_set (we_op2 (we_tup (wl_cons (we_op2 (we_cst (we_op2 (we_var rfl (we_cst (s_mod (j := 9) (by decide) (s_add (wl_cons (we_op2 (we_cst (we_op2 (we_var rfl (we_cst (s_mod (j := 3) (by decide) (s_add (wl_cons (we_cst (wl_nil ⟨sz2 (by rfl), we_var rfl ?_⟩))))))))))))))))))))))
      have u0 : 0 ≤ num % 9 := Int.emod_nonneg _ (by decide)
      have u1 : num % 9 < 9 := Int.emod_lt_of_pos _ (by decide)
      have u2 : 0 ≤ num % 3 := Int.emod_nonneg _ (by decide)
      have u3 : num % 3 < 3 := Int.emod_lt_of_pos _ (by decide)
      obtain ⟨qu, eq_, oq⟩ := atI3 (a := 1 + num % 9) (b := 1 + num % 3) (c := 5) q5 q6
      refine s_idxT get_new eq_ ?_
      have quo : 1 ≤ qu ∧ qu ≤ 9 := by
        rcases oq with rfl | rfl | rfl <;> exact ⟨by omega, by omega⟩
      have k8 : Keep h7 (h7 ++ [O.tup [.int (1 + num % 9), .int (1 + num % 3), .int 5]]) := Keep.push
      generalize h7 ++ [O.tup [.int (1 + num % 9), .int (1 + num % 3), .int 5]] = h8 at k8
      have kh8 : Keep hh h8 := k7.trans k8
      have hD8 := kh8.get hD
      refine ws_if (we_op2 (we_var rfl (we_var rfl (s_neI (ndec (fun hne => ?_) fun heq => ?_)))))
      · refine ws_seq (ws_sub (we_var rfl (we_var rfl (we_tup (wl_cons (we_var rfl (wl_cons (we_var rfl (wl_nil ⟨sz2 (by rfl), ?_⟩)))))))))
        have kd : (DT es).length = es.length := by unfold DT; rw [List.length_map]
        refine sub_dT (x := one) (y := other) (Keep.push.get hD8) get_new (by rw [kd]; unfold SZ; omega) ?_
        obtain ⟨es', ep, nd', ok', l'⟩ := putDT (q := qu) nd oks (show okL many (one, other, qu) from ⟨o0, o1, oth.1, oth.2, hne, quo.1, quo.2⟩)
        rw [ep]
        have l8 : hh.length ≤ h8.length := kh8.le
        have hD9 : ((h8 ++ [O.tup [.int one, .int other]]).set h1.length (.dT (DT es')))[h1.length]? = some (.dT (DT es')) := get_set (by simp; omega)
        have k9 : Keep h1 ((h8 ++ [O.tup [.int one, .int other]]).set h1.length (.dT (DT es'))) := ((k.trans kh8).trans Keep.push).set (Nat.le_refl _)
        generalize (h8 ++ [O.tup [.int one, .int other]]).set h1.length (.dT (DT es')) = h9 at hD9 k9
        refine ws_if (we_op2 (we_op2 (we_op2 (we_var rfl (we_cst (s_fdiv (j := 4096) (by decide) (by decide) (we_cst (s_mod (j := 3) (by decide) (we_cst (s_gt (dec (fun _ => ?_) fun _ => ?_)))))))))))
        · refine ws_sub (we_op2 (we_cst (we_op2 (we_op2 (we_var rfl (we_op2 (we_var rfl (we_cst (s_fdiv (j := 12288) (by decide) (by decide) (s_add (we_cst (s_mod (j := 9) (by decide) (s_add (we_var rfl (we_tup (wl_cons (we_var rfl (wl_cons (we_var rfl (wl_nil ⟨sz2 (by rfl), ?_⟩))))))))))))))))))))
          have w0 : 0 ≤ (qu + num / 12288) % 9 := Int.emod_nonneg _ (by decide)
          have w1 : (qu + num / 12288) % 9 < 9 := Int.emod_lt_of_pos _ (by decide)
          have kd' : (DT es').length = es'.length := by unfold DT; rw [List.length_map]
          refine sub_dT (x := other) (y := one) (Keep.push.get hD9) get_new (by rw [kd']; unfold SZ; omega) ?_
          obtain ⟨es2, ep2, nd2, ok2, l2⟩ := putDT (q := 1 + (qu + num / 12288) % 9) nd' ok' (show okL many (other, one, _) from ⟨oth.1, oth.2, o0, o1, (fun z => hne z.symm), by show 1 ≤ 1 + (qu + num / 12288) % 9; omega, by show 1 + (qu + num / 12288) % 9 ≤ 9; omega⟩)
          rw [ep2]
          have l9 : h1.length < h9.length := lt_of_get hD9
          exact ⟨es2, _, _, _, _, _, _, _, rfl, (k9.trans Keep.push).set (Nat.le_refl _), get_set (by simp; omega), nd2, ok2, by omega⟩
        · exact ws_pass ⟨es', _, _, _, _, _, _, _, rfl, k9, hD9, nd', ok', by omega⟩
      · exact ws_pass ⟨es, _, _, _, _, _, _, _, rfl, k.trans kh8, hD8, nd, oks, by omega⟩
    refine dec (fun _ => we_cst (wl_nil ⟨_, rfl, (rest 0 (by decide) (by decide)).imp fun r h2 q => ?_⟩)) fun _ => we_cst (wl_nil ⟨_, rfl, (rest 1 (by decide) (by decide)).imp fun r h2 q => ?_⟩)
    · cases r with
      | nx s => exact q
      | rt v => exact False.elim q
    · cases r with
      | nx s => exact q
      | rt v => exact False.elim q
  · rintro s hh ⟨es, x5, x10, x11, x12, x13, x14, x15, rfl, k, hD, nd, oks, el⟩
    refine ⟨it_rng_end, ?_⟩
    have l120 : es.length ≤ 120 := by omega
    have lD : h1.length < hh.length := lt_of_get hD
    refine ws_ret (we_tup (wl_cons (we_var rfl (wl_cons (we_bf (wl_cons (we_lock rfl hD ?_)))))))
    have hK : (hh.set h1.length (.lkT (DT es)))[h1.length]? = some (.lkT (DT es)) := get_set lD
    have kK : Keep h1 (hh.set h1.length (.lkT (DT es))) := k.set (Nat.le_refl _)
    have lK : (hh.set h1.length (.lkT (DT es))).length = hh.length := List.length_set ..
    have kd : (DT es).length = es.length := by unfold DT; rw [List.length_map]
    generalize hh.set h1.length (.lkT (DT es)) = g0 at hK kK lK
    refine we_comp (wi_dict (we_var rfl ⟨_, _, rfl, hK, ?_⟩))
    refine ⟨fun i acc g => Keep g0 g ∧ All2 (LinkAt g) acc (es.take i), es.length, ⟨Keep.push, True.intro⟩, ?_, ?_⟩
    · rintro i acc g hi ⟨kg, al⟩ hX
      have ll := al.len
      rw [List.length_take] at ll
      refine ⟨by unfold SZ; omega, ?_⟩
      obtain ⟨l, el⟩ : ∃ l, es[i]? = some l := ⟨_, List.getElem?_eq_getElem hi⟩
      have etk : es.take (i + 1) = es.take i ++ [l] := by rw [List.take_succ, el]; rfl
      refine ⟨_, _, _, it_dict (kv := ([.inl l.1, .inl l.2.1], .int l.2.2)) (kg.get hK) (by unfold DT; rw [List.getElem?_map, el]; rfl), bind_tup get_new, we_cst (yes ?_)⟩
      refine we_tup (wl_cons (we_var rfl (wl_cons (we_var rfl (wl_cons (we_op2 (we_var rfl (we_tup (wl_cons (we_var rfl (wl_cons (we_var rfl (wl_nil ⟨sz2 (by rfl), ?_⟩)))))))))))))
      refine s_idxLk (x := l.1) (y := l.2.1) (Keep.push.get (Keep.push.get (kg.get hK))) get_new (valDT nd el) (wl_nil ⟨sz2 (by rfl), ?_⟩)
      have kx : Keep g (g ++ [O.tup ([Sum.inl l.1, Sum.inl l.2.1].map kV)] ++ [O.tup [.int l.1, .int l.2.1]] ++ [O.tup [.int l.1, .int l.2.1, .int l.2.2]]) := (Keep.push.trans Keep.push).trans Keep.push
      refine ⟨kx.get hX, (kg.trans kx).set (by omega), ?_⟩
      rw [etk]
      exact All2.push (al.imp fun r l x => LinkAt.set (x.keep kx) (kx.get hX) rfl) ⟨_, rfl, tup_set get_new (kx.get hX) rfl⟩
    · rintro acc g ⟨kg, al⟩ hX
      rw [List.take_length] at al
      refine ⟨it_dict_end (kg.get hK) (by rw [kd]; exact Nat.le_refl _), kg.get hK, ?_⟩
      have lg : g0.length ≤ g.length := kg.le
      have hX2 : (g.set h1.length (.dT (DT es)))[g0.length]? = some (.lst acc) := by
        rw [get_set_ne (by omega)]
        exact hX
      have al2 : All2 (LinkAt (g.set h1.length (.dT (DT es)))) acc es := al.imp fun r l x => LinkAt.set x (kg.get hK) rfl
      have k10 : Keep h1 (g.set h1.length (.dT (DT es))) := (kK.trans kg).set (Nat.le_refl _)
      generalize g.set h1.length (.dT (DT es)) = g2 at hX2 al2 k10
      refine wl_nil (sorted_links hX2 al2 fun rs' al3 => wl_nil ⟨sz2 (by rfl), ?_⟩)
      have k11 : Keep g2 (g2 ++ [O.lst rs'] ++ [O.tup [.int many, .ref g2.length]]) := Keep.push.trans Keep.push
      refine ⟨(k1.trans k10).trans k11, (g2 ++ [O.lst rs']).length, g2.length, rs', ⟨many, es.mergeSort leL⟩, rfl, ⟨get_new, Keep.push.get get_new, al3.imp fun r l x => x.keep k11⟩, ?_⟩
      refine ⟨by show 1 ≤ many; omega, by show many ≤ 40; omega, by show (es.mergeSort leL).length ≤ 120; rw [List.length_mergeSort]; exact l120, fun l hl => oks l (List.mem_mergeSort.mp hl), sorted_up nd⟩
end T05
/-! Ck22: groups within groups; groups that are counted out. -/
namespace Ck
open PySem L2
theorem rch_mono {ls : List Lk} {t u a b : Int} (h : u ≤ t) (r : Rch ls t a b) : Rch ls u a b := by
  induction r with
  | refl => exact .refl
  | step r e ih =>
    obtain ⟨q, hm, hq⟩ := mem_hdL.mp e
    exact .step ih (mem_hdL.mpr ⟨q, hm, by omega⟩)
theorem gs_within {ls : List Lk} {t u : Int} {n : Nat} {g w : List Int} {x : Int} (h : u ≤ t) (hg : g ∈ gs ls t n) (hw : w ∈ gs ls u n) (xg : x ∈ g) (xw : x ∈ w) : ∀ o ∈ g, o ∈ w := by
  obtain ⟨s, _, _, rfl⟩ := gs_grp hg
  obtain ⟨r, _, _, rfl⟩ := gs_grp hw
  intro o ho
  rw [← grp_eq xg] at ho
  rw [← grp_eq xw]
  obtain ⟨a, b, c⟩ := grp_mem.mp ho
  exact grp_mem.mpr ⟨a, rch_mono h b, rch_mono h c⟩
theorem gs_ne {ls : List Lk} {t : Int} {n : Nat} {g : List Int} (hg : g ∈ gs ls t n) : ∃ x r, g = x :: r ∧ 0 ≤ x ∧ x < n := by
  obtain ⟨s, h0, h1, rfl⟩ := gs_grp hg
  have hs := grp_self (ls := ls) (t := t) h0 h1
  cases e : grp ls t n s with
  | nil =>
    rw [e] at hs
    cases hs
  | cons x r =>
    have hx : x ∈ grp ls t n s := by rw [e]; exact List.mem_cons_self
    obtain ⟨⟨a, b⟩, _⟩ := grp_mem.mp hx
    exact ⟨x, r, rfl, a, b⟩
/-! ### counted out -/
def grow (ls : List Lk) (t : Int) : Nat → List Int → List Int
  | 0, S => S
  | k + 1, S => grow ls t k (S ++ (S.map (hdL ls t)).flatten)
theorem grow_sub {ls : List Lk} {t : Int} : ∀ {k : Nat} {S : List Int} {x : Int}, x ∈ S → x ∈ grow ls t k S
  | 0, _, _, h => h
  | k + 1, S, x, h => grow_sub (k := k) (List.mem_append_left _ h)
theorem grow_rch {ls : List Lk} {t a : Int} : ∀ {k : Nat} {S : List Int}, (∀ y ∈ S, Rch ls t a y) → ∀ x ∈ grow ls t k S, Rch ls t a x
  | 0, _, h, x, hx => h x hx
  | k + 1, S, h, x, hx => grow_rch (k := k) (fun y hy => by
    rcases List.mem_append.mp hy with hy | hy
    · exact h y hy
    · obtain ⟨l, hl, hyl⟩ := List.mem_flatten.mp hy
      obtain ⟨z, hz, rfl⟩ := List.mem_map.mp hl
      exact .step (h z hz) hyl) x hx
theorem rch_grow {ls : List Lk} {t a b : Int} {k : Nat} (c : ∀ x ∈ grow ls t k [a], ∀ y ∈ hdL ls t x, y ∈ grow ls t k [a]) : Rch ls t a b ↔ b ∈ grow ls t k [a] := by
  constructor
  · intro r
    induction r with
    | refl => exact grow_sub List.mem_cons_self
    | step r e ih => exact c _ ih _ e
  · exact grow_rch (fun y hy => by
      rw [List.mem_singleton.mp hy]
      exact .refl) b
def grpC (ls : List Lk) (t : Int) (n k : Nat) (s : Int) : List Int := ((List.range n).map fun i : Nat => (i : Int)).filter fun o => decide (o ∈ grow ls t k [s]) && decide (s ∈ grow ls t k [o])
def gsC (ls : List Lk) (t : Int) (n k : Nat) : Nat → List (List Int) × List Int
  | 0 => ([], [])
  | i + 1 => if (i : Int) ∈ (gsC ls t n k i).2 then gsC ls t n k i else ((gsC ls t n k i).1 ++ [grpC ls t n k i], (gsC ls t n k i).2 ++ grpC ls t n k i)
def clC (ls : List Lk) (t : Int) (n k : Nat) : Bool := (List.range n).all fun a => (grow ls t k [(a : Int)]).all fun x => (hdL ls t x).all fun y => decide (y ∈ grow ls t k [(a : Int)])
theorem gs_count {ls : List Lk} {t : Int} {n k : Nat} (c : clC ls t n k = true) : gs ls t n = (gsC ls t n k n).1 := by
  have cl : ∀ a : Nat, a < n → ∀ x ∈ grow ls t k [(a : Int)], ∀ y ∈ hdL ls t x, y ∈ grow ls t k [(a : Int)] := fun a ha x hx y hy => by
    have h1 := List.all_eq_true.mp c a (List.mem_range.mpr ha)
    have h2 := List.all_eq_true.mp h1 x hx
    exact of_decide_eq_true (List.all_eq_true.mp h2 y hy)
  have eg : ∀ s : Nat, s < n → grp ls t n s = grpC ls t n k s := fun s hs => by
    refine (grp_uniq ?_ fun o => ?_).symm
    · exact range_lt.sublist List.filter_sublist
    · unfold grpC
      rw [List.mem_filter, List.mem_map]
      simp only [Bool.and_eq_true, decide_eq_true_eq, List.mem_range]
      constructor
      · rintro ⟨⟨i, hi, rfl⟩, h1, h2⟩
        exact ⟨⟨by omega, by omega⟩, (rch_grow (cl s hs)).mpr h1, (rch_grow (cl i hi)).mpr h2⟩
      · rintro ⟨⟨h0, h1⟩, h2, h3⟩
        obtain ⟨i, rfl⟩ : ∃ i : Nat, o = i := ⟨o.toNat, by omega⟩
        exact ⟨⟨i, by omega, rfl⟩, (rch_grow (cl s hs)).mp h2, (rch_grow (cl i (by omega))).mp h3⟩
  have all : ∀ i : Nat, i ≤ n → gsTo ls t n i = gsC ls t n k i := by
    intro i
    induction i with
    | zero => intro _; rfl
    | succ i ih =>
      intro hi
      have e := ih (by omega)
      have e2 := eg i (by omega)
      unfold gsTo gsC
      rw [e, e2]
  unfold gs
  rw [all n (Nat.le_refl _)]
theorem dropLast_ok {A : Air} (o : A.Ok) : Air.Ok ⟨A.n, A.ls.dropLast⟩ := ⟨o.n1, o.n40, by
  have := o.few
  show A.ls.dropLast.length ≤ 120
  rw [List.length_dropLast]
  omega, fun l hl => o.ok l (A.ls.dropLast_sublist.subset hl), o.up.sublist A.ls.dropLast_sublist⟩
end Ck
namespace T05
open PySem L2 Ck
local macro_rules | `(tactic| trivial) => `(tactic| first | refine we_var rfl ?_ | refine we_cst ?_ | refine we_op2 ?_ | refine we_isi ?_ | refine we_call ?_ | refine we_bf ?_ | refine we_slice ?_ | refine we_chain ?_ | refine we_not ?_ | refine we_neg ?_ | refine wl_cons ?_ | refine wl_nil ?_ | refine s_add ?_ | refine s_sub ?_ | refine s_le ?_ | refine s_lt ?_ | refine s_gt ?_ | refine s_ge ?_ | refine s_eqI ?_ | refine s_neI ?_ | refine ws_ret ?_ | refine ws_set ?_ | refine ws_expr ?_ | refine ws_if ?_ | refine ws_seq ?_ | refine ws_pass ?_)
/-- groups at f, as they are -/
def GsAt (h : Hs) (f : Nat) (g : List (List Int)) : Prop := ∃ gv, h[f]? = some (.lst gv) ∧ All2 (IntsG 0 h) gv g
theorem GsAt.keep {h h' : Hs} {f : Nat} {g : List (List Int)} (x : GsAt h f g) (k : Keep h h') : GsAt h' f g := let ⟨gv, e, a⟩ := x; ⟨gv, k.get e, a.imp fun _ _ y => y.keep k⟩
theorem GsAt.data {h : Hs} {f : Nat} {g : List (List Int)} (x : GsAt h f g) : dataOf DP h (.ref f) = some (.list (g.map fun ns => .list (ns.map .int))) := let ⟨gv, e, a⟩ := x; data_lists (n := 17) e a
theorem atI_zero {A : Type} {x : A} {xs : List A} : atI (x :: xs) 0 = some x := by
  have := Ck.atI_nat (xs := x :: xs) (i := 0) (v := x) rfl
  exact this
def bAgain : Stm := (.seq (.asg (.name 10) (.call 110 (.cons (.var 8) (.cons (.var 4) .nil)))) (.seq (.if_ (.or (.not (.isi (.var 10) .list)) (.or (.op2 .ne (.var 10) (.var 9)) (.op2 .ne (.var 8) (.var 3)))) (.ret (.cst (.bl false))) .pass) (.seq (.if_ (.not (.bf .all (.cons (.comp [7] (.name 7) (.seq (.var 10)) (.cst (.bl true)) (.isi (.var 7) .list)) .nil))) (.ret (.cst (.bl false))) .pass) (.seq (.for_ (.name 7) (.seq (.var 10)) (.expr (.bm .append (.var 7) (.cons (.cst (.int 0)) .nil)))) (.expr (.bm .append (.var 10) (.cons (.lst .nil) .nil)))))))
theorem isi_lst {h : Hs} {c : Nat} {xs : List V} (e : h[c]? = some (.lst xs)) : isiP PR.isa (.ref c) .list h = some true := by
  unfold isiP
  simp only [e]
theorem again_ok {hh : Hs} {a b p q f : Nat} {rs rs2 : List V} {A : Air} {t W : Int} {x2 x5 x6 x7 x10 x11 x12 x13 : Option V} {Q : Rs → Hs → Prop} (hA : AirIn hh a b rs A) (hB : AirIn hh p q rs2 A) (ok : A.Ok) (t1 : 1 ≤ t) (t9 : t ≤ 9) (hd : GsAt hh f (gs A.ls t A.n.toNat))
    (post : ∀ x7 x10 h', Keep hh h' → Q (.nx [some (.ref 0), some (.int W), x2, some (.ref a), some (.int t), x5, x6, x7, some (.ref p), some (.ref f), x10, x11, x12, x13]) h') :
    WS PR bAgain [some (.ref 0), some (.int W), x2, some (.ref a), some (.int t), x5, x6, x7, some (.ref p), some (.ref f), x10, x11, x12, x13] hh Q := by
  refine ws_seq (ws_set (we_call (wl_cons (we_var rfl (wl_cons (we_var rfl (wl_nil ((groups_of_ok hB ok t1 t9).imp fun v h1 ⟨k1, F, gv, ev, lF, eF, al⟩ => ?_))))))))
  subst ev
  have hF : GsAt h1 F (gs A.ls t A.n.toNat) := ⟨gv, eF, al.imp fun _ _ x => x.le (Nat.zero_le _)⟩
  refine ws_seq (ws_if (we_or (we_not (we_isi (we_var rfl ⟨true, isi_lst eF, bol (ono (we_or (we_op2 (we_var rfl (we_var rfl (s_neD hF.data (hd.keep k1).data ?_))))))⟩)))))
  rw [eqv_lists]
  refine ono (we_op2 (we_var rfl (we_var rfl (s_neD (data_air (n := 16) (hB.keep k1)) (data_air (n := 16) (hA.keep k1)) ?_))))
  rw [eqv_air]
  refine no (ws_pass ?_)
  have gl : gv.length ≤ 40 := by
    rw [al.len]
    have := gs_len (ls := A.ls) (t := t) (n := A.n.toNat)
    have := ok.n40
    omega
  refine ws_seq (ws_if (we_not (we_bf (wl_cons (we_comp (wi_seq (we_var rfl ⟨F, gv, rfl, lstAt_of eF, ?_⟩)))))))
  refine ⟨fun i acc h2 => Keep h1 h2 ∧ acc = List.replicate i (.bl true), gv.length, ⟨Keep.push, rfl⟩, ?_, ?_⟩
  · rintro i acc h2 hi ⟨k, rfl⟩ hD
    refine ⟨by rw [List.length_replicate]; unfold SZ; omega, ?_⟩
    obtain ⟨g, eg, c, ec, lc, hc⟩ := al.get (List.getElem?_eq_getElem hi)
    refine ⟨_, h2, _, it_seq (k.get eF) (List.getElem?_eq_getElem hi), rfl, we_cst (yes (we_isi (we_var rfl ⟨true, ?_, hD, k.set (Nat.le_refl _), rep_snoc⟩)))⟩
    rw [ec]
    exact isi_lst (k.get hc)
  · rintro acc h2 ⟨k2, rfl⟩ hD
    refine ⟨it_seq_end (k2.get eF) (Nat.le_refl _), ?_⟩
    refine wl_nil (all_rep hD (bol (no (ws_pass ?_))))
    have kf : Keep hh h2 := k1.trans k2
    refine ws_seq (ws_for (wi_seq (we_var rfl ⟨F, gv, rfl, lstAt_of (k2.get eF), ?_⟩)))
    refine ⟨fun i s h3 => (∃ x7, s = [some (.ref 0), some (.int W), x2, some (.ref a), some (.int t), x5, x6, x7, some (.ref p), some (.ref f), some (.ref F), x11, x12, x13]) ∧ Keep hh h3 ∧ h3[F]? = some (.lst gv) ∧ ∀ (j c : Nat), gv[j]? = some (.ref c) → F < c ∧ ∃ xs, h3[c]? = some (.lst xs) ∧ xs.length ≤ 40 + i, gv.length, ?_, ?_, ?_⟩
    · refine ⟨⟨_, rfl⟩, kf, k2.get eF, fun j c ej => ?_⟩
      obtain ⟨g, eg, c', ec, lc, hc⟩ := al.get ej
      cases ec
      refine ⟨lc, _, k2.get hc, ?_⟩
      rw [List.length_map]
      obtain ⟨s, _, _, rfl⟩ := gs_grp (List.mem_of_getElem? eg)
      have := grp_len (ls := A.ls) (t := t) (n := A.n.toNat) (s := s)
      have := ok.n40
      omega
    · rintro i s h3 hi ⟨⟨x7, rfl⟩, k, hF3, hg⟩
      obtain ⟨g, eg, c, ec, lc, hc⟩ := al.get (List.getElem?_eq_getElem hi)
      obtain ⟨lc, xs, hx, lx⟩ := hg i c (by rw [List.getElem?_eq_getElem hi, ec])
      refine ⟨.ref c, h3, _, it_seq hF3 (by rw [List.getElem?_eq_getElem hi, ec]), rfl, ?_⟩
      refine ws_expr (we_bm (we_var rfl ⟨bm_isL hx (fun z => nomatch z), wl_cons (we_cst (wl_nil (bm_app hx (by unfold SZ; omega) ?_)))⟩))
      refine ⟨⟨_, rfl⟩, k.set (by omega), by rw [get_set_ne (by omega)]; exact hF3, fun j d ej => ?_⟩
      obtain ⟨ld, ys, hy, ly⟩ := hg j d ej
      refine ⟨ld, ?_⟩
      by_cases e : c = d
      · subst e
        refine ⟨_, get_set (lt_of_get hx), ?_⟩
        rw [List.length_append, List.length_singleton]
        omega
      · exact ⟨ys, by rw [get_set_ne e]; exact hy, by omega⟩
    · rintro s h3 ⟨⟨x7, rfl⟩, k, hF3, hg⟩
      refine ⟨it_seq_end hF3 (Nat.le_refl _), ?_⟩
      have e4 : (h3 ++ [O.lst []])[F]? = some (.lst gv) := Keep.push.get hF3
      refine ws_expr (we_bm (we_var rfl ⟨bm_isL hF3 (fun z => nomatch z), wl_cons (we_lst (wl_nil ⟨sz2 (by rfl), wl_nil (bm_app e4 (by unfold SZ; omega) ?_)⟩))⟩))
      exact post _ _ _ ((k.trans Keep.push).set lF)
def bDue : Stm := (.seq (.asg (.name 11) (.comp [12] (.name 12) (.seq (.ite (.op2 .isnot (.var 5) (.cst .non)) (.var 5) (.var 9))) (.op2 .isin (.op2 .idx (.var 7) (.cst (.int 0))) (.var 12)) (.var 12))) (.if_ (.not (.bf .all (.cons (.comp [13] (.name 13) (.seq (.var 7)) (.cst (.bl true)) (.op2 .isin (.var 13) (.op2 .idx (.var 11) (.cst (.int 0))))) .nil))) (.ret (.cst (.bl false))) .pass))
theorem s_isnotN {h : Hs} {x : V} {Q : V → Hs → Prop} (q : Q (.bl (!decide (x = .non))) h) (nb : ∀ b, x ≠ .bl b) : (prim2 .isnot x .non h).sat Q := by
  show R.sat ((R.ofOpt h (opIs x .non)).bind fun b h => .ok (.bl (!b)) h) Q
  have : opIs x .non = some (decide (x = .non)) := by cases x <;> rfl
  rw [this]
  exact q
/-- what stands under last: nothing yet, or the groups at a lower quality -/
def LastAt (h : Hs) (v : V) (ls : List Lk) (t : Int) (n : Nat) : Prop := v = .non ∨ ∃ (lb : Nat) (u : Int), v = .ref lb ∧ u ≤ t ∧ GsAt h lb (gs ls u n)
theorem due_ok {hh : Hs} {a c f : Nat} {n : Nat} {ls : List Lk} {t W : Int} {lv : V} {g : List Int} {x2 x6 x8 x10 x11 x12 x13 : Option V} {Q : Rs → Hs → Prop} (n40 : n ≤ 40) (hl : LastAt hh lv ls t n) (hd : GsAt hh f (gs ls t n)) (hg : g ∈ gs ls t n) (hc : hh[c]? = some (.lst (g.map V.int)))
    (post : ∀ x11 h', Keep hh h' → Q (.nx [some (.ref 0), some (.int W), x2, some (.ref a), some (.int t), some lv, x6, some (.ref c), x8, some (.ref f), x10, x11, x12, x13]) h') :
    WS PR bDue [some (.ref 0), some (.int W), x2, some (.ref a), some (.int t), some lv, x6, some (.ref c), x8, some (.ref f), x10, x11, x12, x13] hh Q := by
  obtain ⟨g0, gr, eg, r0, r1⟩ := gs_ne hg
  have seqE : Ck.WE PR (.ite (.op2 .isnot (.var 5) (.cst .non)) (.var 5) (.var 9)) [some (.ref 0), some (.int W), x2, some (.ref a), some (.int t), some lv, x6, some (.ref c), x8, some (.ref f), x10, x11, x12, x13] hh fun x h' => h' = hh ∧ ∃ (lb : Nat) (u : Int), x = .ref lb ∧ u ≤ t ∧ GsAt hh lb (gs ls u n) := by
    rcases hl with rfl | ⟨lb, u, rfl, hu, hlb⟩
    · exact we_ite (we_op2 (we_var rfl (we_cst (s_isnotN (no (we_var rfl ⟨rfl, f, t, rfl, Int.le_refl _, hd⟩)) (fun b z => nomatch z)))))
    · exact we_ite (we_op2 (we_var rfl (we_cst (s_isnotN (yes (we_var rfl ⟨rfl, lb, u, rfl, hu, hlb⟩)) (fun b z => nomatch z)))))
  refine ws_seq (ws_set (we_comp (wi_seq (seqE.imp fun x h' ⟨eh, lb, u, ex, hu, gv, el, al⟩ => ?_))))
  subst eh ex
  refine ⟨lb, gv, rfl, lstAt_of el, ?_⟩
  have gvl : gv.length ≤ 40 := by
    rw [al.len]
    have := gs_len (ls := ls) (t := u) (n := n)
    omega
  refine ⟨fun i acc h2 => Keep h' h2 ∧ All2 (IntsG 0 h') acc (((gs ls u n).take i).filter fun w => decide (g0 ∈ w)), gv.length, ⟨Keep.push, True.intro⟩, ?_, ?_⟩
  · rintro i acc h2 hi ⟨k, al2⟩ hD
    have la := al2.len
    have lf : (((gs ls u n).take i).filter fun w => decide (g0 ∈ w)).length ≤ 40 := Nat.le_trans (List.length_filter_le _ _) (by rw [List.length_take]; omega)
    refine ⟨by unfold SZ; omega, ?_⟩
    obtain ⟨w, ew, d, ed, _, hd2⟩ := al.get (List.getElem?_eq_getElem hi)
    have etk : (gs ls u n).take (i + 1) = (gs ls u n).take i ++ [w] := by rw [List.take_succ, ew]; rfl
    refine ⟨.ref d, h2, _, it_seq (k.get el) (by rw [List.getElem?_eq_getElem hi, ed]), rfl, ?_⟩
    refine we_op2 (we_op2 (we_var rfl (we_cst (s_idxL (k.get hc) (by rw [eg]; exact atI_zero) (we_var rfl (s_inL (k.get hd2) (dec (fun hin => ?_) fun hin => ?_)))))))
    · refine we_var rfl ⟨hD, k.set (Nat.le_refl _), ?_⟩
      rw [etk, List.filter_append, show List.filter (fun w => decide (g0 ∈ w)) [w] = [w] by simp [hin]]
      exact al2.push ⟨d, rfl, Nat.zero_le _, hd2⟩
    · refine ⟨hD, k, ?_⟩
      rw [etk, List.filter_append, show List.filter (fun w => decide (g0 ∈ w)) [w] = [] by simp [hin], List.append_nil]
      exact al2
  · rintro acc h2 ⟨k2, al2⟩ hD
    refine ⟨it_seq_end (k2.get el) (Nat.le_refl _), ?_⟩
    rw [al.len, List.take_length] at al2
    obtain ⟨w0, hw0, gw0⟩ := gs_of (ls := ls) (t := u) (n := n) r0 r1
    have hne : w0 ∈ (gs ls u n).filter fun w => decide (g0 ∈ w) := List.mem_filter.mpr ⟨hw0, decide_eq_true gw0⟩
    cases ef : (gs ls u n).filter fun w => decide (g0 ∈ w) with
    | nil =>
      rw [ef] at hne
      cases hne
    | cons w ws =>
      rw [ef] at al2
      cases acc with
      | nil => exact al2.elim
      | cons wv wvs =>
        obtain ⟨d, rfl, _, hd2⟩ := al2.1
        have hw : w ∈ (gs ls u n).filter fun w => decide (g0 ∈ w) := by rw [ef]; exact List.mem_cons_self
        obtain ⟨hw1, hw2⟩ := List.mem_filter.mp hw
        have hall := gs_within hu hg hw1 (x := g0) (by rw [eg]; exact List.mem_cons_self) (of_decide_eq_true hw2)
        refine ws_if (we_not (we_bf (wl_cons (we_comp (wi_seq (we_var rfl ⟨c, _, rfl, lstAt_of (k2.get hc), ?_⟩))))))
        have gl : g.length ≤ 40 := by
          obtain ⟨s, _, _, rfl⟩ := gs_grp hg
          exact Nat.le_trans grp_len n40
        refine ⟨fun i acc h3 => Keep h2 h3 ∧ acc = List.replicate i (.bl true), (g.map V.int).length, ⟨Keep.push, rfl⟩, ?_, ?_⟩
        · rintro i acc h3 hi ⟨k, rfl⟩ hX
          rw [List.length_map] at hi
          refine ⟨by rw [List.length_replicate]; unfold SZ; omega, ?_⟩
          obtain ⟨o, eo⟩ : ∃ o, g[i]? = some o := ⟨_, List.getElem?_eq_getElem hi⟩
          refine ⟨.int o, h3, _, it_seq ((k2.trans k).get hc) (by rw [List.getElem?_map, eo]; rfl), rfl, we_cst (yes ?_)⟩
          refine we_op2 (we_var rfl (we_op2 (we_var rfl (we_cst (s_idxL (k.get hD) atI_zero (s_inL ((k2.trans k).get hd2) ?_))))))
          rw [decide_eq_true (hall o (List.mem_of_getElem? eo))]
          exact ⟨hX, k.set (Nat.le_refl _), rep_snoc⟩
        · rintro acc h3 ⟨k3, rfl⟩ hX
          refine ⟨it_seq_end ((k2.trans k3).get hc) (Nat.le_refl _), ?_⟩
          exact wl_nil (all_rep hX (bol (no (ws_pass (post _ _ (k2.trans k3))))))
end T05
namespace T05
open PySem L2 Ck
theorem bm_pop {h : Hs} {a : Nat} {xs : List V} {y : V} {Q : V → Hs → Prop} (e : h[a]? = some (.lst xs)) (ey : xs[xs.length - 1]? = some y) (q : Q y (h.set a (.lst xs.dropLast))) : (bmP .pop (.ref a) [] h).sat Q := by
  show R.sat (bmPop (.ref a) [] h) Q
  unfold bmPop
  simp only [e, ey]
  exact q
def bLeast : Stm := (.seq (.par [8, 9] (.cons (.call 37 (.cons (.var 3) .nil)) (.cons (.call 45 (.cons (.var 3) (.cons (.var 4) .nil))) .nil))) (.seq (.for_ (.name 6) (.rng1 (.cst (.int 2))) bAgain) (.seq (.for_ (.name 7) (.seq (.var 9)) bDue) (.seq (.asg (.name 5) (.var 9)) (.if_ (.op2 .ne (.op2 .idx (.var 8) (.cst (.int 1))) (.lst .nil)) (.seq (.expr (.bm .pop (.op2 .idx (.var 8) (.cst (.int 1))) .nil)) (.if_ (.op2 .ne (.call 110 (.cons (.var 8) (.cons (.var 4) .nil))) (.call 45 (.cons (.var 8) (.cons (.var 4) .nil)))) (.ret (.cst (.bl false))) .pass)) .pass)))))
theorem least_ok {h : Hs} {a b : Nat} {rs : List V} {A : Air} {t W : Int} {lv : V} {x2 x6 x7 x8 x9 x10 x11 x12 x13 : Option V} {Q : Rs → Hs → Prop} (hA : AirIn h a b rs A) (ok : A.Ok) (t1 : 1 ≤ t) (t9 : t ≤ 9) (hl : LastAt h lv A.ls t A.n.toNat)
    (post : ∀ (f : Nat) x6 x7 x8 x9 x10 x11 h', Keep h h' → GsAt h' f (gs A.ls t A.n.toNat) → Q (.nx [some (.ref 0), some (.int W), x2, some (.ref a), some (.int t), some (.ref f), x6, x7, x8, x9, x10, x11, x12, x13]) h') :
    WS PR bLeast [some (.ref 0), some (.int W), x2, some (.ref a), some (.int t), some lv, x6, x7, x8, x9, x10, x11, x12, x13] h Q := by
  have n40 := ok.n40
  refine ws_seq (ws_par (wl_cons (we_call (wl_cons (we_var rfl (wl_nil ((law_copied_ok hA).imp fun v h1 ⟨ev, k1, hB, l1⟩ => ?_)))))))
  subst ev
  refine wl_cons (we_call (wl_cons (we_var rfl (wl_cons (we_var rfl (wl_nil ((law_groups_ok (t := t) (hA.keep k1) ok).imp fun v h2 ⟨k2, f, gv, ev, lf, ef, al⟩ => ?_)))))))
  subst ev
  refine wl_nil ⟨_, rfl, ?_⟩
  have hd2 : GsAt h2 f (gs A.ls t A.n.toNat) := ⟨gv, ef, al.imp fun _ _ x => x.le (Nat.zero_le _)⟩
  have hA2 := hA.keep (k1.trans k2)
  have hB2 := hB.keep k2
  have k02 := k1.trans k2
  have hl2 : LastAt h2 lv A.ls t A.n.toNat := hl.elim .inl fun ⟨lb, u, e, hu, g⟩ => .inr ⟨lb, u, e, hu, g.keep k02⟩
  refine ws_seq (ws_for (wi_rng1 (we_cst ⟨2, rfl, by decide, by decide, ?_⟩)))
  refine ⟨fun i s hh => (∃ x6 x7 x10, s = [some (.ref 0), some (.int W), x2, some (.ref a), some (.int t), some lv, x6, x7, some (.ref (h.length + 1)), some (.ref f), x10, x11, x12, x13]) ∧ Keep h2 hh, 2, ⟨⟨_, _, _, rfl⟩, Keep.refl⟩, ?_, ?_⟩
  · rintro i s hh hi ⟨⟨x6, x7, x10, rfl⟩, k⟩
    refine ⟨.int i, hh, _, it_rng hi, rfl, ?_⟩
    exact again_ok (hA2.keep k) (hB2.keep k) ok t1 t9 (hd2.keep k) fun x7 x10 h' k' => ⟨⟨_, _, _, rfl⟩, k.trans k'⟩
  · rintro s h3 ⟨⟨x6, x7, x10, rfl⟩, k3⟩
    refine ⟨it_rng_end, ?_⟩
    have ef3 := k3.get ef
    refine ws_seq (ws_for (wi_seq (we_var rfl ⟨f, gv, rfl, lstAt_of ef3, ?_⟩)))
    refine ⟨fun i s hh => (∃ x7 x11, s = [some (.ref 0), some (.int W), x2, some (.ref a), some (.int t), some lv, x6, x7, some (.ref (h.length + 1)), some (.ref f), x10, x11, x12, x13]) ∧ Keep h3 hh, gv.length, ⟨⟨_, _, rfl⟩, Keep.refl⟩, ?_, ?_⟩
    · rintro i s hh hi ⟨⟨x7, x11, rfl⟩, k⟩
      obtain ⟨g, eg, c, ec, lc, hc⟩ := al.get (List.getElem?_eq_getElem hi)
      have kk := k3.trans k
      have hl3 : LastAt hh lv A.ls t A.n.toNat := hl2.elim .inl fun ⟨lb, u, e, hu, g⟩ => .inr ⟨lb, u, e, hu, g.keep kk⟩
      refine ⟨.ref c, hh, _, it_seq (k.get ef3) (by rw [List.getElem?_eq_getElem hi, ec]), rfl, ?_⟩
      exact due_ok (by omega) hl3 (hd2.keep kk) (List.mem_of_getElem? eg) (kk.get hc) fun x11 h' k' => ⟨⟨_, _, rfl⟩, k.trans k'⟩
    · rintro s h4 ⟨⟨x7, x11, rfl⟩, k4⟩
      refine ⟨it_seq_end (k4.get ef3) (Nat.le_refl _), ?_⟩
      have k24 := k3.trans k4
      have k04 := k02.trans k24
      have hB4 := hB2.keep k24
      refine ws_seq (ws_set (we_var rfl ?_))
      refine ws_if (we_op2 (we_op2 (we_var rfl (we_cst (s_idxT hB4.top rfl (we_lst (wl_nil ⟨sz2 (by rfl), ?_⟩)))))))
      have k5 : Keep h4 (h4 ++ [O.lst []]) := Keep.push
      have hB5 := hB4.keep k5
      have d0 : dataOf DP (h4 ++ [O.lst []]) (.ref h.length) = some _ := data_links (n := 17) hB5.lst hB5.all
      have d1 : dataOf DP (h4 ++ [O.lst []]) (.ref h4.length) = some (.list ([] : List PyData)) := data_ints (n := 18) (ns := []) get_new
      refine s_neD d0 d1 ?_
      have hf5 : GsAt (h4 ++ [O.lst []]) f (gs A.ls t A.n.toNat) := hd2.keep (k24.trans k5)
      cases els : A.ls with
      | nil =>
        have : PyData.eqv (.list (([] : List Lk).map fun l => .tuple [.int l.1, .int l.2.1, .int l.2.2])) (.list []) = true := by rw [PyData.eqv, List.map_nil, PyData.eqvAll]
        rw [this]
        refine no (ws_pass (post f _ _ _ _ _ _ _ (k04.trans k5) hf5))
      | cons l0 lr =>
        have : PyData.eqv (.list ((l0 :: lr).map fun l => .tuple [.int l.1, .int l.2.1, .int l.2.2])) (.list []) = false := by rw [PyData.eqv, List.map_cons, PyData.eqvAll]
        rw [this]
        have rl : rs.length = A.ls.length := hA.all.len
        have rpos : 0 < rs.length := by rw [rl, els]; exact Nat.succ_pos _
        obtain ⟨y, ey⟩ : ∃ y, rs[rs.length - 1]? = some y := ⟨_, List.getElem?_eq_getElem (by omega)⟩
        refine yes (ws_seq (ws_expr (we_bm (we_op2 (we_var rfl (we_cst (s_idxT hB5.top rfl ⟨bm_isL hB5.lst (fun z => nomatch z), wl_nil (bm_pop hB5.lst ey ?_)⟩)))))))
        have lq : h.length < (h4 ++ [O.lst []]).length := lt_of_get hB5.lst
        have hB6 : AirIn ((h4 ++ [O.lst []]).set h.length (.lst rs.dropLast)) (h.length + 1) h.length rs.dropLast ⟨A.n, A.ls.dropLast⟩ := ⟨by rw [get_set_ne (by omega)]; exact hB5.top, get_set lq, (hB5.all.imp fun r l x => LinkAt.set x hB5.lst rfl).dropLast⟩
        have k6 : Keep h ((h4 ++ [O.lst []]).set h.length (.lst rs.dropLast)) := (k04.trans k5).set (Nat.le_refl _)
        have hf6 : GsAt ((h4 ++ [O.lst []]).set h.length (.lst rs.dropLast)) f (gs A.ls t A.n.toNat) := ⟨gv, by rw [get_set_ne (by omega)]; exact (k24.trans k5).get ef, al.imp fun r ns x => ((x.keep (k24.trans k5)).set (by omega)).le (Nat.zero_le _)⟩
        have ok6 := dropLast_ok ok
        generalize (h4 ++ [O.lst []]).set h.length (.lst rs.dropLast) = h6 at hB6 k6 hf6
        refine ws_if (we_op2 (we_call (wl_cons (we_var rfl (wl_cons (we_var rfl (wl_nil ((groups_of_ok hB6 ok6 t1 t9).imp fun v h7 ⟨k7, f7, gv7, ev, lf7, ef7, al7⟩ => ?_))))))))
        subst ev
        refine we_call (wl_cons (we_var rfl (wl_cons (we_var rfl (wl_nil ((law_groups_ok (t := t) (hB6.keep k7) ok6).imp fun v h8 ⟨k8, f8, gv8, ev, lf8, ef8, al8⟩ => ?_))))))
        subst ev
        have g7 : GsAt h8 f7 _ := GsAt.keep ⟨gv7, ef7, al7.imp fun _ _ x => x.le (Nat.zero_le _)⟩ k8
        have g8 : GsAt h8 f8 _ := ⟨gv8, ef8, al8.imp fun _ _ x => x.le (Nat.zero_le _)⟩
        refine s_neD g7.data g8.data ?_
        rw [eqv_lists]
        exact no (ws_pass (post f _ _ _ _ _ _ _ ((k6.trans k7).trans k8) (hf6.keep (k7.trans k8))))
def bBy : Stm := (.seq (.par [3, 5] (.cons (.call 25 (.cons (.var 0) (.cons (.var 2) (.cons (.ite (.op2 .eq (.op2 .mod (.var 1) (.cst (.int 8))) (.var 2)) (.cst (.int 40)) (.cst (.int 12))) .nil)))) (.cons (.cst .non) .nil))) (.for_ (.name 4) (.seq (.tup (.cons (.cst (.int 1)) (.cons (.op2 .add (.cst (.int 1)) (.op2 .mod (.op2 .fdiv (.var 1) (.cst (.int 3))) (.cst (.int 9)))) (.cons (.cst (.int 9)) .nil))))) bLeast))
theorem by_ok {ns : List Int} {h : Hs} {W by_ : Int} {x3 x4 x5 x6 x7 x8 x9 x10 x11 x12 x13 : Option V} {Q : Rs → Hs → Prop} (h0 : h[0]? = some (.rdl (ns.map V.int))) (l63 : ns.length ≤ 63) (B : Nat) (hB : 40 ≤ B) (hB2 : B ≤ 2000000) (bits : ∀ z ∈ ns, Bits B z) (by0 : 0 ≤ by_) (by1 : by_ < 10)
    (post : ∀ x3 x4 x5 x6 x7 x8 x9 x10 x11 h', Keep h h' → Q (.nx [some (.ref 0), some (.int W), some (.int by_), x3, x4, x5, x6, x7, x8, x9, x10, x11, x12, x13]) h') :
    WS PR bBy [some (.ref 0), some (.int W), some (.int by_), x3, x4, x5, x6, x7, x8, x9, x10, x11, x12, x13] h Q := by
  have mst : ∀ {s : Sts}, s[1]? = some (some (.int W)) → s[2]? = some (some (.int by_)) → Ck.WE PR (.ite (.op2 .eq (.op2 .mod (.var 1) (.cst (.int 8))) (.var 2)) (.cst (.int 40)) (.cst (.int 12))) s h fun x h' => h' = h ∧ ∃ m : Int, x = .int m ∧ 1 ≤ m ∧ m ≤ 40 := fun e1 e2 =>
    we_ite (we_op2 (we_op2 (we_var e1 (we_cst (s_mod (j := 8) (by decide) (we_var e2 (s_eqI (dec (fun _ => we_cst ⟨rfl, 40, rfl, by decide, by decide⟩) fun _ => we_cst ⟨rfl, 12, rfl, by decide, by decide⟩))))))))
  refine ws_seq (ws_par (wl_cons (we_call (wl_cons (we_var rfl (wl_cons (we_var rfl (wl_cons ((mst rfl rfl).imp fun x h' ⟨eh, m, ex, m1, m40⟩ => ?_)))))))))
  subst eh ex
  refine wl_nil ((law_air_ok h0 l63 B hB hB2 bits by0 by1 m1 m40).imp fun v h1 ⟨k1, a, b, rs, A, ev, hA, ok⟩ => ?_)
  subst ev
  refine wl_cons (we_cst (wl_nil ⟨_, rfl, ?_⟩))
  refine ws_for (wi_tseq (we_tup (wl_cons (we_cst (wl_cons (we_op2 (we_cst (we_op2 (we_op2 (we_var rfl (we_cst (s_fdiv (j := 3) (by decide) (by decide) (we_cst (s_mod (j := 9) (by decide) (s_add (wl_cons (we_cst (wl_nil ⟨sz2 (by rfl), _, _, rfl, get_new, ?_⟩))))))))))))))))))
  have u0 : 0 ≤ W / 3 % 9 := Int.emod_nonneg _ (by decide)
  have u1 : W / 3 % 9 < 9 := Int.emod_lt_of_pos _ (by decide)
  generalize hm : 1 + W / 3 % 9 = mid
  have k2 : Keep h1 (h1 ++ [O.tup [.int 1, .int mid, .int 9]]) := Keep.push
  have eT : (h1 ++ [O.tup [.int 1, .int mid, .int 9]])[h1.length]? = some (.tup [.int 1, .int mid, .int 9]) := get_new
  generalize h1 ++ [O.tup [.int 1, .int mid, .int 9]] = h2 at k2 eT
  let ts : Nat → Int := fun i => if i = 0 then 1 else if i = 1 then mid else 9
  have tsm : ∀ i j, i ≤ j → j < 3 → ts i ≤ ts j := by
    intro i j hij hj
    show (if i = 0 then 1 else if i = 1 then mid else 9) ≤ (if j = 0 then 1 else if j = 1 then mid else (9 : Int))
    split <;> split <;> (try split) <;> (try split) <;> omega
  have tsr : ∀ i, 1 ≤ ts i ∧ ts i ≤ 9 := by
    intro i
    show 1 ≤ (if i = 0 then 1 else if i = 1 then mid else (9 : Int)) ∧ (if i = 0 then 1 else if i = 1 then mid else (9 : Int)) ≤ 9
    split
    · omega
    · split <;> omega
  refine ⟨fun i s hh => ∃ (lv : V) (x4 x6 x7 x8 x9 x10 x11 : Option V), s = [some (.ref 0), some (.int W), some (.int by_), some (.ref a), x4, some lv, x6, x7, x8, x9, x10, x11, x12, x13] ∧ Keep h2 hh ∧ (lv = .non ∨ ∃ (lb j : Nat), j < i ∧ lv = .ref lb ∧ GsAt hh lb (gs A.ls (ts j) A.n.toNat)), 3, ?_, ?_, ?_⟩
  · exact ⟨.non, _, _, _, _, _, _, _, rfl, Keep.refl, .inl rfl⟩
  · rintro i s hh hi ⟨lv, x4, x6, x7, x8, x9, x10, x11, rfl, k, hl⟩
    have et : [V.int 1, .int mid, .int 9][i]? = some (.int (ts i)) := by
      have : i = 0 ∨ i = 1 ∨ i = 2 := by omega
      rcases this with rfl | rfl | rfl <;> rfl
    refine ⟨_, hh, _, it_tseq (k.get eT) et, rfl, ?_⟩
    have hl2 : LastAt hh lv A.ls (ts i) A.n.toNat := hl.elim .inl fun ⟨lb, j, hj, e, g⟩ => .inr ⟨lb, ts j, e, tsm j i (Nat.le_of_lt hj) hi, g⟩
    exact least_ok (hA.keep (k2.trans k)) ok (tsr i).1 (tsr i).2 hl2 fun f x6 x7 x8 x9 x10 x11 h' k' g => ⟨.ref f, _, _, _, _, _, _, _, rfl, k.trans k', .inr ⟨f, i, Nat.lt_succ_self _, rfl, g⟩⟩
  · rintro s hh ⟨lv, x4, x6, x7, x8, x9, x10, x11, rfl, k, hl⟩
    exact ⟨it_tseq_end (k.get eT) (Nat.le_refl _), post _ _ _ _ _ _ _ _ _ _ ((k1.trans k2).trans k)⟩
end T05
namespace T05
open PySem L2 Ck
/-! ### lists and air by hand -/
def exInts : List Int → Exs
  | [] => .nil
  | n :: ns => .cons (.cst (.int n)) (exInts ns)
def exLists : List (List Int) → Exs
  | [] => .nil
  | g :: gs => .cons (.lst (exInts g)) (exLists gs)
def exLinks : List Lk → Exs
  | [] => .nil
  | l :: ls => .cons (.tup (.cons (.cst (.int l.1)) (.cons (.cst (.int l.2.1)) (.cons (.cst (.int l.2.2)) .nil)))) (exLinks ls)
theorem ints_wl {s : Sts} {h : Hs} : ∀ {ns : List Int} {Q : List V → Hs → Prop}, Q (ns.map V.int) h → WL PR (exInts ns) s h Q
  | [], Q, q => wl_nil q
  | n :: ns, Q, q => wl_cons (we_cst (ints_wl (ns := ns) q))
theorem lists_wl {s : Sts} : ∀ {gs : List (List Int)} {h : Hs} {Q : List V → Hs → Prop}, (∀ g ∈ gs, g.length ≤ 100) → (∀ gv h', Keep h h' → All2 (IntsG 0 h') gv gs → Q gv h') → WL PR (exLists gs) s h Q
  | [], h, Q, _, q => wl_nil (q [] h Keep.refl True.intro)
  | g :: gs, h, Q, l, q => by
    have lg : (g.map V.int).length ≤ SZ := by
      rw [List.length_map]
      exact Nat.le_trans (l g List.mem_cons_self) (by decide)
    refine wl_cons (we_lst (ints_wl ⟨lg, lists_wl (gs := gs) (fun g' hg => l g' (List.mem_cons_of_mem _ hg)) fun gv h' k al => ?_⟩))
    exact q _ h' (Keep.push.trans k) ⟨⟨h.length, rfl, Nat.zero_le _, k.get get_new⟩, al⟩
theorem lists_we {s : Sts} {gs : List (List Int)} {h : Hs} {Q : V → Hs → Prop} (l : ∀ g ∈ gs, g.length ≤ 100) (l2 : gs.length ≤ 100) (q : ∀ f h', Keep h h' → GsAt h' f gs → Q (.ref f) h') : Ck.WE PR (.lst (exLists gs)) s h Q := by
  refine we_lst (lists_wl l fun gv h' k al => ⟨?_, q _ _ (k.trans Keep.push) ⟨gv, get_new, al.imp fun _ _ x => x.keep Keep.push⟩⟩)
  rw [al.len]
  exact Nat.le_trans l2 (by decide)
theorem links_wl {s : Sts} : ∀ {ls : List Lk} {h : Hs} {Q : List V → Hs → Prop}, (∀ rs h', Keep h h' → All2 (LinkAt h') rs ls → Q rs h') → WL PR (exLinks ls) s h Q
  | [], h, Q, q => wl_nil (q [] h Keep.refl True.intro)
  | l :: ls, h, Q, q => by
    refine wl_cons (we_tup (wl_cons (we_cst (wl_cons (we_cst (wl_cons (we_cst (wl_nil ⟨sz2 (by rfl), links_wl (ls := ls) fun rs h' k al => ?_⟩))))))))
    exact q _ h' (Keep.push.trans k) ⟨⟨h.length, rfl, k.get get_new⟩, al⟩
theorem air_we {s : Sts} {A : Air} {h : Hs} {Q : V → Hs → Prop} (l : A.ls.length ≤ 100) (q : ∀ a b rs h', Keep h h' → AirIn h' a b rs A → Q (.ref a) h') : Ck.WE PR (.tup (.cons (.cst (.int A.n)) (.cons (.lst (exLinks A.ls)) .nil))) s h Q := by
  refine we_tup (wl_cons (we_cst (wl_cons (we_lst (links_wl fun rs h' k al => ⟨?_, wl_nil ⟨sz2 (by rfl), ?_⟩⟩)))))
  · rw [al.len]
    exact Nat.le_trans l (by decide)
  · exact q _ _ rs _ ((k.trans Keep.push).trans Keep.push) ⟨get_new, Keep.push.get get_new, al.imp fun _ _ x => (x.keep Keep.push).keep Keep.push⟩
def air5 : Air := ⟨5, [(0, 2, 3), (1, 0, 9), (2, 0, 4), (3, 4, 9), (4, 3, 2)]⟩
theorem okL_dec {n : Int} {l : Lk} (h : (decide (0 ≤ l.1) && decide (l.1 < n) && decide (0 ≤ l.2.1) && decide (l.2.1 < n) && !decide (l.1 = l.2.1) && decide (1 ≤ l.2.2) && decide (l.2.2 ≤ 9)) = true) : okL n l := by
  simp only [Bool.and_eq_true, decide_eq_true_eq, Bool.not_eq_true', decide_eq_false_iff_not] at h
  obtain ⟨⟨⟨⟨⟨⟨a, b⟩, c⟩, d⟩, e⟩, f⟩, g⟩ := h
  exact ⟨a, b, c, d, e, f, g⟩
theorem air5_ok : air5.Ok := by
  refine ⟨by decide, by decide, by decide, fun l hl => okL_dec ?_, ?_⟩
  · have : (air5.ls.all fun l => (decide (0 ≤ l.1) && decide (l.1 < air5.n) && decide (0 ≤ l.2.1) && decide (l.2.1 < air5.n) && !decide (l.1 = l.2.1) && decide (1 ≤ l.2.2) && decide (l.2.2 ≤ 9))) = true := by decide
    exact List.all_eq_true.mp this l hl
  · show List.Pairwise ltL [(0, 2, 3), (1, 0, 9), (2, 0, 4), (3, 4, 9), (4, 3, 2)]
    unfold ltL
    decide
theorem air1_ok : Air.Ok ⟨1, []⟩ := ⟨by decide, by decide, by decide, fun l hl => (nomatch hl), List.Pairwise.nil⟩
theorem gs_a : gs air5.ls 3 5 = [[0, 2], [1], [3], [4]] := by
  rw [gs_count (k := 3) (by decide +kernel)]
  decide +kernel
theorem gs_b : gs air5.ls 2 5 = [[0, 2], [1], [3, 4]] := by
  rw [gs_count (k := 3) (by decide +kernel)]
  decide +kernel
theorem gs_c : gs [] 9 1 = [[0]] := by
  rw [gs_count (k := 1) (by decide +kernel)]
  decide +kernel
def bEnd : Stm := (.seq (.asg (.name 3) (.tup (.cons (.cst (.int 5)) (.cons (.lst (.cons (.tup (.cons (.cst (.int 0)) (.cons (.cst (.int 2)) (.cons (.cst (.int 3)) .nil)))) (.cons (.tup (.cons (.cst (.int 1)) (.cons (.cst (.int 0)) (.cons (.cst (.int 9)) .nil)))) (.cons (.tup (.cons (.cst (.int 2)) (.cons (.cst (.int 0)) (.cons (.cst (.int 4)) .nil)))) (.cons (.tup (.cons (.cst (.int 3)) (.cons (.cst (.int 4)) (.cons (.cst (.int 9)) .nil)))) (.cons (.tup (.cons (.cst (.int 4)) (.cons (.cst (.int 3)) (.cons (.cst (.int 2)) .nil)))) .nil)))))) .nil)))) (.seq (.if_ (.or (.op2 .ne (.call 110 (.cons (.var 3) (.cons (.cst (.int 3)) .nil))) (.lst (.cons (.lst (.cons (.cst (.int 0)) (.cons (.cst (.int 2)) .nil))) (.cons (.lst (.cons (.cst (.int 1)) .nil)) (.cons (.lst (.cons (.cst (.int 3)) .nil)) (.cons (.lst (.cons (.cst (.int 4)) .nil)) .nil)))))) (.op2 .ne (.call 110 (.cons (.tup (.cons (.cst (.int 1)) (.cons (.lst .nil) .nil))) (.cons (.cst (.int 9)) .nil))) (.lst (.cons (.lst (.cons (.cst (.int 0)) .nil)) .nil)))) (.ret (.cst (.bl false))) .pass) (.ret (.op2 .eq (.call 110 (.cons (.var 3) (.cons (.cst (.int 2)) .nil))) (.lst (.cons (.lst (.cons (.cst (.int 0)) (.cons (.cst (.int 2)) .nil))) (.cons (.lst (.cons (.cst (.int 1)) .nil)) (.cons (.lst (.cons (.cst (.int 3)) (.cons (.cst (.int 4)) .nil))) .nil))))))))
theorem end_ok {h : Hs} {W : Int} {x2 x3 x4 x5 x6 x7 x8 x9 x10 x11 x12 x13 : Option V} : WS PR bEnd [some (.ref 0), some (.int W), x2, x3, x4, x5, x6, x7, x8, x9, x10, x11, x12, x13] h fun r h => (retV r h).sat fun v _ => v = .bl true := by
  refine ws_seq (ws_set (air_we (A := air5) (by decide) fun a b rs h1 k1 hA => ?_))
  have l100 : ∀ {gs : List (List Int)}, (gs.all fun g => g.length.ble 100) = true → ∀ g ∈ gs, g.length ≤ 100 := fun h g hg => Nat.le_of_ble_eq_true (List.all_eq_true.mp h g hg)
  refine ws_seq (ws_if (we_or (we_op2 (we_call (wl_cons (we_var rfl (wl_cons (we_cst (wl_nil ((groups_of_ok hA air5_ok (t := 3) (by decide) (by decide)).imp fun v h2 ⟨k2, f, gv, ev, lf, ef, al⟩ => ?_))))))))))
  subst ev
  have g2 : GsAt h2 f [[0, 2], [1], [3], [4]] := by
    have : GsAt h2 f (gs air5.ls 3 air5.n.toNat) := ⟨gv, ef, al.imp fun _ _ x => x.le (Nat.zero_le _)⟩
    rw [show air5.n.toNat = 5 from rfl, gs_a] at this
    exact this
  refine lists_we (gs := [[0, 2], [1], [3], [4]]) (l100 (by decide)) (by decide) fun f3 h3 k3 g3 => s_neD (g2.keep k3).data g3.data ?_
  rw [eqv_lists]
  refine ono (we_op2 (we_call (wl_cons (air_we (A := ⟨1, []⟩) (by decide) fun a2 b2 rs2 h4 k4 hA4 => wl_cons (we_cst (wl_nil ((groups_of_ok hA4 air1_ok (t := 9) (by decide) (by decide)).imp fun v h5 ⟨k5, f5, gv5, ev, lf5, ef5, al5⟩ => ?_)))))))
  subst ev
  have g5 : GsAt h5 f5 [[0]] := by
    have : GsAt h5 f5 (gs [] 9 1) := ⟨gv5, ef5, al5.imp fun _ _ x => x.le (Nat.zero_le _)⟩
    rw [gs_c] at this
    exact this
  refine lists_we (gs := [[0]]) (l100 (by decide)) (by decide) fun f6 h6 k6 g6 => s_neD (g5.keep k6).data g6.data ?_
  rw [eqv_lists]
  refine no (ws_pass (ws_ret (we_op2 (we_call (wl_cons (we_var rfl (wl_cons (we_cst (wl_nil ((groups_of_ok (hA.keep ((((k2.trans k3).trans k4).trans k5).trans k6)) air5_ok (t := 2) (by decide) (by decide)).imp fun v h7 ⟨k7, f7, gv7, ev, lf7, ef7, al7⟩ => ?_))))))))))
  subst ev
  have g7 : GsAt h7 f7 [[0, 2], [1], [3, 4]] := by
    have : GsAt h7 f7 (gs air5.ls 2 air5.n.toNat) := ⟨gv7, ef7, al7.imp fun _ _ x => x.le (Nat.zero_le _)⟩
    rw [show air5.n.toNat = 5 from rfl, gs_b] at this
    exact this
  refine lists_we (gs := [[0, 2], [1], [3, 4]]) (l100 (by decide)) (by decide) fun f8 h8 k8 g8 => s_eqD (g7.keep k8).data g8.data ?_
  rw [eqv_lists]
  show V.bl true = V.bl true
  rfl
theorem law_ok {ns : List Int} (l63 : ns.length ≤ 63) (B : Nat) (hB : 40 ≤ B) (hB2 : B ≤ 2000000) (bits : ∀ z ∈ ns, Bits B z) : WF PR 118 [.ref 0] [O.rdl (ns.map V.int)] fun v _ => v = .bl true := by
  refine wf_call (fd := fd_law) rfl rfl ?_
  have h0 : [O.rdl (ns.map V.int)][0]? = some (.rdl (ns.map V.int)) := rfl
  refine ws_seq (ws_set (we_bf (wl_cons (we_slice (we_var rfl (we_cst ⟨63, rfl, ?_⟩))))))
  have ec : cutV (ns.map V.int) none (some 63) = ns.map V.int := by
    unfold cutV
    have e1 : HT.sIx (ns.map V.int).length 0 none = 0 := rfl
    have e2 : HT.sIx (ns.map V.int).length (ns.map V.int).length (some 63) = min 63 (ns.map V.int).length := HT.sIx_nat _ _ 63
    rw [e1, e2, List.drop_zero, List.take_of_length_le]
    rw [List.length_map]
    omega
  have es : sliceP (.ref 0) none (some 63) [O.rdl (ns.map V.int)] = .ok (.ref 1) [O.rdl (ns.map V.int), O.lst (ns.map V.int)] := by
    show new [O.rdl (ns.map V.int)] (.lst (cutV (ns.map V.int) none (some 63))) = _
    rw [ec]
    rfl
  show R.sat (sliceP (.ref 0) none (some 63) [O.rdl (ns.map V.int)]) _
  rw [es]
  refine wl_nil (sum_ints (a := 1) (ns := ns) rfl ?_)
  generalize ns.sum = W
  refine ws_seq (ws_for (wi_rng1 (we_cst ⟨2, rfl, by decide, by decide, ?_⟩)))
  refine ⟨fun i s hh => (∃ x2 x3 x4 x5 x6 x7 x8 x9 x10 x11 x12 x13, s = [some (.ref 0), some (.int W), x2, x3, x4, x5, x6, x7, x8, x9, x10, x11, x12, x13]) ∧ hh[0]? = some (.rdl (ns.map V.int)), 2, ⟨⟨_, _, _, _, _, _, _, _, _, _, _, _, rfl⟩, rfl⟩, ?_, ?_⟩
  · rintro i s hh hi ⟨⟨x2, x3, x4, x5, x6, x7, x8, x9, x10, x11, x12, x13, rfl⟩, e0⟩
    refine ⟨.int i, hh, _, it_rng hi, rfl, ?_⟩
    exact by_ok e0 l63 B hB hB2 bits (by omega) (by omega) fun x3 x4 x5 x6 x7 x8 x9 x10 x11 h' k => ⟨⟨_, _, _, _, _, _, _, _, _, _, _, _, rfl⟩, k.get e0⟩
  · rintro s hh ⟨⟨x2, x3, x4, x5, x6, x7, x8, x9, x10, x11, x12, x13, rfl⟩, e0⟩
    exact ⟨it_rng_end, end_ok⟩
theorem says : Says := fun ns l63 bits => by
  obtain ⟨v, h', ⟨N, hN⟩, ev⟩ := law_ok l63 1048576 (by decide) (by decide) fun z hz => bits_of (bits z hz)
  subst ev
  exact ⟨N, h', hN N (Nat.le_refl _)⟩
end T05
open PySem PySem.W PyProof.Rows in
set_option maxRecDepth 100000 in
set_option maxHeartbeats 0 in
theorem PySem.Challenge.cw_checkins_k05_whole_groups_holds : PySem.Challenge.rw_checkins_k05_whole_groups.Holds := by
  w_on; o_law; k_head; (case hw => w_witness2)
  k_fill
  refine T05.walk T05.says (l := PySem.Challenge.rw_checkins_k05_whole_groups) rfl rfl (fun w h Y => PySem.W.kIn_of Y) ?F
  case F =>
    intro w mg fa h KX G hmg
    refine' T05.all_mk KX G hmg ?a0 ?l0 ?c0 ?k0 ?a1 ?l1 ?c1 ?k1 ?a2 ?l2 ?c2 ?k2 ?a3 ?l3 ?c3 ?k3 ?a4 ?l4 ?c4 ?k4 ?a5 ?l5 ?c5 ?k5 ?a6 ?l6 ?c6 ?k6 ?a7 ?l7 ?c7 ?k7 ?a8 ?l8 ?c8 ?k8 ?a9 ?l9 ?c9 ?k9 ?a10 ?l10 ?c10 ?k10 ?a11 ?l11 ?c11 ?k11 ?a12 ?l12 ?c12 ?k12 ?a13 ?l13 ?c13 ?k13 ?z_all ?z_any ?z_bool ?z_int ?z_isinstance ?z_len ?z_list ?z_min ?z_range ?z_sorted ?z_sum ?z_tuple ?z_zip ?y_BEST ?y_MOST_LINKS ?y_MOST_STATIONS
    (case a0 => k_is)
    (case l0 => k_is)
    (case c0 => k_is)
    (case k0 => k_is)
    (case a1 => k_is)
    (case l1 => k_is)
    (case c1 => k_is)
    (case k1 => k_is)
    (case a2 => k_is)
    (case l2 => k_is)
    (case c2 => k_is)
    (case k2 => k_is)
    (case a3 => k_is)
    (case l3 => k_is)
    (case c3 => k_is)
    (case k3 => k_is)
    (case a4 => k_is)
    (case l4 => k_is)
    (case c4 => k_is)
    (case k4 => k_is)
    (case a5 => k_is)
    (case l5 => k_is)
    (case c5 => k_is)
    (case k5 => k_is)
    (case a6 => k_is)
    (case l6 => k_is)
    (case c6 => k_is)
    (case k6 => k_is)
    (case a7 => k_is)
    (case l7 => k_is)
    (case c7 => k_is)
    (case k7 => k_is)
    (case a8 => k_is)
    (case l8 => k_is)
    (case c8 => k_is)
    (case k8 => k_is)
    (case a9 => k_is)
    (case l9 => k_is)
    (case c9 => k_is)
    (case k9 => k_is)
    (case a10 => k_is)
    (case l10 => k_is)
    (case c10 => k_is)
    (case k10 => k_is)
    (case a11 => k_is)
    (case l11 => k_is)
    (case c11 => k_is)
    (case k11 => k_is)
    (case a12 => k_is)
    (case l12 => k_is)
    (case c12 => k_is)
    (case k12 => k_is)
    (case a13 => k_is)
    (case l13 => k_is)
    (case c13 => k_is)
    (case k13 => k_is)
    (case z_all => k_is)
    (case z_any => k_is)
    (case z_bool => k_is)
    (case z_int => k_is)
    (case z_isinstance => k_is)
    (case z_len => k_is)
    (case z_list => k_is)
    (case z_min => k_is)
    (case z_range => k_is)
    (case z_sorted => k_is)
    (case z_sum => k_is)
    (case z_tuple => k_is)
    (case z_zip => k_is)
    (case y_BEST => k_is)
    (case y_MOST_LINKS => k_is)
    (case y_MOST_STATIONS => k_is)
