import PyProof.Rows.All
import HandS.ForMost
import HandS.IsInst
import HandS.Wide
import HandS.Deep
import HandS.ForExc
import HandS.TryMany
import HandS.CallSlots
import HandS.ExcInit
import HandS.ExcField
import HandS.Defaults
import HandS.Flow
import HandS.Style
import HandS.Small
import PyProof.StrOps2
import HandS.TupAny
import PyProof.StrLawsRepr
import KE.IntText
import HandS.NoneIn
import PyProof.Draws
import PyProof.EnumMake
import KE.GoesMore
import PyProof.StrLawsChain
import PyProof.SliceList
import HandS.HeadHook1
import HandS.FStr
import HandS.More
import PyProof.Rows.StrCase
import HandS.Head2
import HandS.HeadEnd
import HandS.EndBits
import PySem.Challenge.RW_enginedays_k33_under_way_and_busiest
set_option Elab.async false
set_option linter.all false
set_option maxRecDepth 100000
set_option maxHeartbeats 4000000
/-! ELa: a small language of my own (a Python function without its positions), data with store cells, and what a function does, as a pure Lean function. -/
namespace EL

/-- a key of a dict -/
inductive Ky where
  | i (z : Int) | s (x : List Nat)
  deriving DecidableEq

/-- data: texts are their code points; lists, tuples, dicts, objects that nobody changes any more; cell n: what stands in the store at n -/
inductive D where
  | non | bl (b : Bool) | int (i : Int) | str (x : List Nat)
  | tup (xs : List D) | lst (xs : List D) | scr (xs : List D)
  | dK (kvs : List (Ky × D)) | dT (kvs : List (List Ky × D))
  | obj (c : Nat) (fs : List (Nat × D))
  | cell (n : Nat)
instance : Inhabited D := ⟨.non⟩

abbrev Sto := List D
abbrev Loc := List (Option D)
abbrev Fds := List (Nat × D)

/-- an expression's end: a value, an exception (class, fields), or nothing that is told -/
inductive R (α : Type) where
  | ok (a : α) (S : Sto) | ex (c : Nat) (fs : Fds) (S : Sto) | stuck
def R.bind {α β : Type} (r : R α) (k : α → Sto → R β) : R β := match r with
  | .ok a S => k a S
  | .ex c fs S => .ex c fs S
  | .stuck => .stuck
/-- a function's end: a value; a new list, dict or object of the caller's own; an exception -/
inductive RF where
  | val (d : D) (S : Sto) | fresh (c : D) (S : Sto) | ex (c : Nat) (fs : Fds) (S : Sto) | stuck
/-- a statement's end -/
inductive RS where
  | nx (l : Loc) (S : Sto) | rt (d : D) (S : Sto) | bk (l : Loc) (S : Sto) | ct (l : Loc) (S : Sto) | ex (c : Nat) (fs : Fds) (l : Loc) (S : Sto) | stuck

inductive Op where
  | add | sub | mul | mod | fdiv | pow
  deriving DecidableEq
inductive Cop where
  | eq | ne | lt | le | gt | ge | in_ | nin
  deriving DecidableEq
/-- types for isinstance -/
inductive Ty where
  | int | bool | str | list | tuple | dict | cls (c : Nat)
  deriving DecidableEq
/-- builtin functions -/
inductive Bf where
  | len | str | int | repr | max | min | sum | all | any | abs | divmod | sorted | list | tuple | dict
  deriving DecidableEq
/-- builtin methods that change nothing -/
inductive Bm where
  | join | split | find | replace | partition | upper | zfill | get | get2 | items | values | index | count
  deriving DecidableEq
/-- builtin methods that change their list or dict -/
inductive Mm where
  | append | extend | pop | popAt | insert | reverse | clear | update
  deriving DecidableEq

/-- targets -/
inductive Tg where
  | v (i : Nat) | t (ts : List Tg)

mutual
inductive Ex where
  | var (i : Nat)
  | non | bl (b : Bool) | int (i : Int) | str (x : List Nat)
  | gl (g : Nat)
  | bin (b : Bool) (o : Op) (x y : Ex)
  | neg (x : Ex)
  | cmp (o : Cop) (x y : Ex)
  | chain (o o' : Cop) (x y z : Ex)
  | isN (x : Ex) | notN (x : Ex)
  /-- x is True, x is False, and not so; the value's kind: any -/
  | isB (k : Bool) (x : Ex) | notB (k : Bool) (x : Ex)
  /-- x[::-1] -/
  | rev (b : Bool) (x : Ex)
  | and (x y : Ex) | or (x y : Ex) | not (x : Ex)
  | ite (c : Tx) (x y : Ex)
  | call (b : Bool) (f : Nat) (as : List Ex)
  | meth (b : Bool) (m : Nat) (o : Ex) (as : List Ex)
  | make (b : Bool) (c : Nat) (as : List Ex)
  | tup (as : List Ex) | lst (b : Bool) (as : List Ex)
  | dic (b : Bool) (ks vs : List Ex)
  | dicT (b : Bool)
  | idx (x i : Ex) | slc (b : Bool) (x : Ex) (lo hi : Option Ex)
  | fld (x : Ex) (f : Nat)
  | exf (i f : Nat)
  | bf (b : Bool) (f : Bf) (as : List Ex)
  | bm (b : Bool) (m : Bm) (x : Ex) (as : List Ex)
  | mm (m : Mm) (x : Ex) (as : List Ex)
  | isi (x : Ex) (ts : List Ty)
  /-- f'..': texts and numbers one behind the other -/
  | fst (as : List Ex)
  /-- [e for tg in it if c]; how: 0 the value itself, 1 range(n), 2 range(a, b), 3 enumerate, 4 zip, 5 items, 6 values, 7 reversed -/
  | comp (b : Bool) (tg : Tg) (how : Nat) (it : List Ex) (c : List Tx) (e : Ex)
inductive Tx where
  /-- a value by its truth; a value that is a bool -/
  | v (x : Ex) | b (x : Ex)
  | not (x : Tx) | and (x y : Tx) | or (x y : Tx)
end

/-- handlers: a class, the name that it has (or none), what is done -/
inductive Sm where
  | asg (tg : Tg) (e : Ex)
  | par (is : List Nat) (es : List Ex)
  | sub (o i e : Ex)
  | slcS (o : Ex) (lo hi : Ex) (e : Ex)
  | fldS (o : Ex) (f : Nat) (e : Ex)
  | aug (i : Nat) (o : Op) (e : Ex)
  | exp (e : Ex)
  | ifs (c : Tx) (a b : List Sm)
  | whl (c : Tx) (b : List Sm)
  | for_ (tg : Tg) (how : Nat) (it : List Ex) (b : List Sm)
  | ret (e : Ex) | retN
  | raise (c : Nat) (as : List Ex)
  | try_ (b : List Sm) (cs : List Nat) (ns : List (Option Nat)) (hs : List (List Sm))
  | tryE (b : List Sm) (cs : List Nat) (ns : List (Option Nat)) (hs : List (List Sm)) (el : List Sm)
  | pass | cont | brk

/-! expressions: a flag true says that what is made is a cell of the store -/
/-! ### data -/
def get (S : Sto) : D → D
  | .cell n => S.getD n .non
  | d => d
/-- a new list, dict, object: a cell, or data -/
def mkF (b : Bool) (c : D) (S : Sto) : R D := if b then .ok (.cell S.length) (S ++ [c]) else .ok c S
mutual
/-- no cell in it -/
def nc : D → Bool
  | .tup xs => ncs xs
  | .lst xs => ncs xs
  | .dK kvs => ncK kvs
  | .dT kvs => ncT kvs
  | .obj _ fs => ncF fs
  | .cell _ => false
  | .scr xs => ncs xs
  | _ => true
def ncs : List D → Bool
  | [] => true
  | d :: r => nc d && ncs r
def ncK : List (Ky × D) → Bool
  | [] => true
  | (_, d) :: r => nc d && ncK r
def ncT : List (List Ky × D) → Bool
  | [] => true
  | (_, d) :: r => nc d && ncT r
def ncF : List (Nat × D) → Bool
  | [] => true
  | (_, d) :: r => nc d && ncF r
end
mutual
/-- cells from n0 on are put for what stands in them, by f -/
def resW (n0 : Nat) (f : Nat → Option D) : D → Option D
  | .tup xs => (resWs n0 f xs).map .tup
  | .lst xs => (resWs n0 f xs).map .lst
  | .dK kvs => (resWK n0 f kvs).map .dK
  | .dT kvs => (resWT n0 f kvs).map .dT
  | .obj c fs => (resWF n0 f fs).map (.obj c)
  | .cell n => if n < n0 then some (.cell n) else f n
  | .non => some .non
  | .bl b => some (.bl b)
  | .int i => some (.int i)
  | .str x => some (.str x)
  | .scr xs => (resWs n0 f xs).map .scr
def resWs (n0 : Nat) (f : Nat → Option D) : List D → Option (List D)
  | [] => some []
  | d :: r => match resW n0 f d, resWs n0 f r with
    | some a, some b => some (a :: b)
    | _, _ => none
def resWK (n0 : Nat) (f : Nat → Option D) : List (Ky × D) → Option (List (Ky × D))
  | [] => some []
  | (k, d) :: r => match resW n0 f d, resWK n0 f r with
    | some a, some b => some ((k, a) :: b)
    | _, _ => none
def resWT (n0 : Nat) (f : Nat → Option D) : List (List Ky × D) → Option (List (List Ky × D))
  | [] => some []
  | (k, d) :: r => match resW n0 f d, resWT n0 f r with
    | some a, some b => some ((k, a) :: b)
    | _, _ => none
def resWF (n0 : Nat) (f : Nat → Option D) : List (Nat × D) → Option (List (Nat × D))
  | [] => some []
  | (k, d) :: r => match resW n0 f d, resWF n0 f r with
    | some a, some b => some ((k, a) :: b)
    | _, _ => none
end
def isCont : D → Bool
  | .lst _ => true
  | .dK _ => true
  | .dT _ => true
  | .obj _ _ => true
  | _ => false
def res (n0 : Nat) (S : Sto) : Nat → D → Option D
  | 0, d => resW n0 (fun _ => none) d
  | h + 1, d => resW n0 (fun n => match S[n]? with
    | some c => if isCont c then res n0 S h c else none
    | none => none) d
def hops : Nat := 4
/-- a function's end, the store as long as at its begin -/
def exitV (n0 : Nat) (keep : Bool) (d : D) (S : Sto) : RF := if keep then .val d S else match d with
  | .cell n => if n < n0 then .val d (S.take n0) else match S[n]? with
    | some c => if isCont c then (match res n0 (S.set n .non) hops c with
      | some c' => .fresh c' (S.take n0)
      | none => .stuck) else .stuck
    | none => .stuck
  | d => match res n0 S hops d with
    | some d' => .val d' (S.take n0)
    | none => .stuck
def exitX (n0 : Nat) (keep : Bool) (c : Nat) (fs : Fds) (S : Sto) : RF := if keep then .ex c fs S else match resWF n0 (fun n => match S[n]? with
    | some c => if isCont c then res n0 S hops c else none
    | none => none) fs with
  | some fs' => .ex c fs' (S.take n0)
  | none => .stuck

/-! ### data as PySem's PyData, for == and repr -/
abbrev PD := PySem.PyData
def kyP : Ky → PD
  | .i z => .int z
  | .s x => .str ⟨x.toArray⟩
mutual
def toPW (f : Nat → Option PD) : D → Option PD
  | .non => some .none
  | .bl b => some (.bool b)
  | .int i => some (.int i)
  | .str x => some (.str ⟨x.toArray⟩)
  | .tup xs => (toPWs f xs).map .tuple
  | .lst xs => (toPWs f xs).map .list
  | .dK kvs => (toPWK f kvs).map .dict
  | .dT _ => none
  | .obj _ _ => none
  | .scr _ => none
  | .cell n => f n
def toPWs (f : Nat → Option PD) : List D → Option (List PD)
  | [] => some []
  | d :: r => match toPW f d, toPWs f r with
    | some a, some b => some (a :: b)
    | _, _ => none
def toPWK (f : Nat → Option PD) : List (Ky × D) → Option (List (PD × PD))
  | [] => some []
  | (k, d) :: r => match toPW f d, toPWK f r with
    | some a, some b => some ((kyP k, a) :: b)
    | _, _ => none
end
def toP (S : Sto) : Nat → D → Option PD
  | 0, d => toPW (fun _ => none) d
  | h + 1, d => toPW (fun n => match S[n]? with
    | some c => toP S h c
    | none => none) d

/-! ### operators -/
def mulOk (i j : Int) : Bool := decide (i.natAbs < 18446744073709551616) || decide (j.natAbs < 18446744073709551616)
/-- texts have at most so many signs, lists so many items (the model's lines lie higher) -/
def big : Nat := 100000
def binI (o : Op) (i j : Int) : Option Int := match o with
  | .add => some (i + j)
  | .sub => some (i - j)
  | .mul => if mulOk i j then some (i * j) else none
  | .mod => if 0 < j then some (i % j) else none
  | .fdiv => if 0 < j ∧ j < 1000000000000000000000000000000 then some (i / j) else none
  | .pow => if 0 ≤ j ∧ j ≤ 1000 ∧ i.natAbs < 18446744073709551616 then some (i ^ j.toNat) else none
def binD (b : Bool) (o : Op) (x y : D) (S : Sto) : R D := match x, y with
  | .int i, .int j => match binI o i j with
    | some k => .ok (.int k) S
    | none => .stuck
  | .str x, .str y => match o with
    | .add => if x.length + y.length ≤ big then .ok (.str (x ++ y)) S else .stuck
    | _ => .stuck
  | .str x, .int k => match o with
    | .mul => if k.natAbs ≤ big ∧ x.length * k.toNat ≤ big then .ok (.str (List.replicate k.toNat x).flatten) S else .stuck
    | _ => .stuck
  | .tup x, .tup y => match o with
    | .add => if x.length + y.length ≤ big then .ok (.tup (x ++ y)) S else .stuck
    | _ => .stuck
  | x, .int k => match get S x with
    | .lst xs => (match o with
      | .mul => if k.natAbs ≤ big ∧ xs.length * k.toNat ≤ big then mkF b (.lst (List.replicate k.toNat xs).flatten) S else .stuck
      | _ => .stuck)
    | _ => .stuck
  | x, y => match get S x, get S y with
    | .lst xs, .lst ys => (match o with
      | .add => if xs.length + ys.length ≤ big then mkF b (.lst (xs ++ ys)) S else .stuck
      | _ => .stuck)
    | _, _ => .stuck
/-- lists of unlike lengths -/
def lenNe : D → D → Bool
  | .lst xs, .lst ys => xs.length != ys.length
  | .dK _, .tup _ => true
  | .tup _, .dK _ => true
  | _, _ => false
/-- == of data -/
def eqD (S : Sto) (x y : D) : Option Bool := match x, y with
  | .int i, .int j => some (decide (i = j))
  | .str i, .str j => some (decide (i = j))
  | x, y => if lenNe (get S x) (get S y) = true then some false else match toP S 4 x, toP S 4 y with
    | some p, some q => if PySem.SeqAt.shaped p && PySem.SeqAt.shaped q then some (PySem.PyData.eqv p q) else none
    | _, _ => none
def flatD : D → Bool
  | .non => true
  | .bl _ => true
  | .int _ => true
  | .str _ => true
  | _ => false
def eqF : D → D → Bool
  | .non, .non => true
  | .bl a, .bl b => a == b
  | .bl a, .int b => (if a then 1 else 0) == b
  | .int a, .bl b => a == (if b then 1 else 0)
  | .int a, .int b => decide (a = b)
  | .str a, .str b => decide (a = b)
  | _, _ => false
def anyEq (S : Sto) (x : D) (ys : List D) : Option Bool := if flatD x && ys.all flatD then some (ys.any fun y => eqF y x) else none
def kyOf : D → Option Ky
  | .int i => some (.i i)
  | .str x => some (.s x)
  | _ => none
def dget (k : Ky) : List (Ky × D) → Option D
  | [] => none
  | (k', d) :: r => if k' = k then some d else dget k r
/-- in of closed data -/
def inP (S : Sto) (x y : D) : Option Bool := match toP S 4 x, toP S 4 y with
  | some d, some (.list ds) => if (d.canLay0 && decide (d.depth ≤ 40) && PySem.PyData.canLayAll0 ds) = true then some (ds.any fun z => PySem.PyData.eqv z d) else none
  | some d, some (.tuple ds) => if (d.canLay0 && decide (d.depth ≤ 40) && PySem.PyData.canLayAll0 ds) = true then some (ds.any fun z => PySem.PyData.eqv z d) else none
  | _, _ => none
def orO (a b : Option Bool) : Option Bool := match a with
  | some c => some c
  | none => b
def inD (S : Sto) (x y : D) : Option Bool := match x, y with
  | .str [c], .str z => some (decide (c ∈ z))
  | x, y => match get S y with
    | .lst ys => orO (anyEq S x ys) (inP S x y)
    | .tup ys => orO (anyEq S x ys) (inP S x y)
    | .dK kvs => (kyOf x).map fun k => (dget k kvs).isSome
    | _ => none
def cmpD (o : Cop) (S : Sto) (x y : D) : Option Bool := match o with
  | .eq => eqD S x y
  | .ne => (eqD S x y).map (!·)
  | .in_ => inD S x y
  | .nin => (inD S x y).map (!·)
  | o => match x, y with
    | .int i, .int j => some (match o with
      | .lt => decide (i < j)
      | .le => decide (i ≤ j)
      | .gt => decide (j < i)
      | _ => decide (j ≤ i))
    | _, _ => none
def truD (S : Sto) (x : D) : Option Bool := match get S x with
  | .non => some false
  | .bl b => some b
  | .int i => some (i != 0)
  | .str x => if x.length ≤ big then some (!x.isEmpty) else none
  | .lst xs => some (!xs.isEmpty)
  | .tup xs => some (!xs.isEmpty)
  | _ => none
/-- the place that an index tells -/
def ix (n : Nat) (i : Int) : Option Nat := if 0 ≤ i then (if i < n then some i.toNat else none) else if -(n : Int) ≤ i then some (i + n).toNat else none
def idxD (S : Sto) (x i : D) : Option D := match get S x, i with
  | .lst xs, .int i => (ix xs.length i).bind fun k => xs[k]?
  | .scr xs, .int i => (ix xs.length i).bind fun k => xs[k]?
  | .tup xs, .int i => (ix xs.length i).bind fun k => xs[k]?
  | .str x, .int i => if x.length ≤ big then (ix x.length i).bind fun k => (x[k]?).map fun c => .str [c] else none
  | .dK kvs, k => (kyOf k).bind fun k => dget k kvs
  | _, _ => none
/-- where a slice begins, ends -/
def sli (n d : Nat) : Option Int → Nat
  | none => d
  | some i => if i < 0 then (i + n).toNat else min i.toNat n
def cutD {α : Type} (xs : List α) (lo hi : Option Int) : List α := (xs.drop (sli xs.length 0 lo)).take (sli xs.length xs.length hi - sli xs.length 0 lo)
def slcD (b : Bool) (x : D) (lo hi : Option Int) (S : Sto) : R D := match get S x with
  | .lst xs => mkF b (.lst (cutD xs lo hi)) S
  | .str x => if x.length ≤ big then .ok (.str (cutD x lo hi)) S else .stuck
  | .tup xs => .ok (.tup (cutD xs lo hi)) S
  | _ => .stuck
/-- a text cut at a sign -/
def splC (c : Nat) : List Nat → List Nat → List (List Nat)
  | acc, [] => [acc]
  | acc, d :: r => if d = c then acc :: splC c [] r else splC c (acc ++ [d]) r
def oInt : Option D → Option (Option Int)
  | none => some none
  | some (.int i) => some (some i)
  | _ => none
def fget (f : Nat) : Fds → Option D
  | [] => none
  | (g, d) :: r => if g = f then some d else fget f r
def fput (f : Nat) (d : D) : Fds → Fds
  | [] => [(f, d)]
  | (g, e) :: r => if g = f then (f, d) :: r else (g, e) :: fput f d r
def fldD (S : Sto) (x : D) (f : Nat) : Option D := match get S x with
  | .obj _ fs => fget f fs
  | _ => none
/-- a cell may be told a value: it is younger than the function, or the value has no cell -/
def may (bs n : Nat) (d : D) : Bool := decide (bs ≤ n) || nc d

/-- decimal figures -/
def dec (i : Int) : List Nat := (PySem.Str.ofString (toString i)).cps.toList
def small (i : Int) : Bool := decide (i.natAbs < 10000000000000000000000000000000000000000)
def tyD (sub : Nat → Nat → Bool) (t : Ty) : D → Option Bool
  | .non => some false
  | .bl _ => some (match t with
    | .int => true
    | .bool => true
    | _ => false)
  | .int _ => some (match t with
    | .int => true
    | _ => false)
  | .str _ => some (match t with
    | .str => true
    | _ => false)
  | .lst _ => some (match t with
    | .list => true
    | _ => false)
  | .tup _ => some (match t with
    | .tuple => true
    | _ => false)
  | .dK _ => some (match t with
    | .dict => true
    | _ => false)
  | .obj c _ => some (match t with
    | .cls c' => sub c c'
    | _ => false)
  | _ => none
end EL

/-! ELb: what an expression, a statement, a function does. -/
namespace EL
/-- the program's tables -/
structure Pg where
  fn : Nat → Nat → List D → Sto → RF
  mth : Nat → Nat → Option Nat
  ini : Nat → Option Nat
  sub : Nat → Nat → Bool
  exf : Nat → List Nat
  gls : Nat → D
/-- where one evaluates: the tables, the store's length at the function's begin, the fields of the exception that is handled -/
structure Cn where
  pg : Pg
  bs : Nat
  hx : Fds

/-! ### builtin functions and methods -/
def allB : List D → Option (List Bool)
  | [] => some []
  | .bl b :: r => (allB r).map (b :: ·)
  | _ :: _ => none
def allI : List D → Option (List Int)
  | [] => some []
  | .int b :: r => (allI r).map (b :: ·)
  | _ :: _ => none
def allS : List D → Option (List (List Nat))
  | [] => some []
  | .str b :: r => (allS r).map (b :: ·)
  | _ :: _ => none
def lenD (S : Sto) (x : D) : Option Nat := match get S x with
  | .lst xs => some xs.length
  | .scr xs => some xs.length
  | .tup xs => some xs.length
  | .str x => if x.length ≤ big then some x.length else none
  | .dK kvs => some kvs.length
  | _ => none
/-! how large a text repr makes of data at most -/
mutual
def wP : PD → Nat
  | .none => 4
  | .bool _ => 5
  | .int i => if i.natAbs < 10000000000000000000000000000000000000000 then 41 else 1000000
  | .str x => if x.cps.toList.all (fun c => decide (c < 1114112)) then 10 * x.length + 2 else 1000000
  | .list xs => wPs xs + 3
  | .tuple xs => wPs xs + 3
  | .dict kvs => wPk kvs + 3
def wPs : List PD → Nat
  | [] => 0
  | d :: r => wP d + 2 + wPs r
def wPk : List (PD × PD) → Nat
  | [] => 0
  | (k, d) :: r => wP k + wP d + 4 + wPk r
end
def reprD (S : Sto) (x : D) : Option (List Nat) := match toP S 4 x with
  | some p => if wP p ≤ big ∧ p.depth ≤ 40 then some p.shown.cps.toList else none
  | none => none
def optR (o : Option D) (S : Sto) : R D := match o with
  | some d => .ok d S
  | none => .stuck
def maxD : D → D → Option D
  | .int i, .int j => some (.int (if j > i then j else i))
  | _, _ => none
def minD : D → D → Option D
  | .int i, .int j => some (.int (if j < i then j else i))
  | _, _ => none
def listD (S : Sto) (x : D) : Option (List D) := match get S x with
  | .lst xs => some xs
  | .tup xs => some xs
  | _ => none
/-- a text of figures -/
def figs (x : List Nat) : Bool := !x.isEmpty && x.all (fun c => decide (48 ≤ c) && decide (c ≤ 57)) && decide (x.length ≤ 600)
def numN (a : Nat) (x : List Nat) : Nat := x.foldl (fun a c => a * 10 + (c - 48)) a
/-- where a sign stands first -/
def findC (c : Nat) : Nat → List Nat → Int
  | _, [] => -1
  | i, d :: r => if d = c then i else findC c (i + 1) r
/-- numbers in order -/
def insI (i : Int) : List Int → List Int
  | [] => [i]
  | j :: r => if i ≤ j then i :: j :: r else j :: insI i r
def sortI : List Int → List Int
  | [] => []
  | i :: r => insI i (sortI r)
/-- pairs of a key and a value -/
def pairT : List D → Option (List (Ky × D))
  | [] => some []
  | .tup [k, d] :: r => match kyOf k, pairT r with
    | some k, some r => some ((k, d) :: r)
    | _, _ => none
  | _ => none
def dput (k : Ky) (d : D) (kvs : List (Ky × D)) : List (Ky × D) := if (kvs.any fun kv => decide (kv.1 = k)) = true then kvs.map (fun kv => if kv.1 = k then (kv.1, d) else kv) else kvs ++ [(k, d)]
def mergeD (acc kvs : List (Ky × D)) : List (Ky × D) := kvs.foldl (fun acc kv => dput kv.1 kv.2 acc) acc
/-- the greatest, the least number -/
def mxI (i : Int) (r : List Int) : Int := r.foldl (fun a b => if b > a then b else a) i
def mnI (i : Int) (r : List Int) : Int := r.foldl (fun a b => if b < a then b else a) i
def mxD (S : Sto) (x : D) : Option D := match get S x with
  | .lst xs => (match allI xs with
    | some (i :: r) => some (.int (mxI i r))
    | _ => none)
  | _ => none
def mnD (S : Sto) (x : D) : Option D := match get S x with
  | .lst xs => (match allI xs with
    | some (i :: r) => some (.int (mnI i r))
    | _ => none)
  | _ => none
def srtD (b : Bool) (S : Sto) (x : D) : R D := match get S x with
  | .lst xs => (match allI xs with
    | some ns => if ns.length < 64 then mkF b (.lst ((sortI ns).map .int)) S else .stuck
    | none => .stuck)
  | _ => .stuck
def dicC (b : Bool) (S : Sto) (x : D) : R D := match get S x with
  | .dK kvs => mkF b (.dK kvs) S
  | .lst xs => (match pairT xs with
    | some kvs => mkF b (.dK (mergeD [] kvs)) S
    | none => .stuck)
  | _ => .stuck
def bfD (b : Bool) (f : Bf) (as : List D) (S : Sto) : R D := match f, as with
  | .len, [x] => optR ((lenD S x).map fun n => .int n) S
  | .str, [.int i] => if small i then .ok (.str (dec i)) S else .stuck
  | .int, [.int i] => .ok (.int i) S
  | .int, [.bl k] => .ok (.int (if k then 1 else 0)) S
  | .int, [.str x] => if figs x then .ok (.int (numN 0 x)) S else .stuck
  | .repr, [x] => optR ((reprD S x).map .str) S
  | .max, [x, y] => optR (maxD x y) S
  | .min, [x, y] => optR (minD x y) S
  | .max, [x] => optR (mxD S x) S
  | .min, [x] => optR (mnD S x) S
  | .sum, [x] => optR (match get S x with
    | .lst xs => (allI xs).map fun ns => .int ns.sum
    | _ => none) S
  | .all, [x] => optR (match get S x with
    | .lst xs => (allB xs).map fun bs => .bl (bs.all id)
    | _ => none) S
  | .any, [x] => optR (match get S x with
    | .lst xs => (allB xs).map fun bs => .bl (bs.any id)
    | _ => none) S
  | .abs, [.int i] => .ok (.int (if i < 0 then -i else i)) S
  | .divmod, [.int i, .int j] => if 0 < j ∧ j < 1073741824 then .ok (.tup [.int (i / j), .int (i % j)]) S else .stuck
  | .list, [x] => match listD S x with
    | some xs => mkF b (.lst xs) S
    | none => .stuck
  | .tuple, [x] => match get S x with
    | .lst xs => .ok (.tup xs) S
    | .tup xs => .ok x S
    | _ => .stuck
  | .sorted, [x] => srtD b S x
  | .dict, [x] => dicC b S x
  | _, _ => .stuck
/-- texts with a text between each two -/
def joinT (sep : List Nat) : List (List Nat) → List Nat
  | [] => []
  | [x] => x
  | x :: y :: r => x ++ (sep ++ joinT sep (y :: r))
def lenT (sep : Nat) : List (List Nat) → Nat
  | [] => 0
  | x :: r => x.length + sep + lenT sep r
def strsD (S : Sto) (x : D) : Option (List (List Nat)) := match get S x with
  | .lst xs => allS xs
  | .tup xs => allS xs
  | _ => none
/-- of what kind the receiver is -/
def rcv (m : Bm) (d : D) : Bool := match m, d with
  | .join, .str _ => true
  | .split, .str _ => true
  | .find, .str _ => true
  | .replace, .str _ => true
  | .partition, .str _ => true
  | .upper, .str _ => true
  | .zfill, .str _ => true
  | .get, .dK _ => true
  | .get2, .dK _ => true
  | .items, .dK _ => true
  | .values, .dK _ => true
  | .index, .lst _ => true
  | .count, .lst _ => true
  | _, _ => false
/-- a capital letter -/
def upC (c : Nat) : Nat := if 97 ≤ c ∧ c ≤ 122 then c - 32 else c
/-- where == stands first -/
def ixF (y : D) : Nat → List D → Option Nat
  | _, [] => none
  | i, d :: r => if eqF d y then some i else ixF y (i + 1) r
def dgD (S : Sto) (x k d : D) : R D := match get S x with
  | .dK kvs => (match kyOf k with
    | some q => .ok ((dget q kvs).getD d) S
    | none => .stuck)
  | _ => .stuck
def ixD (S : Sto) (x y : D) : R D := match get S x with
  | .lst ys => if (flatD y && ys.all flatD) = true then (match ixF y 0 ys with
    | some j => .ok (.int (j : Nat)) S
    | none => .stuck) else .stuck
  | _ => .stuck
def bmD (b : Bool) (m : Bm) (x : D) (as : List D) (S : Sto) : R D := match m, x, as with
  | .join, .str sep, [y] => match strsD S y with
    | some xs => if lenT sep.length xs ≤ big then .ok (.str (joinT sep xs)) S else .stuck
    | none => .stuck
  | .find, .str x, [.str [c]] => .ok (.int (findC c 0 x)) S
  | .split, .str x, [.str [c]] => if c < 256 ∧ x.length ≤ big then mkF b (.lst ((splC c [] x).map .str)) S else .stuck
  | .upper, .str x, [] => if x.length ≤ big ∧ (x.all fun c => decide (c < 128)) = true then .ok (.str (x.map upC)) S else .stuck
  | .get, x, [k] => dgD S x k .non
  | .get2, x, [k, d] => dgD S x k d
  | .index, x, [y] => ixD S x y
  | _, _, _ => .stuck
/-- a cell's new content -/
def setC (S : Sto) (n : Nat) (c : D) : Sto := S.set n c
def popD (xs : List D) (i : D) : Option (D × List D) := match i with
  | .int i => if xs.length ≤ big then (ix xs.length i).bind fun k => (xs[k]?).map fun y => (y, xs.eraseIdx k) else none
  | _ => none
def mmD (bs : Nat) (m : Mm) (x : D) (as : List D) (S : Sto) : R D := match x with
  | .cell n => match S[n]?, m, as with
    | some (.lst xs), .append, [y] => if xs.length < big ∧ may bs n y = true then .ok .non (setC S n (.lst (xs ++ [y]))) else .stuck
    | some (.lst xs), .pop, [] => (match xs.getLast? with
      | some y => .ok y (setC S n (.lst xs.dropLast))
      | none => .stuck)
    | some (.lst xs), .popAt, [i] => (match popD xs i with
      | some (y, ys) => .ok y (setC S n (.lst ys))
      | none => .stuck)
    | some (.lst xs), .reverse, [] => .ok .non (setC S n (.lst xs.reverse))
    | some (.lst xs), .clear, [] => .ok .non (setC S n (.lst []))
    | some (.lst xs), .extend, [y] => (match get S y with
      | .lst ys => if xs.length + ys.length < big ∧ (decide (bs ≤ n) || ncs ys) = true then .ok .non (setC S n (.lst (xs ++ ys))) else .stuck
      | _ => .stuck)
    | _, _, _ => .stuck
  | _ => .stuck

/-- o[i] = d -/
def subD (bs : Nat) (o i d : D) (S : Sto) : Option Sto := match o with
  | .cell n => match S[n]? with
    | some (.lst xs) => (match i with
      | .int i => (ix xs.length i).bind fun k => if may bs n d then some (setC S n (.lst (xs.set k d))) else none
      | _ => none)
    | some (.dK kvs) => (kyOf i).bind fun k => if may bs n d = true ∧ kvs.length < big then some (setC S n (.dK (dput k d kvs))) else none
    | _ => none
  | _ => none
def pairD : List D → Option (List (Ky × D))
  | [] => some []
  | k :: d :: r => match kyOf k, pairD r with
    | some k, some r => some ((k, d) :: r)
    | _, _ => none
  | _ => none
/-! ### targets, what is gone through -/
mutual
def bindT (S : Sto) : Tg → D → Loc → Option Loc
  | .v i, d, l => some (l.set i (some d))
  | .t ts, d, l => match get S d with
    | .tup ds => bindTs S ts ds l
    | .lst ds => bindTs S ts ds l
    | _ => none
def bindTs (S : Sto) : List Tg → List D → Loc → Option Loc
  | [], [], l => some l
  | t :: ts, d :: ds, l => (bindT S t d l).bind (bindTs S ts ds)
  | _, _, _ => none
end
mutual
def tgs : Tg → List Nat
  | .v i => [i]
  | .t ts => tgss ts
def tgss : List Tg → List Nat
  | [] => []
  | t :: r => tgs t ++ tgss r
end
def wipeL (l : Loc) : List Nat → Loc
  | [] => l
  | i :: r => (wipeL l r).set i none
/-- the item at i, or the end; how: 0 a list's, a tuple's, a text's; 1 range(n); 2 range(a, b); 3 enumerate; 4 zip -/
def item0 (as : List D) (S : Sto) (i : Nat) : Option (Option D) := match as with
  | [x] => (match get S x with
    | .lst xs => some xs[i]?
    | .tup xs => some xs[i]?
    | .str x => some ((x[i]?).map fun c => .str [c])
    | _ => none)
  | _ => none
def item1 (as : List D) (i : Nat) : Option (Option D) := match as with
  | [.int n] => if -1000000000 < n ∧ n < 1000000000 then some (if i < n.toNat then some (.int i) else none) else none
  | _ => none
def item2 (as : List D) (i : Nat) : Option (Option D) := match as with
  | [.int a, .int b] => if (-1000000000 < a ∧ a < 1000000000) ∧ (-1000000000 < b ∧ b < 1000000000) then some (if i < (b - a).toNat then some (.int (a + i)) else none) else none
  | _ => none
def item3 (as : List D) (S : Sto) (i : Nat) : Option (Option D) := match as with
  | [x] => (match get S x with
    | .lst xs => some ((xs[i]?).map fun d => .tup [.int i, d])
    | .tup xs => some ((xs[i]?).map fun d => .tup [.int i, d])
    | .str x => some ((x[i]?).map fun c => .tup [.int i, .str [c]])
    | _ => none)
  | _ => none
def item4 (as : List D) (S : Sto) (i : Nat) : Option (Option D) := match as with
  | [x, y] => (match get S x, get S y with
    | .lst xs, .lst ys => some (match xs[i]?, ys[i]? with
      | some a, some b => some (.tup [a, b])
      | _, _ => none)
    | _, _ => none)
  | _ => none
def itemD (how : Nat) (as : List D) (S : Sto) (i : Nat) : Option (Option D) := match how with
  | 0 => item0 as S i
  | 1 => item1 as i
  | 2 => item2 as i
  | 3 => item3 as S i
  | 4 => item4 as S i
  | _ => none
@[irreducible] def fuel : Nat := 1000000
theorem fuel_eq : fuel = 999999 + 1 := by unfold fuel; rfl
/-- a comprehension's list -/
def compG (tg : Tg) (l : Loc) (c : Loc → Sto → R Bool) (e : Loc → Sto → R D) (how : Nat) (ds : List D) : Nat → Nat → List D → Sto → R (List D)
  | 0, _, _, _ => .stuck
  | h + 1, i, acc, S => match itemD how ds S i with
    | none => .stuck
    | some none => .ok acc S
    | some (some x) => match bindT S tg x l with
      | none => .stuck
      | some l2 => match c l2 S with
        | .ok false S1 => compG tg l c e how ds h (i + 1) acc S1
        | .ok true S1 => (match e l2 S1 with
          | .ok d S2 => if acc.length < big then compG tg l c e how ds h (i + 1) (acc ++ [d]) S2 else .stuck
          | _ => .stuck)
        | _ => .stuck

/-! ### expressions -/
def isBl (k : Bool) : D → Option Bool
  | .bl b => some (decide (b = k))
  | .int _ => some false
  | _ => none
def isNon : D → Bool
  | .non => true
  | _ => false
def rfE (b : Bool) : RF → R D
  | .val d S => .ok d S
  | .fresh c S => mkF b c S
  | .ex c fs S => .ex c fs S
  | .stuck => .stuck
/-- a new object, made by its __init__: n its cell -/
def madeE (b : Bool) (n : Nat) : RF → R D
  | .val .non S => if b then .ok (.cell n) S else rfE false (exitV n false (.cell n) S)
  | .ex c fs S => if b then .ex c fs S else rfE false (exitX n false c fs S)
  | _ => .stuck
def anyTy (sub : Nat → Nat → Bool) (d : D) : List Ty → Option Bool
  | [] => some false
  | t :: r => match tyD sub t d, anyTy sub d r with
    | some a, some b => some (a || b)
    | _, _ => none
def asB : R D → R Bool
  | .ok (.bl b) S => .ok b S
  | .ok _ _ => .stuck
  | .ex c fs S => .ex c fs S
  | .stuck => .stuck
def asT (r : R D) : R Bool := match r with
  | .ok d S => (match truD S d with
    | some b => .ok b S
    | none => .stuck)
  | .ex c fs S => .ex c fs S
  | .stuck => .stuck
/-- what stands in an f'..' -/
def fmtD : D → Option (List Nat)
  | .str x => if x.length ≤ big then some x else none
  | .int i => if small i then some (dec i) else none
  | _ => none
mutual
def evE (C : Cn) : Ex → Loc → Sto → R D
  | .var i, l, S => match l[i]? with
    | some (some d) => .ok d S
    | _ => .stuck
  | .non, _, S => .ok .non S
  | .bl b, _, S => .ok (.bl b) S
  | .int i, _, S => .ok (.int i) S
  | .str x, _, S => .ok (.str x) S
  | .gl g, _, S => .ok (C.pg.gls g) S
  | .bin b o x y, l, S => (evE C x l S).bind fun u S1 => (evE C y l S1).bind fun v S2 => binD b o u v S2
  | .neg x, l, S => (evE C x l S).bind fun u S1 => match u with
    | .int i => .ok (.int (-i)) S1
    | _ => .stuck
  | .cmp o x y, l, S => (evE C x l S).bind fun u S1 => (evE C y l S1).bind fun v S2 => optR ((cmpD o S2 u v).map .bl) S2
  | .chain o o' x y z, l, S => (evE C x l S).bind fun u S1 => (evE C y l S1).bind fun v S2 => match cmpD o S2 u v with
    | some true => (evE C z l S2).bind fun w S3 => optR ((cmpD o' S3 v w).map .bl) S3
    | some false => .ok (.bl false) S2
    | none => .stuck
  | .isN x, l, S => (evE C x l S).bind fun u S1 => .ok (.bl (isNon u)) S1
  | .notN x, l, S => (evE C x l S).bind fun u S1 => .ok (.bl (!isNon u)) S1
  | .isB k x, l, S => (evE C x l S).bind fun u S1 => optR ((isBl k u).map .bl) S1
  | .notB k x, l, S => (evE C x l S).bind fun u S1 => optR ((isBl k u).map fun b => .bl (!b)) S1
  | .rev b x, l, S => (evE C x l S).bind fun u S1 => match get S1 u with
    | .lst xs => mkF b (.lst xs.reverse) S1
    | _ => .stuck
  | .and x y, l, S => (evE C x l S).bind fun u S1 => match u with
    | .bl true => evE C y l S1
    | .bl false => .ok (.bl false) S1
    | _ => .stuck
  | .or x y, l, S => (evE C x l S).bind fun u S1 => match u with
    | .bl false => evE C y l S1
    | .bl true => .ok (.bl true) S1
    | _ => .stuck
  | .not x, l, S => (evE C x l S).bind fun u S1 => match u with
    | .bl b => .ok (.bl (!b)) S1
    | _ => .stuck
  | .ite c x y, l, S => (evT C c l S).bind fun b S1 => match b with
    | true => evE C x l S1
    | false => evE C y l S1
  | .call b f as, l, S => (evEs C as l S).bind fun ds S1 => rfE b (C.pg.fn f C.bs ds S1)
  | .meth b m o as, l, S => (evE C o l S).bind fun u S1 => match get S1 u with
    | .obj c _ => (match C.pg.mth c m with
      | some f => (evEs C as l S1).bind fun ds S2 => rfE b (C.pg.fn f C.bs (u :: ds) S2)
      | none => .stuck)
    | _ => .stuck
  | .make b c as, l, S => (evEs C as l S).bind fun ds S1 => match C.pg.ini c with
    | some f => madeE b S1.length (C.pg.fn f (if b then C.bs else S1.length) (.cell S1.length :: ds) (S1 ++ [.obj c []]))
    | none => .stuck
  | .tup as, l, S => (evEs C as l S).bind fun ds S1 => .ok (.tup ds) S1
  | .lst b as, l, S => (evEs C as l S).bind fun ds S1 => mkF b (.lst ds) S1
  | .dic b ks _, l, S => (evEs C ks l S).bind fun ds S1 => match pairD ds with
    | some kvs => if kvs.length ≤ 15 then mkF b (.dK (mergeD [] kvs)) S1 else .stuck
    | none => .stuck
  | .dicT b, l, S => mkF b (.dT []) S
  | .idx x i, l, S => (evE C x l S).bind fun u S1 => (evE C i l S1).bind fun v S2 => optR (idxD S2 u v) S2
  | .slc b x lo hi, l, S => (evE C x l S).bind fun u S1 => (evO C lo l S1).bind fun p S2 => (evO C hi l S2).bind fun q S3 => slcD b u p q S3
  | .fld x f, l, S => (evE C x l S).bind fun u S1 => optR (fldD S1 u f) S1
  | .exf i f, l, S => optR (fget f C.hx) S
  | .bf b f as, l, S => (evEs C as l S).bind fun ds S1 => bfD b f ds S1
  | .bm b m x as, l, S => (evE C x l S).bind fun u S1 => if rcv m (get S1 u) then (evEs C as l S1).bind fun ds S2 => bmD b m u ds S2 else .stuck
  | .mm m x as, l, S => (evE C x l S).bind fun u S1 => match get S1 u with
    | .lst _ => (evEs C as l S1).bind fun ds S2 => mmD C.bs m u ds S2
    | _ => .stuck
  | .isi x ts, l, S => (evE C x l S).bind fun u S1 => optR ((anyTy C.pg.sub (get S1 u) ts).map .bl) S1
  | .fst as, l, S => evFs C as [] l S
  | .comp b tg how it c e, l, S => (evEs C it l S).bind fun ds S1 => (compG tg (wipeL l (tgs tg)) (evTs C c) (evE C e) how ds fuel 0 [] S1).bind fun ys S2 => mkF b (.lst ys) S2
def evT (C : Cn) : Tx → Loc → Sto → R Bool
  | .v x, l, S => asT (evE C x l S)
  | .b x, l, S => asB (evE C x l S)
  | .not x, l, S => (evT C x l S).bind fun b S1 => .ok (!b) S1
  | .and x y, l, S => (evT C x l S).bind fun b S1 => match b with
    | true => evT C y l S1
    | false => .ok false S1
  | .or x y, l, S => (evT C x l S).bind fun b S1 => match b with
    | true => .ok true S1
    | false => evT C y l S1
def evEs (C : Cn) : List Ex → Loc → Sto → R (List D)
  | [], _, S => .ok [] S
  | e :: r, l, S => (evE C e l S).bind fun d S1 => (evEs C r l S1).bind fun ds S2 => .ok (d :: ds) S2
def evFs (C : Cn) : List Ex → List Nat → Loc → Sto → R D
  | [], acc, _, S => .ok (.str acc) S
  | e :: r, acc, l, S => (evE C e l S).bind fun d S1 => match fmtD d with
    | some y => if acc.length + y.length ≤ big then evFs C r (acc ++ y) l S1 else .stuck
    | none => .stuck
def evO (C : Cn) : Option Ex → Loc → Sto → R (Option Int)
  | none, _, S => .ok none S
  | some e, l, S => (evE C e l S).bind fun d S1 => match d with
    | .int i => .ok (some i) S1
    | _ => .stuck
def evTs (C : Cn) : List Tx → Loc → Sto → R Bool
  | [], _, S => .ok true S
  | [c], l, S => evT C c l S
  | _, _, _ => .stuck
end
end EL

/-! ELc: what a statement, a function does. -/
namespace EL
def bindS {α : Type} (r : R α) (l : Loc) (k : α → Sto → RS) : RS := match r with
  | .ok a S => k a S
  | .ex c fs S => .ex c fs l S
  | .stuck => .stuck
def isCell (n : Nat) : D → Bool
  | .cell m => decide (m = n)
  | _ => false
/-- o[a:b] = d -/
def slsD (bs : Nat) (o : D) (a b : Int) (d : D) (S : Sto) : Option Sto := match o with
  | .cell n => match S[n]?, get S d with
    | some (.lst xs), .lst ys => if (0 ≤ a ∧ a ≤ b) ∧ xs.length + ys.length < big ∧ (decide (bs ≤ n) || ncs ys) = true ∧ isCell n d = false then some (setC S n (.lst (xs.take a.toNat ++ ys ++ xs.drop b.toNat))) else none
    | _, _ => none
  | _ => none
/-- o.f = d -/
def fldSD (bs : Nat) (o : D) (f : Nat) (d : D) (S : Sto) : Option Sto := match o with
  | .cell n => match S[n]? with
    | some (.obj c fs) => if may bs n d = true ∧ fs.length < 100 then some (setC S n (.obj c (fput f d fs))) else none
    | _ => none
  | _ => none
def optS (o : Option Sto) (l : Loc) : RS := match o with
  | some S => .nx l S
  | none => .stuck
def loopG (tg : Tg) (b : Loc → Sto → RS) (how : Nat) (ds : List D) : Nat → Nat → Loc → Sto → RS
  | 0, _, _, _ => .stuck
  | h + 1, i, l, S => match itemD how ds S i with
    | none => .stuck
    | some none => .nx l S
    | some (some x) => match bindT S tg x l with
      | none => .stuck
      | some l2 => match b l2 S with
        | .nx l3 S3 => loopG tg b how ds h (i + 1) l3 S3
        | .ct l3 S3 => loopG tg b how ds h (i + 1) l3 S3
        | .bk l3 S3 => .nx l3 S3
        | q => q
def loopW (c : Loc → Sto → R Bool) (b : Loc → Sto → RS) : Nat → Loc → Sto → RS
  | 0, _, _ => .stuck
  | h + 1, l, S => match c l S with
    | .ok false S1 => .nx l S1
    | .ok true S1 => (match b l S1 with
      | .nx l3 S3 => loopW c b h l3 S3
      | .ct l3 S3 => loopW c b h l3 S3
      | .bk l3 S3 => .nx l3 S3
      | q => q)
    | .ex c fs S1 => .ex c fs l S1
    | .stuck => .stuck
/-- behind an except suite its name is gone -/
def gone (i : Option Nat) (l : Loc) : Loc := match i with
  | some i => l.set i none
  | none => l
def suiteEnd (i : Option Nat) : RS → RS
  | .nx l S => .nx (gone i l) S
  | .rt d S => .rt d S
  | _ => .stuck
mutual
def evS (C : Cn) : Sm → Loc → Sto → RS
  | .asg tg e, l, S => bindS (evE C e l S) l fun d S1 => match bindT S1 tg d l with
    | some l2 => .nx l2 S1
    | none => .stuck
  | .par is es, l, S => bindS (evEs C es l S) l fun ds S1 => match bindTs S1 (is.map .v) ds l with
    | some l2 => .nx l2 S1
    | none => .stuck
  | .sub o i e, l, S => bindS (evE C e l S) l fun d S1 => bindS (evE C o l S1) l fun u S2 => bindS (evE C i l S2) l fun k S3 => optS (subD C.bs u k d S3) l
  | .slcS o a b e, l, S => bindS (evE C e l S) l fun d S1 => bindS (evE C o l S1) l fun u S2 => bindS (evO C (some a) l S2) l fun i S3 => bindS (evO C (some b) l S3) l fun j S4 => match i, j with
    | some i, some j => optS (slsD C.bs u i j d S4) l
    | _, _ => .stuck
  | .fldS o f e, l, S => bindS (evE C e l S) l fun d S1 => bindS (evE C o l S1) l fun u S2 => optS (fldSD C.bs u f d S2) l
  | .aug i o e, l, S => match l[i]? with
    | some (some u) => bindS (evE C e l S) l fun d S1 => bindS (match u, d with
      | .int a, .int b => optR ((binI o a b).map .int) S1
      | _, _ => .stuck) l fun v S2 => .nx (l.set i (some v)) S2
    | _ => .stuck
  | .exp e, l, S => bindS (evE C e l S) l fun _ S1 => .nx l S1
  | .ifs c a b, l, S => bindS (evT C c l S) l fun k S1 => match k with
    | true => evSs C a l S1
    | false => evSs C b l S1
  | .whl c b, l, S => loopW (evT C c) (evSs C b) fuel l S
  | .for_ tg how it b, l, S => bindS (evEs C it l S) l fun ds S1 => loopG tg (evSs C b) how ds fuel 0 l S1
  | .ret e, l, S => bindS (evE C e l S) l fun d S1 => .rt d S1
  | .retN, _, S => .rt .non S
  | .raise c as, l, S => bindS (evEs C as l S) l fun ds S1 => if ds.length = (C.pg.exf c).length then .ex c ((C.pg.exf c).zip ds) l S1 else .stuck
  | .try_ b cs ns hs, l, S => match evSs C b l S with
    | .ex c fs l1 S1 => evHs C c fs l1 S1 hs cs ns
    | q => q
  | .tryE b cs ns hs el, l, S => match evSs C b l S with
    | .ex c fs l1 S1 => evHs C c fs l1 S1 hs cs ns
    | .nx l1 S1 => evSs C el l1 S1
    | q => q
  | .pass, l, S => .nx l S
  | .cont, l, S => .ct l S
  | .brk, l, S => .bk l S
def evSs (C : Cn) : List Sm → Loc → Sto → RS
  | [], l, S => .nx l S
  | s :: r, l, S => match evS C s l S with
    | .nx l1 S1 => evSs C r l1 S1
    | q => q
/-- the first clause whose class it is -/
def evHs (C : Cn) (c : Nat) (fs : Fds) (l : Loc) (S : Sto) : List (List Sm) → List Nat → List (Option Nat) → RS
  | [], _, _ => .ex c fs l S
  | h :: hs, k :: cs, i :: ns => if C.pg.sub c k then suiteEnd i (evSs { C with hx := fs } h (gone i l) S) else evHs C c fs l S hs cs ns
  | _ :: _, _, _ => .stuck
end
/-- a function: how many parameters, how many names, whether its cells outlive it, its body -/
structure Fd where
  np : Nat
  nl : Nat
  keep : Bool
  body : List Sm
def runF (pg : Pg) (f : Fd) (bs : Nat) (ds : List D) (S : Sto) : RF :=
  if ds.length = f.np then
    match evSs ⟨pg, if f.keep then bs else S.length, []⟩ f.body (ds.map some ++ List.replicate (f.nl - f.np) none) S with
    | .nx _ S1 => exitV S.length f.keep .non S1
    | .rt d S1 => exitV S.length f.keep d S1
    | .ex c fs _ S1 => exitX S.length f.keep c fs S1
    | _ => .stuck
  else .stuck
end EL

/-! ELr: how data stands in HandS's heap. -/
namespace EL
open PySem L2
def Ky.key : Ky → Key
  | .i z => .inl z
  | .s x => .inr ⟨x.toArray⟩
theorem str_inj {x y : List Nat} (h : (⟨x.toArray⟩ : Str) = ⟨y.toArray⟩) : x = y := by
  have h2 := congrArg (fun z : Str => z.cps.toList) h
  simpa using h2
theorem Ky.key_inj : ∀ {a b : Ky}, a.key = b.key → a = b
  | .i _, .i _, h => by cases h; rfl
  | .s _, .s _, h => by
    have h2 : (⟨_⟩ : Str) = ⟨_⟩ := Sum.inr.inj h
    rw [str_inj h2]
  | .i _, .s _, h => by cases h
  | .s _, .i _, h => by cases h
/-- the written part, where classes stand, how fields are called -/
structure Gx where
  K : PySem.W.Frag
  cm : Nat → Addr
  nk : Nat
  xk : Nat → Bool
  nf : Nat
  fm : Nat → Str
  finj : ∀ f g, f < nf → g < nf → fm f = fm g → f = g
mutual
inductive Rep (G : Gx) (F : Hp) (κ : Nat → Addr) (n : Nat) : V → D → Prop
  | non : Rep G F κ n .non .non
  | bl (b : Bool) : Rep G F κ n (.bl b) (.bl b)
  | int (i : Int) : Rep G F κ n (.int i) (.int i)
  | str (x : List Nat) : Rep G F κ n (.str ⟨x.toArray⟩) (.str x)
  | tup {a : Addr} {vs : List V} {ds : List D} : SqT G.K F a vs → RepA G F κ n vs ds → Rep G F κ n (.ref a) (.tup ds)
  | lst {a : Addr} {vs : List V} {ds : List D} : F a = some (.lst vs) → RepA G F κ n vs ds → Rep G F κ n (.ref a) (.lst ds)
  | scr {a : Addr} {vs : List V} {ds : List D} : SqL G.K F a vs → RepA G F κ n vs ds → Rep G F κ n (.ref a) (.scr ds)
  | dK {a : Addr} {vs : List (Key × V)} {ds : List (Ky × D)} : F a = some (.dK vs) → RepK G F κ n vs ds → Rep G F κ n (.ref a) (.dK ds)
  | dT {a : Addr} {vs : List (List Key × V)} {ds : List (List Ky × D)} : F a = some (.dT vs) → RepT G F κ n vs ds → Rep G F κ n (.ref a) (.dT ds)
  | obj {a dx : Addr} {c : Nat} {vs : List (Str × V)} {ds : Fds} : c < G.nk → F a = some (.ins (G.cm c) dx vs) → RepF G F κ n vs ds → Rep G F κ n (.ref a) (.obj c ds)
  | cell {i : Nat} : i < n → Rep G F κ n (.ref (κ i)) (.cell i)
inductive RepA (G : Gx) (F : Hp) (κ : Nat → Addr) (n : Nat) : List V → List D → Prop
  | nil : RepA G F κ n [] []
  | cons {v : V} {d : D} {vs : List V} {ds : List D} : Rep G F κ n v d → RepA G F κ n vs ds → RepA G F κ n (v :: vs) (d :: ds)
inductive RepK (G : Gx) (F : Hp) (κ : Nat → Addr) (n : Nat) : List (Key × V) → List (Ky × D) → Prop
  | nil : RepK G F κ n [] []
  | cons {k : Ky} {v : V} {d : D} {vs : List (Key × V)} {ds : List (Ky × D)} : Rep G F κ n v d → RepK G F κ n vs ds → RepK G F κ n ((k.key, v) :: vs) ((k, d) :: ds)
inductive RepT (G : Gx) (F : Hp) (κ : Nat → Addr) (n : Nat) : List (List Key × V) → List (List Ky × D) → Prop
  | nil : RepT G F κ n [] []
  | cons {k : List Ky} {v : V} {d : D} {vs : List (List Key × V)} {ds : List (List Ky × D)} : Rep G F κ n v d → RepT G F κ n vs ds → RepT G F κ n ((k.map Ky.key, v) :: vs) ((k, d) :: ds)
inductive RepF (G : Gx) (F : Hp) (κ : Nat → Addr) (n : Nat) : List (Str × V) → Fds → Prop
  | nil : RepF G F κ n [] []
  | cons {f : Nat} {v : V} {d : D} {vs : List (Str × V)} {ds : Fds} : f < G.nf → Rep G F κ n v d → RepF G F κ n vs ds → RepF G F κ n ((G.fm f, v) :: vs) ((f, d) :: ds)
end
/-- more is frozen, the cells stand where they stood -/
structure Ext (F : Hp) (κ : Nat → Addr) (n : Nat) (F' : Hp) (κ' : Nat → Addr) : Prop where
  fr : ∀ a u, F a = some u → F' a = some u
  ce : ∀ i, i < n → κ' i = κ i
theorem Ext.refl {F : Hp} {κ : Nat → Addr} {n : Nat} : Ext F κ n F κ := ⟨fun _ _ h => h, fun _ _ => rfl⟩
theorem Ext.trans {F F1 F2 : Hp} {κ κ1 κ2 : Nat → Addr} {n m : Nat} (a : Ext F κ n F1 κ1) (b : Ext F1 κ1 m F2 κ2) (h : n ≤ m) : Ext F κ n F2 κ2 :=
  ⟨fun x u e => b.fr x u (a.fr x u e), fun i hi => (b.ce i (Nat.lt_of_lt_of_le hi h)).trans (a.ce i hi)⟩
theorem rd_mono {F F' : Hp} (h : ∀ a u, F a = some u → F' a = some u) {a : Addr} {u : HO} (r : Rd F a u) : Rd F' a u := by
  rcases r with r | ⟨o, r⟩
  · exact .inl (h _ _ r)
  · exact .inr ⟨o, h _ _ r⟩
theorem sqt_mono {K : PySem.W.Frag} {F F' : Hp} (h : ∀ a u, F a = some u → F' a = some u) {a : Addr} {xs : List V} (r : SqT K F a xs) : SqT K F' a xs := by
  rcases r with r | r
  · exact .inl (rd_mono h r)
  · exact .inr r
theorem sql_mono {K : PySem.W.Frag} {F F' : Hp} (h : ∀ a u, F a = some u → F' a = some u) {a : Addr} {xs : List V} (r : SqL K F a xs) : SqL K F' a xs := by
  rcases r with r | r
  · exact .inl (rd_mono h r)
  · exact .inr r
section
variable {G : Gx} {F F' : Hp} {κ κ' : Nat → Addr} {n m : Nat}
mutual
theorem Rep.mono (e : Ext F κ n F' κ') (h : n ≤ m) : ∀ {v : V} {d : D}, Rep G F κ n v d → Rep G F' κ' m v d
  | _, _, .non => .non
  | _, _, .bl b => .bl b
  | _, _, .int i => .int i
  | _, _, .str x => .str x
  | _, _, .tup s r => .tup (sqt_mono e.fr s) (RepA.mono e h r)
  | _, _, .lst s r => .lst (e.fr _ _ s) (RepA.mono e h r)
  | _, _, .scr s r => .scr (sql_mono e.fr s) (RepA.mono e h r)
  | _, _, .dK s r => .dK (e.fr _ _ s) (RepK.mono e h r)
  | _, _, .dT s r => .dT (e.fr _ _ s) (RepT.mono e h r)
  | _, _, .obj c s r => .obj c (e.fr _ _ s) (RepF.mono e h r)
  | _, _, .cell (i := i) l => by
    rw [← e.ce i l]
    exact .cell (Nat.lt_of_lt_of_le l h)
theorem RepA.mono (e : Ext F κ n F' κ') (h : n ≤ m) : ∀ {v : List V} {d : List D}, RepA G F κ n v d → RepA G F' κ' m v d
  | _, _, .nil => .nil
  | _, _, .cons r s => .cons (Rep.mono e h r) (RepA.mono e h s)
theorem RepK.mono (e : Ext F κ n F' κ') (h : n ≤ m) : ∀ {v : List (Key × V)} {d : List (Ky × D)}, RepK G F κ n v d → RepK G F' κ' m v d
  | _, _, .nil => .nil
  | _, _, .cons r s => .cons (Rep.mono e h r) (RepK.mono e h s)
theorem RepT.mono (e : Ext F κ n F' κ') (h : n ≤ m) : ∀ {v : List (List Key × V)} {d : List (List Ky × D)}, RepT G F κ n v d → RepT G F' κ' m v d
  | _, _, .nil => .nil
  | _, _, .cons r s => .cons (Rep.mono e h r) (RepT.mono e h s)
theorem RepF.mono (e : Ext F κ n F' κ') (h : n ≤ m) : ∀ {v : List (Str × V)} {d : Fds}, RepF G F κ n v d → RepF G F' κ' m v d
  | _, _, .nil => .nil
  | _, _, .cons l r s => .cons l (Rep.mono e h r) (RepF.mono e h s)
end
theorem RepA.len : ∀ {v : List V} {d : List D}, RepA G F κ n v d → v.length = d.length
  | _, _, .nil => rfl
  | _, _, .cons _ s => congrArg (· + 1) (RepA.len s)
theorem RepA.at : ∀ {v : List V} {d : List D} {i : Nat} {x : D}, RepA G F κ n v d → d[i]? = some x → ∃ u, v[i]? = some u ∧ Rep G F κ n u x
  | _, _, _, _, .nil, h => by simp at h
  | _, _, 0, x, .cons r _, h => by
    simp at h
    subst h
    exact ⟨_, rfl, r⟩
  | _, _, i + 1, x, .cons _ s, h => by
    obtain ⟨u, h1, h2⟩ := RepA.at (i := i) (x := x) s (by simpa using h)
    exact ⟨u, by simpa using h1, h2⟩
theorem RepA.atV : ∀ {v : List V} {d : List D} {i : Nat} {u : V}, RepA G F κ n v d → v[i]? = some u → ∃ x, d[i]? = some x ∧ Rep G F κ n u x
  | _, _, _, _, .nil, h => by simp at h
  | _, _, 0, x, .cons r _, h => by
    simp at h
    subst h
    exact ⟨_, rfl, r⟩
  | _, _, i + 1, x, .cons _ s, h => by
    obtain ⟨u, h1, h2⟩ := RepA.atV (i := i) (u := x) s (by simpa using h)
    exact ⟨u, by simpa using h1, h2⟩
theorem RepA.app : ∀ {v w : List V} {d e : List D}, RepA G F κ n v d → RepA G F κ n w e → RepA G F κ n (v ++ w) (d ++ e)
  | _, _, _, _, .nil, s => s
  | _, _, _, _, .cons r t, s => .cons r (RepA.app t s)
theorem RepA.take : ∀ {v : List V} {d : List D} (k : Nat), RepA G F κ n v d → RepA G F κ n (v.take k) (d.take k)
  | _, _, 0, _ => .nil
  | _, _, _ + 1, .nil => .nil
  | _, _, k + 1, .cons r t => .cons r (RepA.take k t)
theorem RepA.drop : ∀ {v : List V} {d : List D} (k : Nat), RepA G F κ n v d → RepA G F κ n (v.drop k) (d.drop k)
  | _, _, 0, r => r
  | _, _, _ + 1, .nil => .nil
  | _, _, k + 1, .cons r t => RepA.drop k t
theorem RepA.set : ∀ {v : List V} {d : List D} (k : Nat) {u : V} {x : D}, RepA G F κ n v d → Rep G F κ n u x → RepA G F κ n (v.set k u) (d.set k x)
  | _, _, _, _, _, .nil, _ => .nil
  | _, _, 0, _, _, .cons _ t, s => .cons s t
  | _, _, k + 1, _, _, .cons r t, s => .cons r (RepA.set k t s)
theorem RepA.rev : ∀ {v : List V} {d : List D}, RepA G F κ n v d → RepA G F κ n v.reverse d.reverse
  | _, _, .nil => .nil
  | _, _, .cons r t => by
    rw [List.reverse_cons, List.reverse_cons]
    exact (RepA.rev t).app (.cons r .nil)
theorem RepA.erase : ∀ {v : List V} {d : List D} (k : Nat), RepA G F κ n v d → RepA G F κ n (v.eraseIdx k) (d.eraseIdx k)
  | _, _, _, .nil => .nil
  | _, _, 0, .cons _ t => t
  | _, _, k + 1, .cons r t => .cons r (RepA.erase k t)
theorem RepA.dropLast {v : List V} {d : List D} (r : RepA G F κ n v d) : RepA G F κ n v.dropLast d.dropLast := by
  rw [List.dropLast_eq_take, List.dropLast_eq_take, r.len]
  exact r.take _
theorem RepA.nilIff {v : List V} {d : List D} (r : RepA G F κ n v d) : v.isEmpty = d.isEmpty := by
  cases r <;> rfl
theorem RepK.len : ∀ {v : List (Key × V)} {d : List (Ky × D)}, RepK G F κ n v d → v.length = d.length
  | _, _, .nil => rfl
  | _, _, .cons _ s => congrArg (· + 1) (RepK.len s)
theorem RepF.len : ∀ {v : List (Str × V)} {d : Fds}, RepF G F κ n v d → v.length = d.length
  | _, _, .nil => rfl
  | _, _, .cons _ _ s => congrArg (· + 1) (RepF.len s)
theorem RepK.get : ∀ {v : List (Key × V)} {d : List (Ky × D)} (k : Ky), RepK G F κ n v d → match dget k d with
    | some x => ∃ u, valV v k.key = some u ∧ Rep G F κ n u x
    | none => valV v k.key = none
  | _, _, _, .nil => rfl
  | _, _, k, .cons (k := k') (d := x) r s => by
    have ih := RepK.get k s
    unfold dget
    by_cases h : k' = k
    · subst h
      rw [if_pos rfl]
      exact ⟨_, valV_pos rfl, r⟩
    · rw [if_neg h]
      have h2 : ¬ k'.key = k.key := fun z => h (Ky.key_inj z)
      split at ih
      · obtain ⟨u, h3, h4⟩ := ih
        exact ⟨u, by rw [valV_neg h2]; exact h3, h4⟩
      · rw [valV_neg h2]
        exact ih
theorem RepF.get : ∀ {v : List (Str × V)} {d : Fds} (f : Nat) {x : D}, RepF G F κ n v d → fget f d = some x → ∃ u, v.lookup (G.fm f) = some u ∧ Rep G F κ n u x
  | _, _, _, _, .nil, h => by cases h
  | _, _, f, x, .cons (f := g) l r s, h => by
    unfold fget at h
    by_cases e : g = f
    · subst e
      rw [if_pos rfl] at h
      cases h
      exact ⟨_, by simp [List.lookup], r⟩
    · rw [if_neg e] at h
      by_cases hf : f < G.nf
      · obtain ⟨u, h1, h2⟩ := RepF.get f s h
        refine ⟨u, ?_, h2⟩
        have ne : ¬ G.fm f = G.fm g := fun z => e (G.finj _ _ l hf z.symm)
        have : (G.fm f == G.fm g) = false := by simpa using ne
        simp [List.lookup, this, h1]
      · exfalso
        have key : ∀ {v : List (Str × V)} {d : Fds}, RepF G F κ n v d → fget f d = none := by
          intro v d r
          induction d generalizing v with
          | nil => rfl
          | cons p q ih =>
            cases r with
            | cons l' r' s' =>
              unfold fget
              rw [if_neg (by intro z; subst z; exact hf l')]
              exact ih s'
        rw [key s] at h
        cases h
theorem RepF.put : ∀ {v : List (Str × V)} {d : Fds} {f : Nat} {u : V} {x : D}, RepF G F κ n v d → f < G.nf → Rep G F κ n u x → RepF G F κ n (putF (G.fm f) u v) (fput f x d)
  | _, _, _, _, _, .nil, hf, s => .cons hf s .nil
  | _, _, f, u, x, .cons (f := g) l r s, hf, t => by
    unfold fput putF
    by_cases e : g = f
    · subst e
      rw [if_pos rfl, if_pos rfl]
      exact .cons l t s
    · have ne : ¬ G.fm g = G.fm f := fun z => e (G.finj _ _ l hf z)
      rw [if_neg e, if_neg ne]
      exact .cons l r (RepF.put s hf t)
theorem RepF.none {m : Str} (hm : ∀ f, f < G.nf → G.fm f ≠ m) : ∀ {v : List (Str × V)} {d : Fds}, RepF G F κ n v d → v.lookup m = none
  | _, _, .nil => rfl
  | _, _, .cons (f := g) l r s => by
    have ih := RepF.none hm s
    have : (m == G.fm g) = false := by simpa using fun z => hm g l z.symm
    simp [List.lookup, this, ih]
end
end EL

/-! ELs: the store in the heap; what is wanted behind an expression. -/
namespace EL
open PySem L2
mutual
/-- its cells lie below b -/
def bnd (b : Nat) : D → Bool
  | .tup xs => bnds b xs
  | .lst xs => bnds b xs
  | .scr xs => bnds b xs
  | .dK kvs => bndK b kvs
  | .dT kvs => bndT b kvs
  | .obj _ fs => bndF b fs
  | .cell n => decide (n < b)
  | .non => true
  | .bl _ => true
  | .int _ => true
  | .str _ => true
def bnds (b : Nat) : List D → Bool
  | [] => true
  | d :: r => bnd b d && bnds b r
def bndK (b : Nat) : List (Ky × D) → Bool
  | [] => true
  | (_, d) :: r => bnd b d && bndK b r
def bndT (b : Nat) : List (List Ky × D) → Bool
  | [] => true
  | (_, d) :: r => bnd b d && bndT b r
def bndF (b : Nat) : List (Nat × D) → Bool
  | [] => true
  | (_, d) :: r => bnd b d && bndF b r
end
theorem and2 {a b : Bool} : (a && b) = true ↔ a = true ∧ b = true := Bool.and_eq_true_iff
mutual
theorem bnd_nc {b : Nat} : ∀ {d : D}, nc d = true → bnd b d = true
  | .tup xs, h => bnds_nc (ds := xs) h
  | .lst xs, h => bnds_nc (ds := xs) h
  | .scr xs, h => bnds_nc (ds := xs) h
  | .dK xs, h => bndK_nc (ds := xs) h
  | .dT xs, h => bndT_nc (ds := xs) h
  | .obj _ xs, h => bndF_nc (ds := xs) h
  | .cell _, h => by cases h
  | .non, _ => rfl
  | .bl _, _ => rfl
  | .int _, _ => rfl
  | .str _, _ => rfl
theorem bnds_nc {b : Nat} : ∀ {ds : List D}, ncs ds = true → bnds b ds = true
  | [], _ => rfl
  | _ :: _, h => and2.mpr ⟨bnd_nc (and2.mp h).1, bnds_nc (and2.mp h).2⟩
theorem bndK_nc {b : Nat} : ∀ {ds : List (Ky × D)}, ncK ds = true → bndK b ds = true
  | [], _ => rfl
  | (_, _) :: _, h => and2.mpr ⟨bnd_nc (and2.mp h).1, bndK_nc (and2.mp h).2⟩
theorem bndT_nc {b : Nat} : ∀ {ds : List (List Ky × D)}, ncT ds = true → bndT b ds = true
  | [], _ => rfl
  | (_, _) :: _, h => and2.mpr ⟨bnd_nc (and2.mp h).1, bndT_nc (and2.mp h).2⟩
theorem bndF_nc {b : Nat} : ∀ {ds : List (Nat × D)}, ncF ds = true → bndF b ds = true
  | [], _ => rfl
  | (_, _) :: _, h => and2.mpr ⟨bnd_nc (and2.mp h).1, bndF_nc (and2.mp h).2⟩
end
section
variable {G : Gx} {F : Hp} {κ : Nat → Addr} {n b : Nat}
mutual
theorem Rep.bnd : ∀ {v : V} {d : D}, Rep G F κ n v d → bnd n d = true
  | _, _, .non => rfl
  | _, _, .bl b => rfl
  | _, _, .int i => rfl
  | _, _, .str x => rfl
  | _, _, .tup s r => RepA.bnd r
  | _, _, .lst s r => RepA.bnd r
  | _, _, .scr s r => RepA.bnd r
  | _, _, .dK s r => RepK.bnd r
  | _, _, .dT s r => RepT.bnd r
  | _, _, .obj _ s r => RepF.bnd r
  | _, _, .cell l => decide_eq_true l
theorem RepA.bnd : ∀ {v : List V} {d : List D}, RepA G F κ n v d → bnds n d = true
  | _, _, .nil => rfl
  | _, _, .cons r s => and2.mpr ⟨Rep.bnd r, RepA.bnd s⟩
theorem RepK.bnd : ∀ {v : List (Key × V)} {d : List (Ky × D)}, RepK G F κ n v d → bndK n d = true
  | _, _, .nil => rfl
  | _, _, .cons r s => and2.mpr ⟨Rep.bnd r, RepK.bnd s⟩
theorem RepT.bnd : ∀ {v : List (List Key × V)} {d : List (List Ky × D)}, RepT G F κ n v d → bndT n d = true
  | _, _, .nil => rfl
  | _, _, .cons r s => and2.mpr ⟨Rep.bnd r, RepT.bnd s⟩
theorem RepF.bnd : ∀ {v : List (Str × V)} {d : Fds}, RepF G F κ n v d → bndF n d = true
  | _, _, .nil => rfl
  | _, _, .cons _ r s => and2.mpr ⟨Rep.bnd r, RepF.bnd s⟩
end
mutual
theorem Rep.low : ∀ {v : V} {d : D}, EL.bnd b d = true → Rep G F κ n v d → Rep G F κ b v d
  | _, _, _, .non => .non
  | _, _, _, .bl b => .bl b
  | _, _, _, .int i => .int i
  | _, _, _, .str x => .str x
  | _, _, h, .tup s r => .tup s (RepA.low h r)
  | _, _, h, .lst s r => .lst s (RepA.low h r)
  | _, _, h, .scr s r => .scr s (RepA.low h r)
  | _, _, h, .dK s r => .dK s (RepK.low h r)
  | _, _, h, .dT s r => .dT s (RepT.low h r)
  | _, _, h, .obj c s r => .obj c s (RepF.low h r)
  | _, _, h, .cell l => .cell (of_decide_eq_true h)
theorem RepA.low : ∀ {v : List V} {d : List D}, bnds b d = true → RepA G F κ n v d → RepA G F κ b v d
  | _, _, _, .nil => .nil
  | _, _, h, .cons r s => .cons (Rep.low (and2.mp h).1 r) (RepA.low (and2.mp h).2 s)
theorem RepK.low : ∀ {v : List (Key × V)} {d : List (Ky × D)}, bndK b d = true → RepK G F κ n v d → RepK G F κ b v d
  | _, _, _, .nil => .nil
  | _, _, h, .cons r s => .cons (Rep.low (and2.mp h).1 r) (RepK.low (and2.mp h).2 s)
theorem RepT.low : ∀ {v : List (List Key × V)} {d : List (List Ky × D)}, bndT b d = true → RepT G F κ n v d → RepT G F κ b v d
  | _, _, _, .nil => .nil
  | _, _, h, .cons r s => .cons (Rep.low (and2.mp h).1 r) (RepT.low (and2.mp h).2 s)
theorem RepF.low : ∀ {v : List (Str × V)} {d : Fds}, bndF b d = true → RepF G F κ n v d → RepF G F κ b v d
  | _, _, _, .nil => .nil
  | _, _, h, .cons l r s => .cons l (Rep.low (and2.mp h).1 r) (RepF.low (and2.mp h).2 s)
end
end
/-- what stands at a cell's address, as the store tells it -/
inductive Cont (G : Gx) (F : Hp) (κ : Nat → Addr) (n : Nat) : HO → D → Prop
  | lst {vs : List V} {ds : List D} : RepA G F κ n vs ds → Cont G F κ n (.lst vs) (.lst ds)
  | dK {vs : List (Key × V)} {ds : List (Ky × D)} : RepK G F κ n vs ds → Cont G F κ n (.dK vs) (.dK ds)
  | dT {vs : List (List Key × V)} {ds : List (List Ky × D)} : RepT G F κ n vs ds → Cont G F κ n (.dT vs) (.dT ds)
  | obj {c : Nat} {dx : Addr} {vs : List (Str × V)} {ds : Fds} : c < G.nk → RepF G F κ n vs ds → Cont G F κ n (.ins (G.cm c) dx vs) (.obj c ds)
section
variable {G : Gx} {F F' : Hp} {κ κ' : Nat → Addr} {n m b : Nat} {o : HO} {c : D}
theorem Cont.mono (e : Ext F κ n F' κ') (h : n ≤ m) (x : Cont G F κ n o c) : Cont G F' κ' m o c := by
  cases x with
  | lst r => exact .lst (r.mono e h)
  | dK r => exact .dK (r.mono e h)
  | dT r => exact .dT (r.mono e h)
  | obj l r => exact .obj l (r.mono e h)
theorem Cont.bnd (x : Cont G F κ n o c) : EL.bnd n c = true := by
  cases x with
  | lst r => exact r.bnd
  | dK r => exact r.bnd
  | dT r => exact r.bnd
  | obj _ r => exact r.bnd
theorem Cont.low (h : EL.bnd b c = true) (x : Cont G F κ n o c) : Cont G F κ b o c := by
  cases x with
  | lst r => exact .lst (r.low h)
  | dK r => exact .dK (r.low h)
  | dT r => exact .dT (r.low h)
  | obj l r => exact .obj l (r.low h)
/-- frozen, it is data -/
theorem Cont.rep {a : Addr} (x : Cont G F κ n o c) (h : F a = some o) : Rep G F κ n (.ref a) c := by
  cases x with
  | lst r => exact .lst h r
  | dK r => exact .dK h r
  | dT r => exact .dT h r
  | obj l r => exact .obj l h r
theorem Cont.isCont (x : Cont G F κ n o c) : EL.isCont c = true := by cases x <;> rfl
end
def isD : HO → Bool
  | .dK _ => true
  | .dT _ => true
  | _ => false
/-- what is frozen stands in the heap (a dict may be locked) -/
def Sub (F H : Hp) : Prop := ∀ a u, F a = some u → H a = some u ∨ (isD u = true ∧ ∃ o, H a = some (.frz o u))
theorem Sub.there {F H : Hp} (s : Sub F H) {a : Addr} (h : H a = none) : F a = none := by
  cases e : F a with
  | none => rfl
  | some u =>
    rcases s a u e with q | ⟨_, o, q⟩
    · rw [h] at q; cases q
    · rw [h] at q; cases q
theorem Sub.plain {F H : Hp} (s : Sub F H) {a : Addr} {u : HO} (e : F a = some u) (h : isD u = false) : H a = some u := by
  rcases s a u e with q | ⟨z, _⟩
  · exact q
  · rw [h] at z; cases z
theorem Sub.rd {F H : Hp} (s : Sub F H) {a : Addr} {u : HO} (e : F a = some u) : Rd H a u := by
  rcases s a u e with q | ⟨_, o, q⟩
  · exact .inl q
  · exact .inr ⟨o, q⟩
theorem Sub.rdL {F H : Hp} (s : Sub F H) {a : Addr} {xs : List V} (e : Rd F a (.lst xs)) : Rd H a (.lst xs) := by
  rcases e with e | ⟨o, e⟩
  · exact .inl (s.plain e rfl)
  · exact .inr ⟨o, s.plain e rfl⟩
theorem Sub.rdT {F H : Hp} (s : Sub F H) {a : Addr} {xs : List V} (e : Rd F a (.tup xs)) : Rd H a (.tup xs) := by
  rcases e with e | ⟨o, e⟩
  · exact .inl (s.plain e rfl)
  · exact .inr ⟨o, s.plain e rfl⟩
theorem Sub.seqT {K : PySem.W.Frag} {F H : Hp} (s : Sub F H) {a : Addr} {xs : List V} (r : SqT K F a xs) : SqT K H a xs := by
  rcases r with r | r
  · exact .inl (s.rdT r)
  · exact .inr r
theorem Sub.seqL {K : PySem.W.Frag} {F H : Hp} (s : Sub F H) {a : Addr} {xs : List V} (r : SqL K F a xs) : SqL K H a xs := by
  rcases r with r | r
  · exact .inl (s.rdL r)
  · exact .inr r
/-- the bases (no older cell tells a younger one), what stands as it is -/
structure Gd where
  bs : List Nat
  pr : List (Addr × HO)
structure Rel (G : Gx) (F : Hp) (κ : Nat → Addr) (Bs : Gd) (S : Sto) (H : Hp) : Prop where
  sub : Sub F H
  cells : ∀ (i : Nat) (c : D), S[i]? = some c → F (κ i) = none ∧ ∃ o, H (κ i) = some o ∧ Cont G F κ S.length o c
  inj : ∀ i j, i < S.length → j < S.length → κ i = κ j → i = j
  low : ∀ b ∈ Bs.bs, b ≤ S.length ∧ ∀ (i : Nat) (c : D), i < b → S[i]? = some c → bnd b c = true
  prot : ∀ q ∈ Bs.pr, H q.1 = some q.2 ∧ F q.1 = none ∧ ∀ i, i < S.length → κ i ≠ q.1
section
variable {G : Gx} {F F' : Hp} {κ κ' : Nat → Addr} {Bs : Gd} {S S' : Sto} {H H' : Hp} {p : Addr} {o : HO} {c : D}
theorem Rel.there (R : Rel G F κ Bs S H) {i : Nat} (h : i < S.length) : ∃ o, H (κ i) = some o := by
  obtain ⟨_, o, e, _⟩ := R.cells i S[i] (List.getElem?_eq_getElem h)
  exact ⟨o, e⟩
theorem Rel.ne (R : Rel G F κ Bs S H) (hp : H p = none) {i : Nat} (h : i < S.length) : κ i ≠ p := fun e => by
  obtain ⟨o, q⟩ := R.there h
  rw [e, hp] at q
  cases q
theorem ix_lt {S : Sto} {i : Nat} {c : D} (h : S[i]? = some c) : i < S.length := (List.getElem?_eq_some_iff.mp h).1
theorem Rel.pne (R : Rel G F κ Bs S H) (hp : H p = none) : ∀ q ∈ Bs.pr, q.1 ≠ p := fun q h e => by
  have h1 := (R.prot q h).1
  rw [e, hp] at h1
  cases h1
/-- something new that nobody asks for -/
theorem Rel.junk (R : Rel G F κ Bs S H) (hp : H p = none) : Rel G F κ Bs S (upd H p o) := by
  have ne : ∀ {a : Addr} {u : HO}, H a = some u → a ≠ p := fun {a u} e z => by rw [z, hp] at e; cases e
  refine ⟨fun a u e => ?_, fun i c e => ?_, R.inj, R.low, fun q hq => ⟨by rw [upd_ne (ne (R.prot q hq).1)]; exact (R.prot q hq).1, (R.prot q hq).2⟩⟩
  · rcases R.sub a u e with q | ⟨z, o', q⟩
    · exact .inl (by rw [upd_ne (ne q)]; exact q)
    · exact .inr ⟨z, o', by rw [upd_ne (ne q)]; exact q⟩
  · obtain ⟨f, o', q, x⟩ := R.cells i c e
    exact ⟨f, o', by rw [upd_ne (ne q)]; exact q, x⟩
theorem ext_new (h : F p = none) {n : Nat} : Ext F κ n (upd F p o) κ :=
  ⟨fun a u e => by rw [upd_ne (fun z => by rw [z, h] at e; cases e)]; exact e, fun _ _ => rfl⟩
/-- what stands at p, whom no cell tells, is frozen -/
theorem Rel.freeze (R : Rel G F κ Bs S H) (hp : H p = some o) (hF : F p = none) (hn : ∀ i, i < S.length → κ i ≠ p) (hq : ∀ q ∈ Bs.pr, q.1 ≠ p) : Rel G (upd F p o) κ Bs S H ∧ Ext F κ S.length (upd F p o) κ := by
  have ex : Ext F κ S.length (upd F p o) κ := ext_new hF
  refine ⟨⟨fun a u e => ?_, fun i c e => ?_, R.inj, R.low, fun q h => ⟨(R.prot q h).1, by rw [upd_ne (hq q h)]; exact (R.prot q h).2.1, (R.prot q h).2.2⟩⟩, ex⟩
  · by_cases h : a = p
    · subst h
      rw [upd_same] at e
      cases e
      exact .inl hp
    · rw [upd_ne h] at e
      exact R.sub a u e
  · obtain ⟨f, o', q, x⟩ := R.cells i c e
    exact ⟨by rw [upd_ne (hn i (ix_lt e))]; exact f, o', q, x.mono ex (Nat.le_refl _)⟩
/-- a new object, frozen at once -/
theorem Rel.new (R : Rel G F κ Bs S H) (hp : H p = none) : Rel G (upd F p o) κ Bs S (upd H p o) ∧ Ext F κ S.length (upd F p o) κ :=
  (R.junk (o := o) hp).freeze upd_same (R.sub.there hp) (fun i h => R.ne hp h) (R.pne hp)
/-- what stands at p becomes a cell -/
theorem Rel.adopt (R : Rel G F κ Bs S H) (hp : H p = some o) (hF : F p = none) (hn : ∀ i, i < S.length → κ i ≠ p) (hq : ∀ q ∈ Bs.pr, q.1 ≠ p) (x : Cont G F κ S.length o c) :
    ∃ κ', κ' S.length = p ∧ Ext F κ S.length F κ' ∧ Rel G F κ' Bs (S ++ [c]) H := by
  obtain ⟨k, hk⟩ : ∃ k : Nat → Addr, k = fun i => if i = S.length then p else κ i := ⟨_, rfl⟩
  have kl : ∀ i, i < S.length → k i = κ i := fun i h => by rw [hk]; exact if_neg (Nat.ne_of_lt h)
  have kn : k S.length = p := by rw [hk]; exact if_pos rfl
  have ex : Ext F κ S.length F k := ⟨fun _ _ e => e, kl⟩
  have len : (S ++ [c]).length = S.length + 1 := by simp
  refine ⟨k, kn, ex, R.sub, fun i d e => ?_, fun i j hi hj e => ?_, fun b hb => ?_, fun q h => ⟨(R.prot q h).1, (R.prot q h).2.1, fun i hi => ?_⟩⟩
  · rw [len]
    by_cases hi : i < S.length
    · rw [List.getElem?_append_left hi] at e
      obtain ⟨f, o', q, y⟩ := R.cells i d e
      rw [kl i hi]
      exact ⟨f, o', q, y.mono ex (Nat.le_succ _)⟩
    · have e2 : i = S.length := by
        have := ix_lt e
        rw [len] at this
        omega
      subst e2
      rw [List.getElem?_append_right (Nat.le_refl _)] at e
      simp at e
      subst e
      rw [kn]
      exact ⟨hF, o, hp, x.mono ex (Nat.le_succ _)⟩
  · rw [len] at hi hj
    by_cases hi2 : i < S.length
    · by_cases hj2 : j < S.length
      · rw [kl i hi2, kl j hj2] at e
        exact R.inj i j hi2 hj2 e
      · have ej : j = S.length := by omega
        subst ej
        rw [kl i hi2, kn] at e
        exact absurd e (hn i hi2)
    · have ei : i = S.length := by omega
      subst ei
      by_cases hj2 : j < S.length
      · rw [kl j hj2, kn] at e
        exact absurd e.symm (hn j hj2)
      · omega
  · obtain ⟨l1, l2⟩ := R.low b hb
    refine ⟨by rw [len]; omega, fun i d hi e => l2 i d hi ?_⟩
    rw [List.getElem?_append_left (by omega)] at e
    exact e
  · rw [len] at hi
    by_cases hi2 : i < S.length
    · rw [kl i hi2]
      exact (R.prot q h).2.2 i hi2
    · have ei : i = S.length := by omega
      subst ei
      rw [kn]
      exact fun e => hq q h e.symm
/-- a new object, a cell -/
theorem Rel.push (R : Rel G F κ Bs S H) (hp : H p = none) (x : Cont G F κ S.length o c) :
    ∃ κ', κ' S.length = p ∧ Ext F κ S.length F κ' ∧ Rel G F κ' Bs (S ++ [c]) (upd H p o) :=
  (R.junk (o := o) hp).adopt upd_same (R.sub.there hp) (fun i h => R.ne hp h) (R.pne hp) x
/-- a cell's new content -/
theorem Rel.put (R : Rel G F κ Bs S H) {i : Nat} (hi : i < S.length) (x : Cont G F κ S.length o c) (hb : ∀ b ∈ Bs.bs, i < b → bnd b c = true) : Rel G F κ Bs (setC S i c) (upd H (κ i) o) := by
  have len : (setC S i c).length = S.length := by unfold setC; simp
  obtain ⟨fi, _⟩ := R.cells i S[i] (List.getElem?_eq_getElem hi)
  refine ⟨fun a u e => ?_, fun j d e => ?_, fun j k hj hk e => ?_, fun b hbm => ?_, fun q h => ⟨by rw [upd_ne (fun z => (R.prot q h).2.2 i hi z.symm)]; exact (R.prot q h).1, (R.prot q h).2.1, fun j hj => (R.prot q h).2.2 j (by rw [← len]; exact hj)⟩⟩
  · have ne : a ≠ κ i := fun z => by rw [z, fi] at e; cases e
    rw [upd_ne ne]
    exact R.sub a u e
  · rw [len]
    unfold setC at e
    by_cases h : j = i
    · subst h
      rw [List.getElem?_set_self hi] at e
      cases e
      exact ⟨fi, o, upd_same, x⟩
    · rw [List.getElem?_set_ne (Ne.symm h)] at e
      obtain ⟨f, o', q, y⟩ := R.cells j d e
      exact ⟨f, o', by rw [upd_ne (fun z => h (R.inj j i (ix_lt e) hi z))]; exact q, y⟩
  · rw [len] at hj hk
    exact R.inj j k hj hk e
  · obtain ⟨l1, l2⟩ := R.low b hbm
    refine ⟨by rw [len]; exact l1, fun j d hj e => ?_⟩
    unfold setC at e
    by_cases h : j = i
    · subst h
      rw [List.getElem?_set_self hi] at e
      cases e
      exact hb b hbm hj
    · rw [List.getElem?_set_ne (Ne.symm h)] at e
      exact l2 j d hj e
end
/-- an exception's fields -/
def XD (G : Gx) (F : Hp) (κ : Nat → Addr) (n : Nat) (d : Option Addr) (fs : Fds) : Prop :=
  fs = [] ∨ ∃ dd vs, d = some dd ∧ F dd = some (.xd vs) ∧ ∀ f x, fget f fs = some x → ∃ u, vs.lookup (G.fm f) = some u ∧ Rep G F κ n u x
theorem XD.mono {G : Gx} {F F' : Hp} {κ κ' : Nat → Addr} {n m : Nat} {d : Option Addr} {fs : Fds} (e : Ext F κ n F' κ') (h : n ≤ m) (x : XD G F κ n d fs) : XD G F' κ' m d fs := by
  rcases x with x | ⟨dd, vs, h1, h2, h3⟩
  · exact .inl x
  · refine .inr ⟨dd, vs, h1, e.fr _ _ h2, fun f y hy => ?_⟩
    obtain ⟨u, h4, h5⟩ := h3 f y hy
    exact ⟨u, h4, h5.mono e h⟩
/-- the names' values -/
def Lo (G : Gx) (F : Hp) (κ : Nat → Addr) (n : Nat) (l : Loc) (σ : L2.St) : Prop :=
  l.length = σ.length ∧ ∀ (i : Nat) (d : D), l[i]? = some (some d) → ∃ v, σ[i]? = some (some v) ∧ Rep G F κ n v d
theorem Lo.mono {G : Gx} {F F' : Hp} {κ κ' : Nat → Addr} {n m : Nat} {l : Loc} {σ : L2.St} (e : Ext F κ n F' κ') (h : n ≤ m) (x : Lo G F κ n l σ) : Lo G F' κ' m l σ :=
  ⟨x.1, fun i d hd => let ⟨v, h1, h2⟩ := x.2 i d hd; ⟨v, h1, h2.mono e h⟩⟩
theorem Lo.set {G : Gx} {F : Hp} {κ : Nat → Addr} {n : Nat} {l : Loc} {σ : L2.St} {v : V} {d : D} (x : Lo G F κ n l σ) (i : Nat) (r : Rep G F κ n v d) : Lo G F κ n (l.set i (some d)) (σ.set i (some v)) := by
  refine ⟨by simp [x.1], fun j e he => ?_⟩
  by_cases h : j = i
  · subst h
    have hl : j < l.length := by
      have := (List.getElem?_eq_some_iff.mp he).1
      simpa using this
    rw [List.getElem?_set_self hl] at he
    cases he
    exact ⟨v, List.getElem?_set_self (by rw [← x.1]; exact hl), r⟩
  · rw [List.getElem?_set_ne (Ne.symm h)] at he
    obtain ⟨w, h1, h2⟩ := x.2 j e he
    exact ⟨w, by rw [List.getElem?_set_ne (Ne.symm h)]; exact h1, h2⟩
/-- all that a place in a function knows: the program's tables, the bases, what is wanted of an exception, the dict of the one that is handled -/
structure Jx where
  G : Gx
  Bs : Gd
  W : WX
  dX : Option Addr
  C : Cn
  bs : ∀ b ∈ Bs.bs, b ≤ C.bs
  /-- the slot of the exception that is handled, where it stands -/
  hi : Option (Nat × Addr) := none
structure Stt (J : Jx) (F : Hp) (κ : Nat → Addr) (l : Loc) (S : Sto) (σ : L2.St) (H : Hp) : Prop where
  rel : Rel J.G F κ J.Bs S H
  lo : Lo J.G F κ S.length l σ
  hx : XD J.G F κ S.length J.dX J.C.hx
  hn : ∀ i a, J.hi = some (i, a) → σ[i]? = some (some (.ref a))
theorem Stt.step {J : Jx} {F F' : Hp} {κ κ' : Nat → Addr} {l : Loc} {S S' : Sto} {σ : L2.St} {H H' : Hp} (s : Stt J F κ l S σ H) (e : Ext F κ S.length F' κ') (h : S.length ≤ S'.length) (r : Rel J.G F' κ' J.Bs S' H') : Stt J F' κ' l S' σ H' :=
  ⟨r, s.lo.mono e h, s.hx.mono e h, s.hn⟩
/-- no exception is handled -/
theorem no_hi {J : Jx} {σ : L2.St} (h : J.hi = none) : ∀ i a, J.hi = some (i, a) → σ[i]? = some (some (.ref a)) := fun i a e => by rw [h] at e; cases e
def Post {α β : Type} (J : Jx) (Rl : Hp → (Nat → Addr) → Nat → β → α → Prop) (F : Hp) (κ : Nat → Addr) (n : Nat) (σ : L2.St) (Q : β → Hp → Prop) : R α → Prop
  | .ok a S' => ∀ F' κ' v H', Ext F κ n F' κ' → n ≤ S'.length → Rel J.G F' κ' J.Bs S' H' → Rl F' κ' S'.length v a → Q v H'
  | .ex c fs S' => ∀ F' κ' d H', J.G.xk c = true → Ext F κ n F' κ' → n ≤ S'.length → Rel J.G F' κ' J.Bs S' H' → XD J.G F' κ' S'.length d fs → J.W (.ref (J.G.cm c)) d σ H'
  | .stuck => False
section
variable {α β γ δ : Type} {J : Jx} {Rl : Hp → (Nat → Addr) → Nat → β → α → Prop} {Rg : Hp → (Nat → Addr) → Nat → δ → γ → Prop} {F F' : Hp} {κ κ' : Nat → Addr} {n m : Nat} {σ : L2.St} {Q Q' : β → Hp → Prop} {r : R α}
theorem Post.mono (h : Post J Rl F κ n σ Q r) (k : ∀ v H, Q v H → Q' v H) : Post J Rl F κ n σ Q' r := by
  cases r with
  | ok a S => exact fun F' κ' v H' e1 e2 e3 e4 => k _ _ (h F' κ' v H' e1 e2 e3 e4)
  | ex c fs S => exact h
  | stuck => exact h
/-- from a later place -/
theorem Post.step (h : Post J Rl F κ n σ Q r) (e : Ext F κ n F' κ') (l : n ≤ m) : Post J Rl F' κ' m σ Q r := by
  cases r with
  | ok a S => exact fun F2 κ2 v H' e1 e2 e3 e4 => h F2 κ2 v H' (e.trans e1 l) (Nat.le_trans l e2) e3 e4
  | ex c fs S => exact fun F2 κ2 v H' e0 e1 e2 e3 e4 => h F2 κ2 v H' e0 (e.trans e1 l) (Nat.le_trans l e2) e3 e4
  | stuck => exact h
/-- a reading that is what the evaluator tells -/
def Can (J : Jx) (Rl : Hp → (Nat → Addr) → Nat → β → α → Prop) (mf : Loc → Sto → R α) : L2.St → Hp → (β → Hp → Prop) → Prop := fun σ H Q =>
  ∃ F κ l S, Stt J F κ l S σ H ∧ Post J Rl F κ S.length σ Q (mf l S)
theorem Can.mono {mf : Loc → Sto → R α} {H : Hp} (h : Can J Rl mf σ H Q) (k : ∀ v H, Q v H → Q' v H) : Can J Rl mf σ H Q' := by
  obtain ⟨F, κ, l, S, s, p⟩ := h
  exact ⟨F, κ, l, S, s, p.mono k⟩
/-- what stands behind a part, for what comes next -/
def Nxt (J : Jx) (Rl : Hp → (Nat → Addr) → Nat → β → α → Prop) (Rg : Hp → (Nat → Addr) → Nat → δ → γ → Prop) (F0 : Hp) (κ0 : Nat → Addr) (n0 : Nat) (l : Loc) (σ : L2.St) (k : α → Sto → R γ) (Q : δ → Hp → Prop) (v : β) (H : Hp) : Prop :=
  ∃ F κ S a, Ext F0 κ0 n0 F κ ∧ n0 ≤ S.length ∧ Stt J F κ l S σ H ∧ Rl F κ S.length v a ∧ Post J Rg F κ S.length σ Q (k a S)
theorem Stt.bind {mf : Loc → Sto → R α} {k : α → Sto → R γ} {l : Loc} {S : Sto} {H : Hp} {Q : δ → Hp → Prop} (s : Stt J F κ l S σ H) (p : Post J Rg F κ S.length σ Q ((mf l S).bind k)) :
    Can J Rl mf σ H (Nxt J Rl Rg F κ S.length l σ k Q) := by
  refine ⟨F, κ, l, S, s, ?_⟩
  cases e : mf l S with
  | ok a S1 =>
    rw [e] at p
    exact fun F1 κ1 v H1 e1 e2 e3 e4 => ⟨F1, κ1, S1, a, e1, e2, s.step e1 e2 e3, e4, Post.step (show Post J Rg F κ S.length σ Q (k a S1) from p) e1 e2⟩
  | ex c fs S1 =>
    rw [e] at p
    exact p
  | stuck =>
    rw [e] at p
    exact p
/-- .. and how it came -/
theorem Stt.bindE {mf : Loc → Sto → R α} {k : α → Sto → R γ} {l : Loc} {S : Sto} {H : Hp} {Q : δ → Hp → Prop} (s : Stt J F κ l S σ H) (p : Post J Rg F κ S.length σ Q ((mf l S).bind k)) :
    Can J Rl mf σ H (fun v H1 => ∃ F1 κ1 S1 a, mf l S = .ok a S1 ∧ Ext F κ S.length F1 κ1 ∧ S.length ≤ S1.length ∧ Stt J F1 κ1 l S1 σ H1 ∧ Rl F1 κ1 S1.length v a ∧ Post J Rg F1 κ1 S1.length σ Q (k a S1)) := by
  refine ⟨F, κ, l, S, s, ?_⟩
  cases e : mf l S with
  | ok a S1 =>
    rw [e] at p
    exact fun F1 κ1 v H1 e1 e2 e3 e4 => ⟨F1, κ1, S1, a, rfl, e1, e2, s.step e1 e2 e3, e4, Post.step (show Post J Rg F κ S.length σ Q (k a S1) from p) e1 e2⟩
  | ex c fs S1 =>
    rw [e] at p
    exact p
  | stuck =>
    rw [e] at p
    exact p
end
end EL

/-! ELx: what HandS's rules give for each form. -/
namespace EL
open PySem L2 PySem.Spec PyProof.Rows
/-! ### forms -/
/-- no star, no slice, no set -/
def pl : PySem.Expr → Bool
  | .Starred _ _ => false
  | .Slice _ _ _ _ => false
  | .Set _ _ _ => false
  | _ => true
def noLc : PySem.Expr → Bool
  | .ListComp _ _ _ _ => false
  | .SetComp _ _ _ _ => false
  | .DictComp _ _ _ _ _ => false
  | _ => true
theorem star_pl {e : PySem.Expr} (h : pl e = true) (es : List PySem.Expr) (env : Env) : starEach (e :: es) env = (false, eval e env) :: starEach es env := by
  cases e <;> first | rfl | cases h
theorem ix_pl {e : PySem.Expr} (h : pl e = true) : PlainIx e := by
  intro o i
  cases e <;> first | rfl | cases h
theorem nosl_pl {e : PySem.Expr} (h : pl e = true) : NoSl e := by
  intro o i
  cases e <;> first | rfl | cases h
theorem in_pl {e : PySem.Expr} (h : pl e = true) (op : CmpOp) : behindInMarks op e = false := by
  cases e <;> first | rfl | cases h
theorem set_pl {e : PySem.Expr} (h : pl e = true) (env : Env) (x : Value) : foldedSetIterable e env x = pure x := by
  cases e <;> first | rfl | cases h
theorem sw_noLc {e : PySem.Expr} (h : noLc e = true) (t : Option PySem.Expr) (k : Nat) (env : Env) : swapsWith e t k env = pure false := by
  cases e <;> first | rfl | cases h
/-- not super() -/
def notSuper : PySem.Expr → Bool
  | .Call (.Name id _) _ _ _ => id != "super"
  | _ => true
theorem attr_base {o : PySem.Expr} (h : notSuper o = true) (f : Str) (env : Env) (w : Sem Value) : attributeBase o f env w = w := by
  cases o with
  | Call fn as kws pos =>
    cases fn with
    | Name id p =>
      have h1 : (id != "super") = true := h
      cases as with
      | nil =>
        cases kws with
        | nil =>
          unfold attributeBase
          simp only [h1, Bool.true_or, if_true]
        | cons _ _ => rfl
      | cons _ _ => rfl
    | _ => rfl
  | _ => rfl
theorem PE.imp {X : Cx} {e : PySem.Expr} {t t' : TE} (h : PE X e t) (k : ∀ σ H Q, t' σ H Q → t σ H Q) : PE X e t' := ⟨fun pins s σ H Q I q => h.run pins s σ H Q I (k σ H Q q)⟩
theorem PT.imp {X : Cx} {e : PySem.Expr} {t t' : TT} (h : PT X e t) (k : ∀ σ H Q, t' σ H Q → t σ H Q) : PT X e t' := ⟨fun pins s σ H Q I q => h.run pins s σ H Q I (k σ H Q q)⟩
theorem PA.imp {X : Cx} {e : List PySem.Expr} {t t' : TA} (h : PA X e t) (k : ∀ σ H Q, t' σ H Q → t σ H Q) : PA X e t' := ⟨fun pos pins s σ H Q I q => h.run pos pins s σ H Q I (k σ H Q q)⟩
def RB : Hp → (Nat → Addr) → Nat → Bool → Bool → Prop := fun _ _ _ b a => b = a
def RO : Hp → (Nat → Addr) → Nat → Option Int → Option Int → Prop := fun _ _ _ b a => b = a
abbrev JE (X : Cx) (J : Jx) (e : PySem.Expr) (x : Ex) : Prop := PE X e (Can J (Rep J.G) (evE J.C x))
abbrev JA (X : Cx) (J : Jx) (es : List PySem.Expr) (xs : List Ex) : Prop := PA X es (Can J (RepA J.G) (evEs J.C xs))
abbrev JT (X : Cx) (J : Jx) (e : PySem.Expr) (x : Tx) : Prop := PT X e (Can J RB (evT J.C x))
/-! ### data read -/
section
variable {G : Gx} {F : Hp} {κ : Nat → Addr} {Bs : Gd} {S : Sto} {H : Hp} {v : V} {d : D}
theorem get_cell {n : Nat} {c : D} (h : get S (.cell n) = c) (hc : c ≠ .non) : S[n]? = some c := by
  have h2 : S.getD n .non = c := h
  rw [List.getD_eq_getElem?_getD] at h2
  cases e : S[n]? with
  | none =>
    rw [e] at h2
    exact absurd h2.symm hc
  | some u =>
    rw [e] at h2
    exact congrArg some h2
theorem Rel.gLst (R : Rel G F κ Bs S H) (r : Rep G F κ S.length v d) {ds : List D} (h : get S d = .lst ds) : ∃ a vs, v = .ref a ∧ H a = some (.lst vs) ∧ RepA G F κ S.length vs ds := by
  cases r with
  | cell l =>
    obtain ⟨_, o, e, c⟩ := R.cells _ _ (get_cell h (by intro z; cases z))
    cases c with
    | lst r => exact ⟨_, _, rfl, e, r⟩
  | lst e r =>
    have h2 : _ = ds := D.lst.inj h
    subst h2
    exact ⟨_, _, rfl, R.sub.plain e rfl, r⟩
  | _ => cases h
theorem Rel.gTup (R : Rel G F κ Bs S H) (r : Rep G F κ S.length v d) {ds : List D} (h : get S d = .tup ds) : ∃ a vs, v = .ref a ∧ SqT G.K H a vs ∧ RepA G F κ S.length vs ds := by
  cases r with
  | cell l =>
    obtain ⟨_, o, e, c⟩ := R.cells _ _ (get_cell h (by intro z; cases z))
    cases c
  | tup e r =>
    have h2 : _ = ds := D.tup.inj h
    subst h2
    exact ⟨_, _, rfl, R.sub.seqT e, r⟩
  | _ => cases h
theorem Rel.gScr (R : Rel G F κ Bs S H) (r : Rep G F κ S.length v d) {ds : List D} (h : get S d = .scr ds) : ∃ a vs, v = .ref a ∧ SqL G.K H a vs ∧ RepA G F κ S.length vs ds := by
  cases r with
  | cell l =>
    obtain ⟨_, o, e, c⟩ := R.cells _ _ (get_cell h (by intro z; cases z))
    cases c
  | scr e r =>
    have h2 : _ = ds := D.scr.inj h
    subst h2
    exact ⟨_, _, rfl, R.sub.seqL e, r⟩
  | _ => cases h
theorem Rel.gDK (R : Rel G F κ Bs S H) (r : Rep G F κ S.length v d) {ds : List (Ky × D)} (h : get S d = .dK ds) : ∃ a vs, v = .ref a ∧ Rd H a (.dK vs) ∧ RepK G F κ S.length vs ds := by
  cases r with
  | cell l =>
    obtain ⟨_, o, e, c⟩ := R.cells _ _ (get_cell h (by intro z; cases z))
    cases c with
    | dK r => exact ⟨_, _, rfl, .inl e, r⟩
  | dK e r =>
    have h2 : _ = ds := D.dK.inj h
    subst h2
    exact ⟨_, _, rfl, R.sub.rd e, r⟩
  | _ => cases h
theorem Rel.gObj (R : Rel G F κ Bs S H) (r : Rep G F κ S.length v d) {c : Nat} {ds : Fds} (h : get S d = .obj c ds) : ∃ a dx vs, v = .ref a ∧ H a = some (.ins (G.cm c) dx vs) ∧ RepF G F κ S.length vs ds ∧ c < G.nk := by
  cases r with
  | cell l =>
    obtain ⟨_, o, e, x⟩ := R.cells _ _ (get_cell h (by intro z; cases z))
    cases x with
    | obj lt r => exact ⟨_, _, _, rfl, e, r, lt⟩
  | obj lt e r =>
    have h1 := D.obj.inj h
    obtain ⟨h2, h3⟩ := h1
    subst h2 h3
    exact ⟨_, _, _, rfl, R.sub.plain e rfl, r, lt⟩
  | _ => cases h
theorem rep_int {i : Int} {n : Nat} (r : Rep G F κ n v (.int i)) : v = .int i := by cases r; rfl
theorem rep_bl {i : Bool} {n : Nat} (r : Rep G F κ n v (.bl i)) : v = .bl i := by cases r; rfl
theorem rep_str {i : List Nat} {n : Nat} (r : Rep G F κ n v (.str i)) : v = .str ⟨i.toArray⟩ := by cases r; rfl
theorem rep_non {n : Nat} (r : Rep G F κ n v .non) : v = .non := by cases r; rfl
theorem str_len (x : List Nat) : (⟨x.toArray⟩ : Str).length = x.length := by
  show x.toArray.size = x.length
  simp
theorem str_app (x y : List Nat) : (⟨x.toArray⟩ : Str) ++ ⟨y.toArray⟩ = ⟨(x ++ y).toArray⟩ := by
  show Str.append _ _ = _
  simp [Str.append]
theorem big_line {n : Nat} (h : n ≤ big) : n ≤ sizeLine := by
  rw [sizeLine_eq]
  unfold big at h
  omega
theorem big_lt {n : Nat} (h : n < big) : n < sizeLine := by
  rw [sizeLine_eq]
  unfold big at h
  omega
end
/-! ### ends -/
section
variable {J : Jx} {F : Hp} {κ : Nat → Addr} {l : Loc} {S : Sto} {σ : L2.St} {H : Hp} {Q : VK}
/-- nothing has changed -/
theorem Stt.ret (s : Stt J F κ l S σ H) {d : D} {v : V} (p : Post J (Rep J.G) F κ S.length σ Q (.ok d S)) (r : Rep J.G F κ S.length v d) : Q v H :=
  p F κ v H .refl (Nat.le_refl _) s.rel r
/-- a new tuple, frozen list .. -/
theorem Stt.retNew (s : Stt J F κ l S σ H) {d : D} {a : Addr} {o : HO} (hp : H a = none) (p : Post J (Rep J.G) F κ S.length σ Q (.ok d S)) (r : ∀ F', F' a = some o → Ext F κ S.length F' κ → Rep J.G F' κ S.length (.ref a) d) : Q (.ref a) (upd H a o) := by
  obtain ⟨R, e⟩ := s.rel.new (o := o) hp
  exact p _ κ _ _ e (Nat.le_refl _) R (r _ upd_same e)
/-- a new list, dict, object: data, or a cell -/
theorem Stt.mkC (s : Stt J F κ l S σ H) {b : Bool} {c : D} {a : Addr} {o : HO} (hp : H a = none) (p : Post J (Rep J.G) F κ S.length σ Q (mkF b c S)) (r : Cont J.G F κ S.length o c) : Q (.ref a) (upd H a o) := by
  cases b with
  | false => exact s.retNew hp (show Post J (Rep J.G) F κ S.length σ Q (.ok c S) from p) fun F' h e => (r.mono e (Nat.le_refl _)).rep h
  | true =>
    obtain ⟨κ', k, e, R⟩ := s.rel.push hp r
    have p2 : Post J (Rep J.G) F κ S.length σ Q (.ok (.cell S.length) (S ++ [c])) := p
    have len : (S ++ [c]).length = S.length + 1 := by simp
    refine p2 F κ' _ _ e (by rw [len]; exact Nat.le_succ _) R ?_
    rw [← k]
    exact .cell (by rw [len]; exact Nat.lt_succ_self _)
theorem Stt.opt (s : Stt J F κ l S σ H) {o : Option D} (p : Post J (Rep J.G) F κ S.length σ Q (optR o S)) : ∃ d, o = some d ∧ Post J (Rep J.G) F κ S.length σ Q (.ok d S) := by
  cases o with
  | none => exact p.elim
  | some d => exact ⟨d, rfl, p⟩
end
section
variable {X : Cx} {J : Jx} {pos p1 p2 : Pos} {a b c e : PySem.Expr} {x y z w : Ex}
/-! ### names, constants -/
theorem je_var {i : Nat} {n : Str} (hN : X.N[i]? = some n) (hv : Vis X.env.scope n) (hd : (n == ("__debug__" : Str)) = false) (hc : (n == ("__classdict__" : Str)) = false) : JE X J (.Name n pos) (.var i) := by
  refine PE.imp (pe_var hN hv hd hc) fun σ H Q ⟨F, κ, l, S, s, p⟩ => ?_
  have p : Post J (Rep J.G) F κ S.length σ Q (match l[i]? with
    | some (some d) => .ok d S
    | _ => .stuck) := p
  cases h : l[i]? with
  | none =>
    rw [h] at p
    exact p.elim
  | some o =>
    cases o with
    | none =>
      rw [h] at p
      exact p.elim
    | some d =>
      rw [h] at p
      obtain ⟨v, h1, h2⟩ := s.lo.2 i d h
      exact ⟨v, h1, s.ret p h2⟩
theorem je_c {v : V} (h : PE X e (tC v)) (hx : ∀ F κ l S, ∃ d, evE J.C x l S = .ok d S ∧ Rep J.G F κ S.length v d) : JE X J e x := by
  refine PE.imp h fun σ H Q ⟨F, κ, l, S, s, p⟩ => ?_
  obtain ⟨d, h1, h2⟩ := hx F κ l S
  rw [h1] at p
  exact s.ret p h2
theorem je_int {i : Int} {k : Nat} : JE X J (.Constant (.int i) k pos) (.int i) := je_c pe_int fun F κ l S => ⟨_, rfl, .int i⟩
theorem je_bl {i : Bool} {k : Nat} : JE X J (.Constant (.bool i) k pos) (.bl i) := je_c pe_bl fun F κ l S => ⟨_, rfl, .bl i⟩
theorem je_non {k : Nat} : JE X J (.Constant .none k pos) .non := je_c pe_non fun F κ l S => ⟨_, rfl, .non⟩
theorem str_eta (x : Str) : (⟨x.cps.toList.toArray⟩ : Str) = x := by
  obtain ⟨a⟩ := x
  simp
theorem je_str {x : Str} {k : Nat} : JE X J (.Constant (.str x) k pos) (.str x.cps.toList) := je_c pe_str fun F κ l S => ⟨_, rfl, by
  have r : Rep J.G F κ S.length (.str ⟨x.cps.toList.toArray⟩) (.str x.cps.toList) := .str _
  rw [str_eta] at r
  exact r⟩
/-! ### two parts -/
theorem je_op2 {r : R2} (f : D → D → Sto → R D) (h : ∀ ta tb, PE X a ta → PE X b tb → PE X e (tOp r ta tb)) (ha : JE X J a x) (hb : JE X J b y)
    (ex : ∀ l S, evE J.C z l S = (evE J.C x l S).bind fun u S1 => (evE J.C y l S1).bind fun v S2 => f u v S2)
    (k : ∀ F κ l S σ H Q u v du dv, Stt J F κ l S σ H → Rep J.G F κ S.length u du → Rep J.G F κ S.length v dv → Post J (Rep J.G) F κ S.length σ Q (f du dv S) → r u v H Q) : JE X J e z := by
  refine PE.imp (h _ _ ha hb) fun σ H Q ⟨F, κ, l, S, s, p⟩ => ?_
  rw [ex] at p
  refine Can.mono (s.bind p) fun u H1 ⟨F1, κ1, S1, du, _, _, s1, r1, p1⟩ => ?_
  refine Can.mono (s1.bind p1) fun v H2 ⟨F2, κ2, S2, dv, e2, n2, s2, r2, p2⟩ => ?_
  exact k _ _ _ _ _ _ _ _ _ _ _ s2 (r1.mono e2 n2) r2 p2
end
end EL

/-! ELx2: a text times a number; is True. -/
namespace EL
open PySem L2 PySem.Spec PyProof.Rows
theorem fold_app (xs : Array Nat) : ∀ (n : Nat) (acc : Array Nat), ((List.replicate n xs).foldl (· ++ ·) acc).toList = acc.toList ++ (List.replicate n xs.toList).flatten
  | 0, acc => by simp
  | n + 1, acc => by
    rw [List.replicate_succ, List.foldl_cons, fold_app xs n, List.replicate_succ, List.flatten_cons, Array.toList_append, List.append_assoc]
theorem times_str (x : List Nat) (n : Nat) : (⟨(List.replicate n x.toArray).foldl (· ++ ·) #[]⟩ : Str) = ⟨((List.replicate n x).flatten).toArray⟩ := by
  congr 1
  apply Array.toList_inj.mp
  rw [fold_app]
  simp
theorem op_mulT {X : Cx} : OpR X (binaryOp .Mult) (fun x y H Q => ∃ (a : List Nat) (k : Int), x = .str ⟨a.toArray⟩ ∧ y = .int k ∧ k.natAbs ≤ big ∧ a.length * k.toNat ≤ big ∧ Q (.str ⟨((List.replicate k.toNat a).flatten).toArray⟩) H) := by
  intro pins s σ H x y v u Q I rx ry h
  obtain ⟨a, k, rfl, rfl, hk, hz, q⟩ := h
  obtain ⟨t, rfl⟩ := rx
  obtain ⟨t2, rfl⟩ := ry
  have la : (⟨a.toArray⟩ : Str).length = a.length := str_len a
  have hk2 : k.natAbs ≤ 100000 := hk
  have hz2 : a.length * k.toNat ≤ 100000 := hz
  have b1 : (decide (k < -(2 ^ 63 : Int)) || decide (k ≥ 2 ^ 63)) = false := by
    have h1 : ¬ k < -(2 ^ 63 : Int) := by omega
    have h2 : ¬ k ≥ 2 ^ 63 := by omega
    rw [decide_eq_false h1, decide_eq_false h2]
    rfl
  have pos : ∀ {k : Int}, ¬ k < 1 → a.length * k.toNat ≤ 100000 → a.length ≤ 100000 := fun {k} hp h => by
    have : 1 ≤ k.toNat := by omega
    exact Nat.le_trans (Nat.le_mul_of_pos_right _ this) h
  refine PySem.P.mul_str b1 (fun hp _ => ?_) (fun _ _ => ?_) ?_
  · rw [la]
    have h1 := pos hp hz2
    have h3 : (k : Int) ≤ 100000 := by omega
    have h4 : ((a.length : Int)) ≤ (2 ^ 63 - 1) / k := by
      rw [Int.le_ediv_iff_mul_le (by omega)]
      have h5 : (a.length : Int) * k ≤ 100000 * 100000 := Int.mul_le_mul (by omega) h3 (by omega) (by omega)
      omega
    omega
  · rw [la]
    unfold Builtin.Str.tooLong
    refine decide_eq_false ?_
    rw [sizeLine_eq]
    omega
  · have e1 : k < 1 → (Str.empty : Str) = ⟨((List.replicate k.toNat a).flatten).toArray⟩ := fun h => by
      have : k.toNat = 0 := by omega
      rw [this]
      rfl
    split
    · rename_i h
      exact ⟨by decide, ⟨.str Str.empty, H, I.tok _, ⟨_, rfl⟩, by rw [e1 h]; exact q⟩⟩
    · split
      · rename_i h1 h2
        have e2 : (⟨a.toArray⟩ : Str) = ⟨((List.replicate k.toNat a).flatten).toArray⟩ := by
          rw [Bool.or_eq_true] at h2
          rcases h2 with h2 | h2
          · have : k = 1 := by simpa using h2
            subst this
            simp
          · rw [la] at h2
            have : a = [] := by
              have : a.length = 0 := by simpa using h2
              exact List.length_eq_zero_iff.mp this
            subst this
            simp
        exact ⟨.str ⟨a.toArray⟩, H, I, ⟨_, rfl⟩, by rw [e2]; exact q⟩
      · rw [times_str]
        refine ⟨?_, ⟨.str _, H, I.tok _, ⟨_, rfl⟩, q⟩⟩
        show ((List.replicate k.toNat a).flatten).toArray.size ≤ sizeLine
        simp
        rw [sizeLine_eq, Nat.mul_comm]
        omega
/-- x is True, where x is a truth or a whole number -/
def rIsK (neg k : Bool) : V → V → Hp → VK → Prop := fun x y H Q => y = .bl k ∧ ((∃ a, x = .bl a ∧ Q (.bl (neg != decide (a = k))) H) ∨ ∃ i, x = .int i ∧ Q (.bl neg) H)
theorem op_isK {X : Cx} {k : Bool} : OpR X (compareOp .Is) (rIsK false k) := by
  intro pins s σ H x y v u Q I rx ry h
  obtain ⟨rfl, h⟩ := h
  cases (show u = Value.bool k from ry)
  rcases h with ⟨a, rfl, q⟩ | ⟨i, rfl, q⟩
  · cases (show v = Value.bool a from rx)
    by_cases e : a = k
    · subst e
      exact wpAny_is_self rfl ⟨.bl true, H, I, rfl, by simpa using q⟩
    · exact wpAny_is_other rfl (fun z => e (Value.bool.inj z)) ⟨.bl false, H, I, rfl, by simpa [e] using q⟩
  · obtain ⟨t, rfl⟩ := rx
    exact wpAny_is_other rfl (fun z => by cases z) ⟨.bl false, H, I, rfl, q⟩
theorem op_notK {X : Cx} {k : Bool} : OpR X (compareOp .IsNot) (rIsK true k) := by
  intro pins s σ H x y v u Q I rx ry h
  obtain ⟨rfl, h⟩ := h
  cases (show u = Value.bool k from ry)
  rcases h with ⟨a, rfl, q⟩ | ⟨i, rfl, q⟩
  · cases (show v = Value.bool a from rx)
    by_cases e : a = k
    · subst e
      exact wpAny_isNot_self rfl ⟨.bl false, H, I, rfl, by simpa using q⟩
    · exact wpAny_isNot_other rfl (fun z => e (Value.bool.inj z)) ⟨.bl true, H, I, rfl, by simpa [e] using q⟩
  · obtain ⟨t, rfl⟩ := rx
    exact wpAny_isNot_other rfl (fun z => by cases z) ⟨.bl true, H, I, rfl, q⟩
/-! ### a text cut at a sign -/
theorem spl_one (c : Nat) : ∀ (x acc : List Nat), TL.spl [c] 0 acc x = splC c acc x
  | [], acc => rfl
  | d :: r, acc => by
    unfold splC
    by_cases h : d = c
    · subst h
      rw [if_pos rfl, TL.spl_hit (by simp [TL.pre])]
      show acc :: TL.spl [d] 0 [] r = _
      rw [spl_one]
    · rw [if_neg h, TL.spl_miss (by simp [TL.pre]; exact h), spl_one]
theorem split_sign (x : List Nat) (c : Nat) (hc : c < 256) : Txt.split ⟨x.toArray⟩ ⟨#[c]⟩ = (splC c [] x).map fun y => ⟨y.toArray⟩ := by
  have e := TL.split_spl ⟨x.toArray⟩ ⟨#[c]⟩ (by simp [TL.tl]) (TL.kind_ok (by simpa using hc))
  have e2 : (Txt.split ⟨x.toArray⟩ ⟨#[c]⟩).map (fun z : Str => z.cps.toList) = splC c [] x := by
    rw [← spl_one]
    exact e
  rw [← e2, List.map_map]
  refine (List.map_congr_left (g := id) (fun z _ => ?_)).trans (List.map_id _) |>.symm
  simp
end EL

/-! ELy: operators, comparisons, tests, displays, subscripts. -/
namespace EL
open PySem L2 PySem.Spec PyProof.Rows
section
variable {J : Jx} {F : Hp} {κ : Nat → Addr} {l : Loc} {S : Sto} {σ : L2.St} {H : Hp} {Q : VK}
/-! ### arithmetic -/
theorem bin_cases {b : Bool} {o : Op} {x y : D} (p : Post J (Rep J.G) F κ S.length σ Q (binD b o x y S)) :
    (∃ i j k, x = .int i ∧ y = .int j ∧ binI o i j = some k ∧ Post J (Rep J.G) F κ S.length σ Q (.ok (.int k) S)) ∨
    (∃ i j, x = .str i ∧ y = .str j ∧ o = .add ∧ i.length + j.length ≤ big ∧ Post J (Rep J.G) F κ S.length σ Q (.ok (.str (i ++ j)) S)) ∨
    (∃ i j, get S x = .lst i ∧ get S y = .lst j ∧ o = .add ∧ i.length + j.length ≤ big ∧ Post J (Rep J.G) F κ S.length σ Q (mkF b (.lst (i ++ j)) S)) ∨
    (∃ i k, x = .str i ∧ y = .int k ∧ o = .mul ∧ (k.natAbs ≤ big ∧ i.length * k.toNat ≤ big) ∧ Post J (Rep J.G) F κ S.length σ Q (.ok (.str (List.replicate k.toNat i).flatten) S)) ∨
    (∃ i j, x = .tup i ∧ y = .tup j ∧ o = .add ∧ i.length + j.length ≤ big ∧ Post J (Rep J.G) F κ S.length σ Q (.ok (.tup (i ++ j)) S)) ∨
    ∃ i k, get S x = .lst i ∧ y = .int k ∧ o = .mul ∧ (k.natAbs ≤ big ∧ i.length * k.toNat ≤ big) ∧ Post J (Rep J.G) F κ S.length σ Q (mkF b (.lst (List.replicate k.toNat i).flatten) S) := by
  unfold binD at p
  split at p
  · rename_i i j
    split at p
    · rename_i k h
      exact .inl ⟨i, j, k, rfl, rfl, h, p⟩
    · exact p.elim
  · rename_i i j
    split at p
    · split at p
      · rename_i h
        exact .inr (.inl ⟨i, j, rfl, rfl, rfl, h, p⟩)
      · exact p.elim
    · exact p.elim
  · rename_i i k
    split at p
    · split at p
      · rename_i h
        exact .inr (.inr (.inr (.inl ⟨i, k, rfl, rfl, rfl, h, p⟩)))
      · exact p.elim
    · exact p.elim
  · rename_i i j
    split at p
    · split at p
      · rename_i h
        exact .inr (.inr (.inr (.inr (.inl ⟨i, j, rfl, rfl, rfl, h, p⟩))))
      · exact p.elim
    · exact p.elim
  · split at p
    · rename_i xs hx
      split at p
      · split at p
        · rename_i h
          exact .inr (.inr (.inr (.inr (.inr ⟨xs, _, hx, rfl, rfl, h, p⟩))))
        · exact p.elim
      · exact p.elim
    · exact p.elim
  · split at p
    · rename_i i j hi hj
      split at p
      · split at p
        · rename_i h
          exact .inr (.inr (.inl ⟨i, j, hi, hj, rfl, h, p⟩))
        · exact p.elim
      · exact p.elim
    · exact p.elim
theorem RepA.times {G : Gx} {F : Hp} {κ : Nat → Addr} {n : Nat} {vs : List V} {ds : List D} (q : RepA G F κ n vs ds) : ∀ k : Nat, RepA G F κ n (List.replicate k vs).flatten (List.replicate k ds).flatten
  | 0 => .nil
  | k + 1 => by
    rw [List.replicate_succ, List.replicate_succ, List.flatten_cons, List.flatten_cons]
    exact q.app (RepA.times q k)
theorem rep_tup {G : Gx} {F : Hp} {κ : Nat → Addr} {n : Nat} {v : V} {ds : List D} (r : Rep G F κ n v (.tup ds)) : ∃ a vs, v = .ref a ∧ SqT G.K F a vs ∧ RepA G F κ n vs ds := by
  cases r with
  | tup h q => exact ⟨_, _, rfl, h, q⟩
end
section
variable {X : Cx} {J : Jx} {pos p1 p2 : Pos} {a b c e : PySem.Expr} {x y z w : Ex} {k : Bool}
theorem je_add (hK : J.G.K = X.K) (ha : JE X J a x) (hb : JE X J b y) : JE X J (.BinOp a .Add b pos) (.bin k .add x y) := by
  refine je_op2 (binD k .add) (fun ta tb ha hb => pe_op (OpR.or op_add (OpR.or op_add_str (OpR.or op_cat op_catA))) ha hb) ha hb (fun _ _ => rfl) fun F κ l S σ H Q u v du dv s r1 r2 p => ?_
  rcases bin_cases p with ⟨i, j, n, rfl, rfl, h, p⟩ | ⟨i, j, rfl, rfl, _, hl, p⟩ | ⟨xs, ys, gx, gy, _, hl, p⟩ | ⟨i, k, rfl, rfl, h, _⟩ | ⟨xs, ys, rfl, rfl, _, hl, p⟩ | ⟨xs, k, gx, rfl, h, _⟩
  · have h2 : some (i + j) = some n := h
    cases h2
    exact .inl ⟨i, j, rep_int r1, rep_int r2, s.ret p (.int _)⟩
  · refine .inr (.inl ⟨_, _, rep_str r1, rep_str r2, by rw [str_len, str_len]; exact big_line hl, ?_⟩)
    rw [str_app]
    exact s.ret p (.str _)
  · obtain ⟨a1, vs, rfl, e1, q1⟩ := s.rel.gLst r1 gx
    obtain ⟨a2, ws, rfl, e2, q2⟩ := s.rel.gLst r2 gy
    refine .inr (.inr (.inl ⟨a1, a2, vs, ws, rfl, rfl, e1, e2, by rw [q1.len, q2.len]; exact big_line hl, fun p' hp => ?_⟩))
    exact s.mkC hp p (.lst (q1.app q2))
  · cases h
  · obtain ⟨a1, vs, rfl, e1, q1⟩ := s.rel.gTup r1 (show get S (.tup xs) = .tup xs from rfl)
    obtain ⟨a2, ws, rfl, e2, q2⟩ := s.rel.gTup r2 (show get S (.tup ys) = .tup ys from rfl)
    rw [hK] at e1 e2
    have l1 := q1.len
    have l2 := q2.len
    refine .inr (.inr (.inr ⟨a1, a2, vs, ws, rfl, rfl, e1, e2, by rw [l1, l2]; exact big_line hl, fun z => ?_, fun _ z => ?_, fun _ _ p' hp => ?_⟩))
    · subst z
      have : xs = [] := List.length_eq_zero_iff.mp l1.symm
      subst this
      exact s.ret p r2
    · subst z
      have : ys = [] := List.length_eq_zero_iff.mp l2.symm
      subst this
      rw [List.append_nil] at p
      exact s.ret p r1
    · exact s.retNew hp p fun F' h e => .tup (.inl (.inl h)) ((q1.app q2).mono e (Nat.le_refl _))
  · cases h
theorem je_bI {op : Operator} {o : Op} {C : Int → Int → Prop} {g : Int → Int → Int} (ho : OpR X (binaryOp op) (rI C fun i j => .int (g i j))) (hn : o ≠ .add) (hm : o ≠ .mul) (hc : ∀ i j n, binI o i j = some n → C i j ∧ n = g i j)
    (ha : JE X J a x) (hb : JE X J b y) : JE X J (.BinOp a op b pos) (.bin k o x y) := by
  refine je_op2 (binD k o) (fun ta tb ha hb => pe_op ho ha hb) ha hb (fun _ _ => rfl) fun F κ l S σ H Q u v du dv s r1 r2 p => ?_
  rcases bin_cases p with ⟨i, j, n, rfl, rfl, h, p⟩ | ⟨i, j, rfl, rfl, h, _⟩ | ⟨xs, ys, gx, gy, h, _⟩ | ⟨i, k, rfl, rfl, h, _⟩ | ⟨xs, ys, rfl, rfl, h, _⟩ | ⟨xs, k, gx, rfl, h, _⟩
  · obtain ⟨h1, h2⟩ := hc i j n h
    subst h2
    exact ⟨i, j, rep_int r1, rep_int r2, h1, s.ret p (.int _)⟩
  · exact absurd h hn
  · exact absurd h hn
  · exact absurd h hm
  · exact absurd h hn
  · exact absurd h hm
theorem je_sub (ha : JE X J a x) (hb : JE X J b y) : JE X J (.BinOp a .Sub b pos) (.bin k .sub x y) := by
  refine je_op2 (binD k .sub) (fun ta tb ha hb => pe_op op_sub ha hb) ha hb (fun _ _ => rfl) fun F κ l S σ H Q u v du dv s r1 r2 p => ?_
  rcases bin_cases p with ⟨i, j, n, rfl, rfl, h, p⟩ | ⟨i, j, rfl, rfl, h, _⟩ | ⟨xs, ys, gx, gy, h, _⟩ | ⟨i, k, rfl, rfl, h, _⟩ | ⟨xs, ys, rfl, rfl, h, _⟩ | ⟨xs, k, gx, rfl, h, _⟩
  · have h2 : some (i - j) = some n := h
    cases h2
    exact ⟨i, j, rep_int r1, rep_int r2, s.ret p (.int _)⟩
  all_goals cases h
theorem p64 : (2 : Int) ^ 64 = 18446744073709551616 := by decide
theorem p64n : (2 : Nat) ^ 64 = 18446744073709551616 := by decide
theorem mulOk_ok {i j : Int} (h : mulOk i j = true) : CMul i j := by
  unfold mulOk at h
  rw [Bool.or_eq_true, decide_eq_true_eq, decide_eq_true_eq] at h
  unfold CMul
  rw [p64]
  omega
theorem je_mul (ha : JE X J a x) (hb : JE X J b y) : JE X J (.BinOp a .Mult b pos) (.bin k .mul x y) := by
  refine je_op2 (binD k .mul) (fun ta tb ha hb => pe_op (OpR.or op_mul (OpR.or op_mulT op_rep)) ha hb) ha hb (fun _ _ => rfl) fun F κ l S σ H Q u v du dv s r1 r2 p => ?_
  rcases bin_cases p with ⟨i, j, n, rfl, rfl, h, p⟩ | ⟨i, j, rfl, rfl, h, _⟩ | ⟨xs, ys, gx, gy, h, _⟩ | ⟨i, k, rfl, rfl, _, h, p⟩ | ⟨xs, ys, rfl, rfl, h, _⟩ | ⟨xs, k, gx, rfl, _, h, p⟩
  · have h2 : (if mulOk i j then some (i * j) else none) = some n := h
    split at h2
    · rename_i q
      cases h2
      exact .inl ⟨i, j, rep_int r1, rep_int r2, mulOk_ok q, s.ret p (.int _)⟩
    · cases h2
  · cases h
  · cases h
  · exact .inr (.inl ⟨i, k, rep_str r1, rep_int r2, h.1, h.2, s.ret p (.str _)⟩)
  · cases h
  · obtain ⟨a1, vs, rfl, e1, q1⟩ := s.rel.gLst r1 gx
    have h1 : k.natAbs ≤ 100000 := h.1
    exact .inr (.inr ⟨a1, k, vs, rfl, rep_int r2, e1, by omega, by omega, by rw [q1.len]; exact big_line h.2, fun p' hp => s.mkC hp p (.lst (q1.times _))⟩)
theorem je_mod (ha : JE X J a x) (hb : JE X J b y) : JE X J (.BinOp a .Mod b pos) (.bin k .mod x y) := by
  refine je_bI op_mod (by decide) (by decide) (fun i j n h => ?_) ha hb
  have h2 : (if 0 < j then some (i % j) else none) = some n := h
  split at h2
  · rename_i q
    exact ⟨q, (Option.some.inj h2).symm⟩
  · cases h2
theorem je_fdiv (ha : JE X J a x) (hb : JE X J b y) : JE X J (.BinOp a .FloorDiv b pos) (.bin k .fdiv x y) := by
  refine je_bI op_fdivW (by decide) (by decide) (fun i j n h => ?_) ha hb
  have h2 : (if 0 < j ∧ j < 1000000000000000000000000000000 then some (i / j) else none) = some n := h
  split at h2
  · rename_i q
    refine ⟨wide_div q.1 (b := 128) ?_ (by decide) (by decide), (Option.some.inj h2).symm⟩
    have e : (2 : Nat) ^ 128 = 340282366920938463463374607431768211456 := by decide
    rw [e]
    omega
  · cases h2
theorem je_pow (ha : JE X J a x) (hb : JE X J b y) : JE X J (.BinOp a .Pow b pos) (.bin k .pow x y) := by
  refine je_bI op_pow (by decide) (by decide) (fun i j n h => ?_) ha hb
  have h2 : (if 0 ≤ j ∧ j ≤ 1000 ∧ i.natAbs < 18446744073709551616 then some (i ^ j.toNat) else none) = some n := h
  split at h2
  · rename_i q
    refine ⟨⟨q.1, by omega, ?_⟩, (Option.some.inj h2).symm⟩
    rw [p64n]
    exact q.2.2
  · cases h2
/-- one part -/
theorem je_op1 {r : V → Hp → VK → Prop} (f : D → Sto → R D) (h : ∀ ta, PE X a ta → PE X e (tUn r ta)) (ha : JE X J a x)
    (ex : ∀ l S, evE J.C z l S = (evE J.C x l S).bind f)
    (k : ∀ F κ l S σ H Q u du, Stt J F κ l S σ H → Rep J.G F κ S.length u du → Post J (Rep J.G) F κ S.length σ Q (f du S) → r u H Q) : JE X J e z := by
  refine PE.imp (h _ ha) fun σ H Q ⟨F, κ, l, S, s, p⟩ => ?_
  rw [ex] at p
  exact Can.mono (s.bind p) fun u H1 ⟨F1, κ1, S1, du, _, _, s1, r1, p1⟩ => k _ _ _ _ _ _ _ _ _ s1 r1 p1
theorem je_neg (ha : JE X J a x) : JE X J (.UnaryOp .USub a pos) (.neg x) := by
  refine je_op1 (fun u S1 => match u with
    | .int i => .ok (.int (-i)) S1
    | _ => .stuck) (fun ta h => pe_un un_neg h) ha (fun _ _ => rfl) fun F κ l S σ H Q u du s r p => ?_
  cases du with
  | int i => exact ⟨i, rep_int r, s.ret p (.int _)⟩
  | _ => exact p.elim
end
end EL

/-! ELv: == and repr of data. -/
namespace EL
open PySem L2 PySem.Spec PyProof.Rows
/-! ### how long a repr is -/
theorem e10 : (10 : Nat) ^ 40 = 10000000000000000000000000000000000000000 := by decide
theorem e16 : (16 : Nat) ^ 8 = 4294967296 := by decide
mutual
theorem wP_ok : ∀ p : PD, wP p ≤ big → p.showable = true ∧ p.shown.length ≤ wP p
  | .none, _ => ⟨rfl, by decide +kernel⟩
  | .bool b, _ => ⟨rfl, by cases b <;> decide +kernel⟩
  | .int i, h => by
    have h2 : (if i.natAbs < 10000000000000000000000000000000000000000 then 41 else 1000000) ≤ big := h
    have h3 : wP (.int i) = (if i.natAbs < 10000000000000000000000000000000000000000 then 41 else 1000000) := rfl
    split at h2
    · rename_i q
      rw [if_pos q] at h3
      have q2 : i.natAbs < 10 ^ 40 := by rw [e10]; exact q
      refine ⟨?_, ?_⟩
      · show decide (i.natAbs.log2 < 1920) = true
        refine decide_eq_true ?_
        have : i.natAbs < 2 ^ 1920 := Nat.lt_trans q2 (by decide)
        rcases Nat.eq_zero_or_pos i.natAbs with z | z
        · rw [z]; decide
        · exact (Nat.log2_lt (by omega)).mpr this
      · rw [h3]
        show (Str.ofString (toString i)).length ≤ 41
        rw [PySem.ofString_length]
        exact int_text_length_le10 (k := 40) (by decide) q2
    · unfold big at h2
      omega
  | .str x, h => by
    have h2 : (if x.cps.toList.all (fun c => decide (c < 1114112)) then 10 * x.length + 2 else 1000000) ≤ big := h
    have h3 : wP (.str x) = (if x.cps.toList.all (fun c => decide (c < 1114112)) then 10 * x.length + 2 else 1000000) := rfl
    split at h2
    · rename_i q
      rw [if_pos q] at h3
      refine ⟨rfl, ?_⟩
      rw [h3]
      exact PySem.StrLaws.reprText_len x fun c hc => by
        have := of_decide_eq_true (List.all_eq_true.mp q c hc)
        rw [e16]
        omega
    · unfold big at h2
      omega
  | .list xs, h => by
    have h2 : wPs xs + 3 ≤ big := h
    obtain ⟨a, c⟩ := wPs_ok xs (by omega)
    refine ⟨a, ?_⟩
    show (listText (PyData.shownAll xs)).length ≤ wPs xs + 3
    exact Nat.le_trans (listText_len_le _) (by omega)
  | .tuple xs, h => by
    have h2 : wPs xs + 3 ≤ big := h
    obtain ⟨a, c⟩ := wPs_ok xs (by omega)
    refine ⟨a, ?_⟩
    show (tupleText (PyData.shownAll xs)).length ≤ wPs xs + 3
    exact Nat.le_trans (tupleText_len_le _) (by omega)
  | .dict kvs, h => by
    have h2 : wPk kvs + 3 ≤ big := h
    obtain ⟨a, c⟩ := wPk_ok kvs (by omega)
    refine ⟨a, ?_⟩
    show (dictText (PyData.shownKv kvs)).length ≤ wPk kvs + 3
    have := dictText_len_le (PyData.shownKv kvs)
    rw [PyData.shownKv_length] at this
    omega
theorem wPs_ok : ∀ ps : List PD, wPs ps ≤ big → PyData.showableAll ps = true ∧ ((PyData.shownAll ps).map (·.length)).sum + 2 * (PyData.shownAll ps).length ≤ wPs ps
  | [], _ => ⟨rfl, Nat.le_refl _⟩
  | p :: ps, h => by
    have h2 : wP p + 2 + wPs ps ≤ big := h
    obtain ⟨a1, c1⟩ := wP_ok p (by omega)
    obtain ⟨a2, c2⟩ := wPs_ok ps (by omega)
    refine ⟨and2.mpr ⟨a1, a2⟩, ?_⟩
    show (p.shown.length :: (PyData.shownAll ps).map (·.length)).sum + 2 * ((PyData.shownAll ps).length + 1) ≤ wP p + 2 + wPs ps
    rw [List.sum_cons]
    omega
theorem wPk_ok : ∀ ps : List (PD × PD), wPk ps ≤ big → PyData.showableKv ps = true ∧ ((PyData.shownKv ps).map (·.length)).sum + 2 * ps.length ≤ wPk ps
  | [], _ => ⟨rfl, Nat.le_refl _⟩
  | (k, v) :: ps, h => by
    have h2 : wP k + wP v + 4 + wPk ps ≤ big := h
    obtain ⟨a1, c1⟩ := wP_ok k (by omega)
    obtain ⟨a2, c2⟩ := wP_ok v (by omega)
    obtain ⟨a3, c3⟩ := wPk_ok ps (by omega)
    refine ⟨and2.mpr ⟨and2.mpr ⟨a1, a2⟩, a3⟩, ?_⟩
    have e : (PyData.shownKv ((k, v) :: ps)).map (·.length) = (k.shown ++ ": " ++ v.shown).length :: (PyData.shownKv ps).map (·.length) := by
      simp only [PyData.shownKv, List.map_cons]
    have e2 : (k.shown ++ ": " ++ v.shown).length = k.shown.length + 2 + v.shown.length := by
      rw [strLen_append, strLen_append]
      rfl
    show _ ≤ wP k + wP v + 4 + wPk ps
    rw [e, List.sum_cons, e2, List.length_cons]
    omega
end
/-! ### data in the heap is read -/
section
variable {X : Cx} {pins : List (Addr × Obj)} {σ : L2.St} {H : Hp} {s : Shared} {G : Gx} {F : Hp} {κ : Nat → Addr} {Bs : Gd} {S : Sto}
/-- the dict of modules is not among them -/
def NoSm (K : PySem.W.Frag) (as : List Addr) : Prop := (K.lookup sysModules).isSome = true → sysModules ∉ as
theorem NoSm.nil {K : PySem.W.Frag} : NoSm K [] := fun _ => by simp
theorem NoSm.app {K : PySem.W.Frag} {as bs : List Addr} (h1 : NoSm K as) (h2 : NoSm K bs) : NoSm K (as ++ bs) := fun k z => (List.mem_append.mp z).elim (h1 k) (h2 k)
theorem NoSm.cons {K : PySem.W.Frag} {a : Addr} {as : List Addr} (h1 : (K.lookup sysModules).isSome = true → a ≠ sysModules) (h2 : NoSm K as) : NoSm K (a :: as) := fun k z => (List.mem_cons.mp z).elim (fun e => h1 k e.symm) (h2 k)
/-- what stands in the abstract heap is not the dict of modules -/
theorem nsm (I : Inv X pins σ H s) {a : Addr} {u : HO} (h : H a = some u) (k : (X.K.lookup sysModules).isSome = true) : a ≠ sysModules := fun e => by
  cases q : X.K.lookup sysModules with
  | none => rw [q] at k; cases k
  | some o =>
    have := (I.bs _ _ (I.ok.mod.kin _ _ q)).2
    rw [e] at h
    rw [h] at this
    cases this
mutual
theorem Rep.reads (I : Inv X pins σ H s) (hK : G.K = X.K) (R : Sub F H) (f : Nat → Option PD)
    (hf : ∀ i p, i < S.length → f i = some p → ∃ as, Reads s.heap (.ref (κ i)) p as ∧ NoSm X.K as) :
    ∀ {v : V} {d : D} {u : Value} {p : PD}, Rep G F κ S.length v d → RelV v u → toPW f d = some p → ∃ as, Reads s.heap u p as ∧ NoSm X.K as
  | _, _, _, _, .non, r, h => by
    cases h
    cases r
    exact ⟨_, .none, .nil⟩
  | _, _, _, _, .bl b, r, h => by
    cases h
    cases r
    exact ⟨_, .bool b, .nil⟩
  | _, _, _, _, .int i, r, h => by
    cases h
    obtain ⟨t, rfl⟩ := r
    exact ⟨_, .int i t, .nil⟩
  | _, _, _, _, .str x, r, h => by
    cases h
    obtain ⟨t, rfl⟩ := r
    exact ⟨_, .str _ t, .nil⟩
  | _, .tup ds, _, _, .tup e q, r, h => by
    cases r
    have h2 : (toPWs f ds).map PyData.tuple = some _ := h
    obtain ⟨ps, h3, h4⟩ := Option.map_eq_some_iff.mp h2
    subst h4
    obtain ⟨its, rv, ⟨o, ho, hc, n, hdt⟩, _⟩ := I.tuple (hK ▸ R.seqT e)
    obtain ⟨as, hr, hm⟩ := RepA.reads I hK R f hf q rv h3
    exact ⟨_, .tuple ho hc hdt hr, hm⟩
  | _, .lst ds, _, _, .lst e q, r, h => by
    cases r
    have h2 : (toPWs f ds).map PyData.list = some _ := h
    obtain ⟨ps, h3, h4⟩ := Option.map_eq_some_iff.mp h2
    subst h4
    obtain ⟨its, rv, ⟨o, n, ho, hc, _, hdt⟩, _⟩ := I.list (SqL.of (R.plain e rfl))
    obtain ⟨as, hr, hm⟩ := RepA.reads I hK R f hf q rv h3
    exact ⟨_, .list ho hc hdt hr, hm.cons (nsm I (R.plain e rfl))⟩
  | _, _, _, _, .scr e q, r, h => by cases h
  | _, .dK ds, _, p, .dK (a := a) e q, r, h => by
    cases r
    have h2 : (toPWK f ds).map PyData.dict = some p := h
    obtain ⟨ps, h3, h4⟩ := Option.map_eq_some_iff.mp h2
    subst h4
    obtain ⟨_, hz, vs2, kv, o, es, ep, ho, hx, hdt, _, prs, _⟩ := dk_rd I.hok (R.rd e)
    obtain ⟨as, bs, x1, x2, m1, m2⟩ := RepK.reads I hK R f hf q kv prs h3
    exact ⟨_, .dict ho hx.1 hdt x1 x2, (m1.cons fun _ z => by rw [z] at hz; simp at hz).app m2⟩
  | _, _, _, _, .dT e q, r, h => by cases h
  | _, _, _, _, .obj _ e q, r, h => by cases h
  | _, _, _, _, .cell l, r, h => by
    cases r
    exact hf _ _ l h
theorem RepA.reads (I : Inv X pins σ H s) (hK : G.K = X.K) (R : Sub F H) (f : Nat → Option PD)
    (hf : ∀ i p, i < S.length → f i = some p → ∃ as, Reads s.heap (.ref (κ i)) p as ∧ NoSm X.K as) :
    ∀ {v : List V} {d : List D} {u : List Value} {p : List PD}, RepA G F κ S.length v d → Vals v u → toPWs f d = some p → ∃ as, ReadsAll s.heap u p as ∧ NoSm X.K as
  | _, _, _, _, .nil, r, h => by
    cases h
    cases r
    exact ⟨_, .nil, .nil⟩
  | _, d :: ds, _, p, .cons q1 q2, r, h => by
    cases r with
    | cons r1 r2 =>
      have h2 : (match toPW f d, toPWs f ds with
        | some a, some b => some (a :: b)
        | _, _ => none) = some p := h
      split at h2
      · rename_i a b ha hb
        cases h2
        obtain ⟨as, x1, m1⟩ := Rep.reads I hK R f hf q1 r1 ha
        obtain ⟨bs, x2, m2⟩ := RepA.reads I hK R f hf q2 r2 hb
        exact ⟨_, .cons x1 x2, m1.app m2⟩
      · cases h2
theorem RepK.reads (I : Inv X pins σ H s) (hK : G.K = X.K) (R : Sub F H) (f : Nat → Option PD)
    (hf : ∀ i p, i < S.length → f i = some p → ∃ as, Reads s.heap (.ref (κ i)) p as ∧ NoSm X.K as) :
    ∀ {v : List (Key × V)} {d : List (Ky × D)} {u : List (Key × Value)} {es : List DictEntry} {p : List (PD × PD)}, RepK G F κ S.length v d → KV v u → Pairs (mixKind X.prog X.w) es u → toPWK f d = some p →
      ∃ as bs, ReadsAll s.heap (es.map (·.key)) (p.map (·.1)) as ∧ ReadsAll s.heap (es.map (·.val)) (p.map (·.2)) bs ∧ NoSm X.K as ∧ NoSm X.K bs
  | _, _, _, _, _, .nil, r, pr, h => by
    cases h
    cases r
    cases pr
    exact ⟨_, _, .nil, .nil, .nil, .nil⟩
  | _, _, _, _, p, .cons (k := k) (d := d) (ds := ds) q1 q2, r, pr, h => by
    cases r with
    | cons r1 r2 =>
      cases pr with
      | @cons e0 kv0 es0 kvs0 k1 e1 prs =>
        have h2 : (match toPW f d, toPWK f ds with
          | some a, some b => some ((kyP k, a) :: b)
          | _, _ => none) = some p := h
        split at h2
        · rename_i a b ha hb
          cases h2
          obtain ⟨bs, x1, m1⟩ := Rep.reads I hK R f hf q1 r1.2 ha
          obtain ⟨as2, bs2, x2, x3, m2, m3⟩ := RepK.reads I hK R f hf q2 r2 prs hb
          rw [← e1] at x1
          have kx : ∃ as, Reads s.heap e0.key (kyP k) as ∧ NoSm X.K as := by
            have k2 := k1
            rw [← r1.1] at k2
            have k2 : keyIs k.key e0.key = true := k2
            cases k with
            | i z =>
              rcases keyIs_shape k2 with ⟨i, t, e, e2⟩ | ⟨y, t, e, e2⟩
              · cases e
                exact ⟨[], by rw [e2]; exact .int _ _, .nil⟩
              · cases e
            | s z =>
              rcases keyIs_shape k2 with ⟨i, t, e, e2⟩ | ⟨y, t, e, e2⟩
              · cases e
              · cases e
                exact ⟨[], by rw [e2]; exact .str _ _, .nil⟩
          obtain ⟨as, x0, m0⟩ := kx
          exact ⟨_, _, .cons x0 x2, .cons x1 x3, m0.app m2, m1.app m3⟩
        · cases h2
end
theorem Rep.readsP (I : Inv X pins σ H s) (hK : G.K = X.K) : ∀ (h : Nat) (F : Hp), Sub F H → (∀ (i : Nat) (c : D), S[i]? = some c → ∃ o, H (κ i) = some o ∧ Cont G F κ S.length o c) →
    ∀ {v : V} {d : D} {u : Value} {p : PD}, Rep G F κ S.length v d → RelV v u → toP S h d = some p → ∃ as, Reads s.heap u p as ∧ NoSm X.K as
  | 0, F, R, _, _, _, _, _, r, rv, e => r.reads I hK R (fun _ => none) (fun _ _ _ z => by cases z) rv e
  | h + 1, F, R, cs, _, _, _, _, r, rv, e => r.reads I hK R _ (fun i p hi z => by
      have z2 : (match S[i]? with
        | some c => toP S h c
        | none => none) = some p := z
      cases e2 : S[i]? with
      | none =>
        rw [e2] at z2
        cases z2
      | some c =>
        rw [e2] at z2
        obtain ⟨o, e3, x⟩ := cs i c e2
        cases q : F (κ i) with
        | none =>
          have ex : Ext F κ S.length (upd F (κ i) o) κ := ext_new q
          refine Rep.readsP I hK h (upd F (κ i) o) (fun a w ha => ?_) (fun j c' hj => ?_) ((x.mono ex (Nat.le_refl _)).rep upd_same) (rfl : RelV (.ref (κ i)) (.ref (κ i))) z2
          · by_cases hb : a = κ i
            · subst hb
              rw [upd_same] at ha
              cases ha
              exact .inl e3
            · rw [upd_ne hb] at ha
              exact R a w ha
          · obtain ⟨o', h1, h2⟩ := cs j c' hj
            exact ⟨o', h1, h2.mono ex (Nat.le_refl _)⟩
        | some o' =>
          have eo : o' = o := by
            rcases R _ _ q with t | ⟨_, ob, t⟩
            · exact Option.some.inj (t.symm.trans e3)
            · have t2 := Option.some.inj (t.symm.trans e3)
              cases x with
              | lst _ => cases t2
              | dK _ => cases t2
              | dT _ => cases t2
              | obj _ _ => cases t2
          subst eo
          exact Rep.readsP I hK h F R cs (x.rep q) (rfl : RelV (.ref (κ i)) (.ref (κ i))) z2) rv e
theorem Rel.readsP (I : Inv X pins σ H s) (hK : G.K = X.K) (R : Rel G F κ Bs S H) {h : Nat} {v : V} {d : D} {u : Value} {p : PD} (r : Rep G F κ S.length v d) (rv : RelV v u) (e : toP S h d = some p) : ∃ as, Reads s.heap u p as ∧ NoSm X.K as :=
  Rep.readsP I hK h F R.sub (fun i c e => (R.cells i c e).2) r rv e
/-! ### == -/
def rEqP (G : Gx) : R2 := fun x y H Q => ∃ F κ Bs S dx dy b, Rel G F κ Bs S H ∧ Rep G F κ S.length x dx ∧ Rep G F κ S.length y dy ∧ eqD S dx dy = some b ∧ Q (.bl b) H
def rNeP (G : Gx) : R2 := fun x y H Q => ∃ F κ Bs S dx dy b, Rel G F κ Bs S H ∧ Rep G F κ S.length x dx ∧ Rep G F κ S.length y dy ∧ eqD S dx dy = some b ∧ Q (.bl (!b)) H
theorem eq_cases {S : Sto} {x y : D} {b : Bool} (h : eqD S x y = some b) :
    (∃ i j, x = .int i ∧ y = .int j ∧ b = decide (i = j)) ∨ (∃ i j, x = .str i ∧ y = .str j ∧ b = decide (i = j)) ∨
    (∃ p q, toP S 4 x = some p ∧ toP S 4 y = some q ∧ SeqAt.shaped p = true ∧ SeqAt.shaped q = true ∧ b = PyData.eqv p q) ∨
    (∃ xs ys, get S x = .lst xs ∧ get S y = .lst ys ∧ xs.length ≠ ys.length ∧ b = false) ∨
    (∃ xs ys, get S x = .dK xs ∧ get S y = .tup ys ∧ b = false) ∨ ∃ xs ys, get S x = .tup xs ∧ get S y = .dK ys ∧ b = false := by
  unfold eqD at h
  split at h
  · exact .inl ⟨_, _, rfl, rfl, (Option.some.inj h).symm⟩
  · exact .inr (.inl ⟨_, _, rfl, rfl, (Option.some.inj h).symm⟩)
  · split at h
    · rename_i z
      cases h
      unfold lenNe at z
      split at z
      · rename_i xs ys h1 h2
        exact .inr (.inr (.inr (.inl ⟨xs, ys, h1, h2, by simpa using z, rfl⟩)))
      · rename_i xs ys h1 h2
        exact .inr (.inr (.inr (.inr (.inl ⟨xs, ys, h1, h2, rfl⟩))))
      · rename_i xs ys h1 h2
        exact .inr (.inr (.inr (.inr (.inr ⟨xs, ys, h1, h2, rfl⟩))))
      · cases z
    · split at h
      · rename_i p q hp hq
        split at h
        · rename_i z
          exact .inr (.inr (.inl ⟨p, q, hp, hq, (and2.mp z).1, (and2.mp z).2, (Option.some.inj h).symm⟩))
        · cases h
      · cases h
section
variable {s : Shared} {A : Around}
theorem dict_eq_tuple (l b : Addr) (es : Array DictEntry) (ep : Nat) (items2 : Array Value) (n2 : Nat) (dd dd2 : Option Addr) (sl sl2 : Array (Option Value)) :
    Meets (Builtin.«dict.__eq__» ⟨[.ref l, .ref b], []⟩) (fun _ R s => s.heap.get? l = some { cls := .type "dict", dict := dd, data := .dict es ep, slots := sl } ∧ s.heap.get? b = some { cls := .type "tuple", dict := dd2, data := .seq items2 n2, slots := sl2 } ∧ R (.ok (.ret .notImplemented)) s) :=
  .of_wp fun prog w A R s h => by obtain ⟨hp, g, d, tk, os⟩ := s; obtain ⟨hl, hb, h⟩ := h; have f1 := F.sub_tuple_dict; wp_walk using wpAny_loadPart' hl, wpAny_loadPart' hb; exact ⟨_, rfl, h⟩
theorem tuple_eq_dict (l b : Addr) (es : Array DictEntry) (ep : Nat) (items2 : Array Value) (n2 : Nat) (dd dd2 : Option Addr) (sl sl2 : Array (Option Value)) :
    Meets (Builtin.«tuple.__eq__» ⟨[.ref b, .ref l], []⟩) (fun _ R s => s.heap.get? b = some { cls := .type "tuple", dict := dd2, data := .seq items2 n2, slots := sl2 } ∧ s.heap.get? l = some { cls := .type "dict", dict := dd, data := .dict es ep, slots := sl } ∧ R (.ok (.ret .notImplemented)) s) :=
  .of_wp fun prog w A R s h => by obtain ⟨hp, g, d, tk, os⟩ := s; obtain ⟨hl, hb, h⟩ := h; have f1 := F.sub_dict_tuple; wp_walk using wpAny_loadPart' hl, wpAny_loadPart' hb; exact ⟨_, rfl, h⟩
theorem dict_ne_tuple (l b : Addr) (es : Array DictEntry) (ep : Nat) (items2 : Array Value) (n2 : Nat) (dd dd2 : Option Addr) (sl sl2 : Array (Option Value)) :
    Meets (Builtin.«dict.__ne__» ⟨[.ref l, .ref b], []⟩) (fun _ R s => s.heap.get? l = some { cls := .type "dict", dict := dd, data := .dict es ep, slots := sl } ∧ s.heap.get? b = some { cls := .type "tuple", dict := dd2, data := .seq items2 n2, slots := sl2 } ∧ R (.ok (.ret .notImplemented)) s) :=
  .of_wp fun prog w A R s h => by obtain ⟨hp, g, d, tk, os⟩ := s; obtain ⟨hl, hb, h⟩ := h; have f1 := F.sub_tuple_dict; wp_walk using wpAny_loadPart' hl, wpAny_loadPart' hb; exact ⟨_, rfl, h⟩
theorem tuple_ne_dict (l b : Addr) (es : Array DictEntry) (ep : Nat) (items2 : Array Value) (n2 : Nat) (dd dd2 : Option Addr) (sl sl2 : Array (Option Value)) :
    Meets (Builtin.«tuple.__ne__» ⟨[.ref b, .ref l], []⟩) (fun _ R s => s.heap.get? b = some { cls := .type "tuple", dict := dd2, data := .seq items2 n2, slots := sl2 } ∧ s.heap.get? l = some { cls := .type "dict", dict := dd, data := .dict es ep, slots := sl } ∧ R (.ok (.ret .notImplemented)) s) :=
  .of_wp fun prog w A R s h => by obtain ⟨hp, g, d, tk, os⟩ := s; obtain ⟨hl, hb, h⟩ := h; have f1 := F.sub_dict_tuple; wp_walk using wpAny_loadPart' hl, wpAny_loadPart' hb; exact ⟨_, rfl, h⟩
/-- a dict, whatever it holds -/
def IsDc (h : Heap) (a : Addr) : Prop := ∃ o es ep, h.get? a = some o ∧ o.cls = .type "dict" ∧ o.data = .dict es ep
theorem ne_of_dc {l b : Addr} {items : Array Value} (hl : IsDc s.heap l) (hb : s.heap.IsTuple b items) : l ≠ b := fun e => by
  subst e
  obtain ⟨o, es, ep, ho, hc, _⟩ := hl
  obtain ⟨o2, ho2, hc2, _⟩ := hb
  rw [ho] at ho2
  cases ho2
  rw [hc] at hc2
  exact absurd hc2 (by decide)
theorem rc_dt {l b : Addr} {items : Array Value} (hl : IsDc s.heap l) (hb : s.heap.IsTuple b items) (hu : A.units < cLine) : SeqAt.RcAt A s (.ref l) (.ref b) false := fun prog w E Q h => by
  have hne := ne_of_dc hl hb
  obtain ⟨⟨cls, dd, data, sl⟩, es, ep, ho, hc, hd⟩ := id hl
  obtain ⟨⟨cls2, dd2, data2, sl2⟩, ho2, hc2, n2, hd2⟩ := id hb
  simp only at hc hd hc2 hd2
  subst hc hd hc2 hd2
  exact (SeqAt.rc_eq_decline_or (k := false) ⟨_, ho, rfl⟩ ⟨_, ho2, rfl⟩ (by decide) F.sub_tuple_dict F.slot_dict_eq F.slot_tuple_eq_refl
    (fun _ hq => call_meets F.slot_dict_eq ⟨_, ho, rfl⟩ F.entry_dict_eq (F.args_dict_eq_2 _ _) (dict_eq_tuple l b es ep items n2 dd dd2 sl sl2) ⟨ho, ho2, hq⟩)
    (fun _ hq => call_meets F.slot_tuple_eq_refl ⟨_, ho2, rfl⟩ F.entry_tuple_eq (F.args_tuple_eq_2 _ _) (tuple_eq_dict l b es ep items n2 dd dd2 sl sl2) ⟨ho2, ho, hq⟩)
    (fun _ hq => wpAny_isSame_ref_other hne ho ho2 (by simp) hq) (.inr hu) h)
theorem rc_td {l b : Addr} {items : Array Value} (hl : IsDc s.heap l) (hb : s.heap.IsTuple b items) (hu : A.units < cLine) : SeqAt.RcAt A s (.ref b) (.ref l) false := fun prog w E Q h => by
  have hne := (ne_of_dc hl hb).symm
  obtain ⟨⟨cls, dd, data, sl⟩, es, ep, ho, hc, hd⟩ := id hl
  obtain ⟨⟨cls2, dd2, data2, sl2⟩, ho2, hc2, n2, hd2⟩ := id hb
  simp only at hc hd hc2 hd2
  subst hc hd hc2 hd2
  exact (SeqAt.rc_eq_decline_or (k := false) ⟨_, ho2, rfl⟩ ⟨_, ho, rfl⟩ (by decide) F.sub_dict_tuple F.slot_tuple_eq F.slot_dict_eq_refl
    (fun _ hq => call_meets F.slot_tuple_eq ⟨_, ho2, rfl⟩ F.entry_tuple_eq (F.args_tuple_eq_2 _ _) (tuple_eq_dict l b es ep items n2 dd dd2 sl sl2) ⟨ho2, ho, hq⟩)
    (fun _ hq => call_meets F.slot_dict_eq_refl ⟨_, ho, rfl⟩ F.entry_dict_eq (F.args_dict_eq_2 _ _) (dict_eq_tuple l b es ep items n2 dd dd2 sl sl2) ⟨ho, ho2, hq⟩)
    (fun _ hq => SeqAt.wpAny_isSame_ref_other' hne ho2 ho (by simp) hq) (.inr hu) h)
theorem rn_dt {l b : Addr} {items : Array Value} (hl : IsDc s.heap l) (hb : s.heap.IsTuple b items) (hu : A.units < cLine) : SeqAt.RcNeAt A s (.ref l) (.ref b) true := fun prog w E Q h => by
  have hne := ne_of_dc hl hb
  obtain ⟨⟨cls, dd, data, sl⟩, es, ep, ho, hc, hd⟩ := id hl
  obtain ⟨⟨cls2, dd2, data2, sl2⟩, ho2, hc2, n2, hd2⟩ := id hb
  simp only at hc hd hc2 hd2
  subst hc hd hc2 hd2
  exact (SeqAt.rc_ne_decline_or (k := false) ⟨_, ho, rfl⟩ ⟨_, ho2, rfl⟩ (by decide) F.sub_tuple_dict F.slot_dict_ne F.slot_tuple_ne_refl
    (fun _ hq => call_meets F.slot_dict_ne ⟨_, ho, rfl⟩ F.entry_dict_ne (F.args_dict_ne_2 _ _) (dict_ne_tuple l b es ep items n2 dd dd2 sl sl2) ⟨ho, ho2, hq⟩)
    (fun _ hq => call_meets F.slot_tuple_ne_refl ⟨_, ho2, rfl⟩ F.entry_tuple_ne (F.args_tuple_ne_2 _ _) (tuple_ne_dict l b es ep items n2 dd dd2 sl sl2) ⟨ho2, ho, hq⟩)
    (fun _ hq => wpAny_isSame_ref_other hne ho ho2 (by simp) hq) (.inr hu) h)
theorem rn_td {l b : Addr} {items : Array Value} (hl : IsDc s.heap l) (hb : s.heap.IsTuple b items) (hu : A.units < cLine) : SeqAt.RcNeAt A s (.ref b) (.ref l) true := fun prog w E Q h => by
  have hne := (ne_of_dc hl hb).symm
  obtain ⟨⟨cls, dd, data, sl⟩, es, ep, ho, hc, hd⟩ := id hl
  obtain ⟨⟨cls2, dd2, data2, sl2⟩, ho2, hc2, n2, hd2⟩ := id hb
  simp only at hc hd hc2 hd2
  subst hc hd hc2 hd2
  exact (SeqAt.rc_ne_decline_or (k := false) ⟨_, ho2, rfl⟩ ⟨_, ho, rfl⟩ (by decide) F.sub_dict_tuple F.slot_tuple_ne F.slot_dict_ne_refl
    (fun _ hq => call_meets F.slot_tuple_ne ⟨_, ho2, rfl⟩ F.entry_tuple_ne (F.args_tuple_ne_2 _ _) (tuple_ne_dict l b es ep items n2 dd dd2 sl sl2) ⟨ho2, ho, hq⟩)
    (fun _ hq => call_meets F.slot_dict_ne_refl ⟨_, ho, rfl⟩ F.entry_dict_ne (F.args_dict_ne_2 _ _) (dict_ne_tuple l b es ep items n2 dd dd2 sl sl2) ⟨ho, ho2, hq⟩)
    (fun _ hq => SeqAt.wpAny_isSame_ref_other' hne ho2 ho (by simp) hq) (.inr hu) h)
end
theorem eq_dt (hK : G.K = X.K) (hu : X.A.units + 64 < cLine) (I : Inv X pins σ H s) (R : Rel G F κ Bs S H) {x y : V} {dx dy : D} {v u : Value} {xs : List (Ky × D)} {ys : List D} (r1 : Rep G F κ S.length x dx) (r2 : Rep G F κ S.length y dy) (rx : RelV x v) (ry : RelV y u)
    (h1 : get S dx = .dK xs) (h2 : get S dy = .tup ys) : ∃ a b j, v = .ref a ∧ u = .ref b ∧ IsDc s.heap a ∧ s.heap.IsTuple b j ∧ X.A.units < cLine := by
  obtain ⟨a, vs, rfl, e1, _⟩ := R.gDK r1 h1
  obtain ⟨b, us, rfl, e2, _⟩ := R.gTup r2 h2
  cases rx
  cases ry
  obtain ⟨_, _, vs2, _, o, es, ep, ho, hc, hd, _⟩ := dk_rd I.hok e1
  obtain ⟨its, _, ht, _⟩ := I.tuple (hK ▸ e2)
  exact ⟨a, b, its.toArray, rfl, rfl, ⟨o, es, ep, ho, hc.1, hd⟩, ht, by omega⟩
theorem Inv.isL (I : Inv X pins σ H s) {a : Addr} {xs : List V} (h : H a = some (.lst xs)) : ∃ its : List Value, s.heap.IsList a its.toArray ∧ its.length = xs.length := by
  obtain ⟨its, rv, pl, hz⟩ := I.list (SqL.of h)
  obtain ⟨o, m, e, c, d, q⟩ := pl
  exact ⟨its, ⟨o, e, c, m, q⟩, rv.length.symm⟩
theorem eq_lens (hu : X.A.units + 64 < cLine) (I : Inv X pins σ H s) (R : Rel G F κ Bs S H) {x y : V} {dx dy : D} {v u : Value} {xs ys : List D} (r1 : Rep G F κ S.length x dx) (r2 : Rep G F κ S.length y dy) (rx : RelV x v) (ry : RelV y u)
    (h1 : get S dx = .lst xs) (h2 : get S dy = .lst ys) (hl : xs.length ≠ ys.length) : ∃ a b i j, v = .ref a ∧ u = .ref b ∧ s.heap.IsList a i ∧ s.heap.IsList b j ∧ (i.size != j.size) = true ∧ X.A.units < cLine := by
  obtain ⟨a, vs, rfl, e1, l1⟩ := R.gLst r1 h1
  obtain ⟨b, us, rfl, e2, l2⟩ := R.gLst r2 h2
  cases rx
  cases ry
  obtain ⟨i, i1, i2⟩ := Inv.isL I e1
  obtain ⟨j, j1, j2⟩ := Inv.isL I e2
  have := l1.len
  have := l2.len
  exact ⟨a, b, i.toArray, j.toArray, rfl, rfl, i1, j1, by simp; omega, by omega⟩
theorem nodict_shaped {p : PD} (h : SeqAt.shaped p = true) : p.hasDict = false := PyData.hasDict_of_canLay p (SeqAt.canLay_of_shaped h)
theorem op_eqP (hK : G.K = X.K) (hu : X.A.units + 64 < cLine) : OpR X (compareOp .Eq) (rEqP G) := by
  intro pins s σ H x y v u Q I rx ry ⟨F, κ, Bs, S, dx, dy, b, R, r1, r2, e, q⟩
  rcases eq_cases e with ⟨i, j, rfl, rfl, rfl⟩ | ⟨i, j, rfl, rfl, rfl⟩ | ⟨p, p2, h1, h2, s1, s2, rfl⟩ | ⟨xs, ys, h1, h2, hl, rfl⟩ | ⟨xs, ys, h1, h2, rfl⟩ | ⟨xs, ys, h1, h2, rfl⟩
  · rw [rep_int r1] at rx
    rw [rep_int r2] at ry
    refine op_eq pins s σ H _ _ v u Q I rx ry ⟨rfl, ?_⟩
    rw [dec_int]
    exact (show Q (.bl (i == j)) H from by rw [show (i == j) = decide (i = j) from by rw [Bool.eq_iff_iff]; simp]; exact q)
  · rw [rep_str r1] at rx
    rw [rep_str r2] at ry
    refine op_eq pins s σ H _ _ v u Q I rx ry ⟨rfl, ?_⟩
    have e : decide (V.str ⟨i.toArray⟩ = V.str ⟨j.toArray⟩) = decide (i = j) := by
      rw [decide_eq_decide]
      exact ⟨fun z => str_inj (V.str.inj z), fun z => by rw [z]⟩
    rw [e]
    exact q
  · obtain ⟨as, x1, _⟩ := R.readsP I hK r1 rx h1
    obtain ⟨bs, x2, _⟩ := R.readsP I hK r2 ry h2
    exact SeqAt.compareEq_shaped x1 x2 s1 s2 hu ⟨.bl _, H, I, rfl, q⟩
  · obtain ⟨a, b, i, j, rfl, rfl, e1, e2, e3, e4⟩ := eq_lens hu I R r1 r2 rx ry h1 h2 hl
    exact SeqAt.RcAt.lists_lengths e1 e2 e3 e4 _ _ _ _ ⟨.bl _, H, I, rfl, q⟩
  · obtain ⟨a, b, j, rfl, rfl, e1, e2, e3⟩ := eq_dt hK hu I R r1 r2 rx ry h1 h2
    exact rc_dt e1 e2 e3 _ _ _ _ ⟨.bl _, H, I, rfl, q⟩
  · obtain ⟨a, b, j, rfl, rfl, e1, e2, e3⟩ := eq_dt hK hu I R r2 r1 ry rx h2 h1
    exact rc_td e1 e2 e3 _ _ _ _ ⟨.bl _, H, I, rfl, q⟩
theorem op_neP (hK : G.K = X.K) (hu : X.A.units + 64 < cLine) : OpR X (compareOp .NotEq) (rNeP G) := by
  intro pins s σ H x y v u Q I rx ry ⟨F, κ, Bs, S, dx, dy, b, R, r1, r2, e, q⟩
  rcases eq_cases e with ⟨i, j, rfl, rfl, rfl⟩ | ⟨i, j, rfl, rfl, rfl⟩ | ⟨p, p2, h1, h2, s1, s2, rfl⟩ | ⟨xs, ys, h1, h2, hl, rfl⟩ | ⟨xs, ys, h1, h2, rfl⟩ | ⟨xs, ys, h1, h2, rfl⟩
  · rw [rep_int r1] at rx
    rw [rep_int r2] at ry
    refine op_ne pins s σ H _ _ v u Q I rx ry ⟨rfl, ?_⟩
    rw [dec_int]
    exact (show Q (.bl (!(i == j))) H from by rw [show (i == j) = decide (i = j) from by rw [Bool.eq_iff_iff]; simp]; exact q)
  · rw [rep_str r1] at rx
    rw [rep_str r2] at ry
    refine op_ne pins s σ H _ _ v u Q I rx ry ⟨rfl, ?_⟩
    have e : decide (V.str ⟨i.toArray⟩ = V.str ⟨j.toArray⟩) = decide (i = j) := by
      rw [decide_eq_decide]
      exact ⟨fun z => str_inj (V.str.inj z), fun z => by rw [z]⟩
    rw [e]
    exact q
  · obtain ⟨as, x1, _⟩ := R.readsP I hK r1 rx h1
    obtain ⟨bs, x2, _⟩ := R.readsP I hK r2 ry h2
    exact SeqAt.compareNe_shaped x1 x2 s1 s2 hu ⟨.bl _, H, I, rfl, q⟩
  · obtain ⟨a, b, i, j, rfl, rfl, e1, e2, e3, e4⟩ := eq_lens hu I R r1 r2 rx ry h1 h2 hl
    exact SeqAt.RcNeAt.lists_lengths e1 e2 e3 e4 _ _ _ _ ⟨.bl _, H, I, rfl, q⟩
  · obtain ⟨a, b, j, rfl, rfl, e1, e2, e3⟩ := eq_dt hK hu I R r1 r2 rx ry h1 h2
    exact rn_dt e1 e2 e3 _ _ _ _ ⟨.bl _, H, I, rfl, q⟩
  · obtain ⟨a, b, j, rfl, rfl, e1, e2, e3⟩ := eq_dt hK hu I R r2 r1 ry rx h2 h1
    exact rn_td e1 e2 e3 _ _ _ _ ⟨.bl _, H, I, rfl, q⟩
/-! ### repr -/
def rRepP (G : Gx) : List V → Hp → VK → Prop := fun xs H Q => ∃ F κ Bs S x dx t, xs = [x] ∧ Rel G F κ Bs S H ∧ Rep G F κ S.length x dx ∧ reprD S dx = some t ∧ Q (.str ⟨t.toArray⟩) H
theorem str_of (x : Str) : (⟨x.cps.toList.toArray⟩ : Str) = x := by
  obtain ⟨a⟩ := x
  simp
theorem call_reprP (hsm : (X.K.lookup sysModules).isSome = true) (hK : G.K = X.K) (hu : X.A.units + 64 < cLine) (hg : X.A.guards = some []) : CallR X (.builtin "repr") (rRepP G) := by
  intro pins s σ H xs us Q I r ⟨F, κ, Bs, S, x, dx, t, e1, R, r1, e2, q⟩
  subst e1
  obtain ⟨u, rfl, rx⟩ := vals1 r
  unfold reprD at e2
  split at e2
  · rename_i p hp
    split at e2
    · rename_i z
      cases e2
      rw [str_of] at q
      obtain ⟨h1, h3⟩ := wP_ok p z.1
      have hsz : p.shown.length ≤ sizeLine := big_line (Nat.le_trans h3 z.1)
      have fin : ∀ (s' : Shared) (tk : Tok), Inv X pins σ H s' → EP X pins σ Q (.str p.shown tk) s' := fun s' tk I' => ⟨.str p.shown, H, I', ⟨_, rfl⟩, q⟩
      obtain ⟨as, rd, nm⟩ := R.readsP I hK r1 rx hp
      cases rd with
      | none => exact P.repr_of_none (fin _ _ (I.tok _))
      | bool b =>
        refine P.repr_of_bool ?_
        exact fin _ _ (I.tok _)
      | int i tk => exact P.repr_of_int (of_decide_eq_true h1) (fin _ _ (I.tok _))
      | str x tk => exact P.repr_of_str (fin _ _ (I.tok _)) hsz
      | list a b c d => exact repr_of_reads' (.list a b c d) h1 (fun _ => nm hsm) hg (by omega) (fun _ _ e => e) (fun h' u tk hk => fin _ _ (I.kept hk)) hsz
      | tuple a b c d => exact repr_of_reads' (.tuple a b c d) h1 (fun _ => nm hsm) hg (by omega) (fun _ _ e => e) (fun h' u tk hk => fin _ _ (I.kept hk)) hsz
      | dict a b c d e => exact repr_of_reads' (.dict a b c d e) h1 (fun _ => nm hsm) hg (by omega) (fun _ _ e => e) (fun h' u tk hk => fin _ _ (I.kept hk)) hsz
    · cases e2
  · cases e2
end
end EL

/-! ELw: comparisons, tests, displays, subscripts, builtin functions and methods. -/
namespace EL
open PySem L2 PySem.Spec PyProof.Rows
section
variable {X : Cx} {J : Jx} {pos p1 p2 : Pos} {a b c e : PySem.Expr} {x y z w : Ex} {es : List PySem.Expr} {xs : List Ex} {tx ty : Tx}
/-! ### comparisons -/
theorem optB {F : Hp} {κ : Nat → Addr} {l : Loc} {S : Sto} {σ : L2.St} {H : Hp} {Q : VK} (s : Stt J F κ l S σ H) {o : Option Bool} (p : Post J (Rep J.G) F κ S.length σ Q (optR (o.map .bl) S)) : ∃ b, o = some b ∧ Q (.bl b) H := by
  cases o with
  | none => exact p.elim
  | some b => exact ⟨b, rfl, s.ret p (.bl b)⟩
def CmpR (X : Cx) (J : Jx) (o : Cop) (op : CmpOp) : Prop := ∃ r : R2, OpR X (compareOp op) r ∧ ∀ F κ l S σ H (Q : VK) u v du dv b, Stt J F κ l S σ H → Rep J.G F κ S.length u du → Rep J.G F κ S.length v dv → cmpD o S du dv = some b → Q (.bl b) H → r u v H Q
theorem je_cmp {o : Cop} {op : CmpOp} (h : CmpR X J o op) (ha : JE X J a x) (hb : JE X J b y) (hm : behindInMarks op b = false) : JE X J (.Compare a [op] [b] pos) (.cmp o x y) := by
  obtain ⟨r, h1, h2⟩ := h
  refine je_op2 (fun u v S => optR ((cmpD o S u v).map .bl) S) (fun ta tb ha hb => pe_cmpR h1 ha hb hm) ha hb (fun _ _ => rfl) fun F κ l S σ H Q u v du dv s r1 r2 p => ?_
  obtain ⟨b, e, q⟩ := optB s p
  exact h2 F κ l S σ H Q u v du dv b s r1 r2 e q
theorem je_chain {o o' : Cop} {op op' : CmpOp} (h : CmpR X J o op) (h' : CmpR X J o' op') (ha : JE X J a x) (hb : JE X J b y) (hc : JE X J c z) (hm : lastMarks [op, op'] [b, c] = false) : JE X J (.Compare a [op, op'] [b, c] pos) (.chain o o' x y z) := by
  obtain ⟨r, h1, h2⟩ := h
  obtain ⟨r', h1', h2'⟩ := h'
  refine PE.imp (pe_chain h1 h1' ha hb hc hm) fun σ H Q ⟨F, κ, l, S, s, p⟩ => ?_
  refine Can.mono (s.bind p) fun u H1 ⟨F1, κ1, S1, du, _, _, s1, r1, p1⟩ => ?_
  refine Can.mono (s1.bind p1) fun v H2 ⟨F2, κ2, S2, dv, e2, n2, s2, r2, p2⟩ => ?_
  dsimp only at p2
  cases hc1 : cmpD o S2 du dv with
  | none =>
    rw [hc1] at p2
    exact p2.elim
  | some k =>
    rw [hc1] at p2
    refine h2 _ _ _ _ _ _ _ _ _ _ _ k s2 (r1.mono e2 n2) r2 hc1 ⟨k, rfl, ?_⟩
    cases k with
    | false =>
      rw [if_neg (by decide)]
      exact s2.ret p2 (.bl false)
    | true =>
      rw [if_pos rfl]
      refine Can.mono (s2.bind p2) fun v3 H3 ⟨F3, κ3, S3, dw, e3, n3, s3, r3, p3⟩ => ?_
      obtain ⟨b, e, q⟩ := optB s3 p3
      exact h2' _ _ _ _ _ _ _ _ _ _ _ b s3 (r2.mono e3 n3) r3 e q
theorem cr_eq (hK : J.G.K = X.K) (hu : X.A.units + 64 < cLine) : CmpR X J .eq .Eq := ⟨rEqP J.G, op_eqP hK hu, fun F κ l S σ H Q u v du dv b s r1 r2 e q => ⟨F, κ, _, S, du, dv, b, s.rel, r1, r2, e, q⟩⟩
theorem cr_ne (hK : J.G.K = X.K) (hu : X.A.units + 64 < cLine) : CmpR X J .ne .NotEq := ⟨rNeP J.G, op_neP hK hu, fun F κ l S σ H Q u v du dv b s r1 r2 e q => by
  have e2 : (eqD S du dv).map (!·) = some b := e
  obtain ⟨b', h1, h2⟩ := Option.map_eq_some_iff.mp e2
  exact ⟨F, κ, _, S, du, dv, b', s.rel, r1, r2, h1, by rw [h2]; exact q⟩⟩
theorem cmp_int {S : Sto} {o : Cop} {u v : D} {b : Bool} (h : cmpD o S u v = some b) (h1 : o ≠ .eq) (h2 : o ≠ .ne) (h3 : o ≠ .in_) (h4 : o ≠ .nin) : ∃ i j, u = .int i ∧ v = .int j := by
  cases o <;> first | exact absurd rfl h1 | exact absurd rfl h2 | exact absurd rfl h3 | exact absurd rfl h4 | skip
  all_goals
    cases u <;> cases v <;> first | exact ⟨_, _, rfl, rfl⟩ | (cases h)
theorem cr_lt : CmpR X J .lt .Lt := ⟨_, op_lt, fun F κ l S σ H Q u v du dv b s r1 r2 e q => by
  obtain ⟨i, j, rfl, rfl⟩ := cmp_int e (by decide) (by decide) (by decide) (by decide)
  cases e
  exact ⟨i, j, rep_int r1, rep_int r2, q⟩⟩
theorem cr_le : CmpR X J .le .LtE := ⟨_, op_le, fun F κ l S σ H Q u v du dv b s r1 r2 e q => by
  obtain ⟨i, j, rfl, rfl⟩ := cmp_int e (by decide) (by decide) (by decide) (by decide)
  cases e
  exact ⟨i, j, rep_int r1, rep_int r2, q⟩⟩
theorem cr_gt : CmpR X J .gt .Gt := ⟨_, op_gt, fun F κ l S σ H Q u v du dv b s r1 r2 e q => by
  obtain ⟨i, j, rfl, rfl⟩ := cmp_int e (by decide) (by decide) (by decide) (by decide)
  cases e
  exact ⟨i, j, rep_int r1, rep_int r2, q⟩⟩
theorem cr_ge : CmpR X J .ge .GtE := ⟨_, op_ge, fun F κ l S σ H Q u v du dv b s r1 r2 e q => by
  obtain ⟨i, j, rfl, rfl⟩ := cmp_int e (by decide) (by decide) (by decide) (by decide)
  cases e
  exact ⟨i, j, rep_int r1, rep_int r2, q⟩⟩
/-! ### in -/
section
variable {G : Gx} {F : Hp} {κ : Nat → Addr} {n : Nat}
theorem flat_v {v : V} {d : D} (r : Rep G F κ n v d) (h : flatD d = true) : flatV v = true := by
  cases r <;> first | rfl | cases h
theorem flat_vs : ∀ {v : List V} {d : List D}, RepA G F κ n v d → d.all flatD = true → v.all flatV = true
  | _, _, .nil, _ => rfl
  | _, _, .cons r s, h => by
    rw [List.all_cons] at h ⊢
    exact and2.mpr ⟨flat_v r (and2.mp h).1, flat_vs s (and2.mp h).2⟩
theorem eq_flat {v w : V} {d e : D} (r : Rep G F κ n v d) (q : Rep G F κ n w e) (h : flatD d = true) (h2 : flatD e = true) : eqV v w = eqF d e := by
  cases r <;> first | (cases h; done) | skip
  all_goals
    cases q <;> first | (cases h2; done) | skip
  all_goals first
    | rfl
    | (show (_ == _) = decide _
       rw [Bool.eq_iff_iff]
       simp only [beq_iff_eq, decide_eq_true_eq]
       first
         | exact Iff.rfl
         | exact ⟨fun z => str_inj z, fun z => by rw [z]⟩)
theorem any_flat {v : V} {d : D} (r : Rep G F κ n v d) (h : flatD d = true) : ∀ {vs : List V} {ds : List D}, RepA G F κ n vs ds → ds.all flatD = true → inV v vs = ds.any fun y => eqF y d
  | _, _, .nil, _ => rfl
  | _, _, .cons q s, h2 => by
    rw [List.all_cons] at h2
    have ih := any_flat r h s (and2.mp h2).2
    unfold inV at ih ⊢
    rw [List.any_cons, List.any_cons, ih, eq_flat q r (and2.mp h2).1 h]
theorem ky_of {v : V} {d : D} {k : Ky} (r : Rep G F κ n v d) (h : kyOf d = some k) : v = kV k.key := by
  cases r <;> first | (cases h; done) | skip
  all_goals
    cases h
    rfl
end
theorem op_inD (hu : X.A.units + 1 < cLine) : OpR X (compareOp .In) (fun x y H Q => ∃ a o, y = .ref a ∧ DGet H a x o ∧ Q (.bl o.isSome) H) := by
  intro pins s σ H x y v u Q I rx ry ⟨a, o, e, g, q⟩
  subst e
  cases ry
  exact d_in hu I g rx fun s3 I3 => ⟨.bl o.isSome, H, I3, rfl, q⟩
theorem op_ninD (hu : X.A.units + 1 < cLine) : OpR X (compareOp .NotIn) (fun x y H Q => ∃ a o, y = .ref a ∧ DGet H a x o ∧ Q (.bl (!o.isSome)) H) := by
  intro pins s σ H x y v u Q I rx ry ⟨a, o, e, g, q⟩
  subst e
  cases ry
  exact d_notIn hu I g rx fun s3 I3 => ⟨.bl (!o.isSome), H, I3, rfl, q⟩
theorem in_cases {S : Sto} {x y : D} {b : Bool} (h : inD S x y = some b) :
    (∃ c z, x = .str [c] ∧ y = .str z ∧ b = decide (c ∈ z)) ∨ (∃ ys, (get S y = .lst ys ∨ get S y = .tup ys) ∧ flatD x = true ∧ ys.all flatD = true ∧ b = ys.any fun y => eqF y x) ∨
    (∃ kvs k, get S y = .dK kvs ∧ kyOf x = some k ∧ b = (dget k kvs).isSome) ∨ inP S x y = some b := by
  have orc : ∀ {a c : Option Bool}, orO a c = some b → a = some b ∨ c = some b := fun {a c} e => by
    cases a with
    | none => exact .inr e
    | some _ => exact .inl e
  unfold inD at h
  split at h
  · exact .inl ⟨_, _, rfl, rfl, (Option.some.inj h).symm⟩
  · split at h
    · rename_i ys hy
      rcases orc h with h | h
      · unfold anyEq at h
        split at h
        · rename_i z
          exact .inr (.inl ⟨ys, .inl hy, (and2.mp z).1, (and2.mp z).2, (Option.some.inj h).symm⟩)
        · cases h
      · exact .inr (.inr (.inr h))
    · rename_i ys hy
      rcases orc h with h | h
      · unfold anyEq at h
        split at h
        · rename_i z
          exact .inr (.inl ⟨ys, .inr hy, (and2.mp z).1, (and2.mp z).2, (Option.some.inj h).symm⟩)
        · cases h
      · exact .inr (.inr (.inr h))
    · rename_i kvs hy
      obtain ⟨k, h1, h2⟩ := Option.map_eq_some_iff.mp h
      exact .inr (.inr (.inl ⟨kvs, k, hy, h1, h2.symm⟩))
    · cases h
/-- in of closed data, in the heap -/
def rInP (G : Gx) (neg : Bool) : R2 := fun x y H Q => ∃ F κ Bs S dx dy b, Rel G F κ Bs S H ∧ Rep G F κ S.length x dx ∧ Rep G F κ S.length y dy ∧ inP S dx dy = some b ∧ Q (.bl (neg != b)) H
theorem inP_cases {S : Sto} {x y : D} {b : Bool} (h : inP S x y = some b) : ∃ d ds, toP S 4 x = some d ∧ (toP S 4 y = some (.list ds) ∨ toP S 4 y = some (.tuple ds)) ∧ d.canLay0 = true ∧ d.depth ≤ 40 ∧ PySem.PyData.canLayAll0 ds = true ∧ b = ds.any fun z => PySem.PyData.eqv z d := by
  unfold inP at h
  split at h
  · rename_i d ds h1 h2
    split at h
    · rename_i z
      obtain ⟨z, z3⟩ := and2.mp z
      obtain ⟨z1, z2⟩ := and2.mp z
      exact ⟨d, ds, h1, .inl h2, z1, of_decide_eq_true z2, z3, (Option.some.inj h).symm⟩
    · cases h
  · rename_i d ds h1 h2
    split at h
    · rename_i z
      obtain ⟨z, z3⟩ := and2.mp z
      obtain ⟨z1, z2⟩ := and2.mp z
      exact ⟨d, ds, h1, .inr h2, z1, of_decide_eq_true z2, z3, (Option.some.inj h).symm⟩
    · cases h
  · cases h
theorem op_inP {G : Gx} {X : Cx} (hK : G.K = X.K) (hu : X.A.units + 64 < cLine) : OpR X (compareOp .In) (rInP G false) := by
  intro pins s σ H x y v u Q I rx ry ⟨F, κ, Bs, S, dx, dy, b, R, r1, r2, e, q⟩
  obtain ⟨d, ds, h1, h2, h3, h4, h5, rfl⟩ := inP_cases e
  obtain ⟨as, x1, _⟩ := R.readsP I hK r1 rx h1
  have hm : X.A.units + 1 + min (PyData.depthAll ds) d.depth < cLine := by omega
  rcases h2 with h2 | h2
  · obtain ⟨bs, x2, _⟩ := R.readsP I hK r2 ry h2
    exact SeqAt.in_list_reads x2 x1 h5 h3 hm ⟨.bl _, H, I, rfl, by simpa using q⟩
  · obtain ⟨bs, x2, _⟩ := R.readsP I hK r2 ry h2
    exact SeqAt.in_tuple_reads x2 x1 h5 h3 hm ⟨.bl _, H, I, rfl, by simpa using q⟩
theorem op_ninP {G : Gx} {X : Cx} (hK : G.K = X.K) (hu : X.A.units + 64 < cLine) : OpR X (compareOp .NotIn) (rInP G true) := by
  intro pins s σ H x y v u Q I rx ry ⟨F, κ, Bs, S, dx, dy, b, R, r1, r2, e, q⟩
  obtain ⟨d, ds, h1, h2, h3, h4, h5, rfl⟩ := inP_cases e
  obtain ⟨as, x1, _⟩ := R.readsP I hK r1 rx h1
  have hm : X.A.units + 1 + min (PyData.depthAll ds) d.depth < cLine := by omega
  rcases h2 with h2 | h2
  · obtain ⟨bs, x2, _⟩ := R.readsP I hK r2 ry h2
    exact SeqAt.notIn_list_reads x2 x1 h5 h3 hm ⟨.bl _, H, I, rfl, by simpa using q⟩
  · obtain ⟨bs, x2, _⟩ := R.readsP I hK r2 ry h2
    exact SeqAt.notIn_tuple_reads x2 x1 h5 h3 hm ⟨.bl _, H, I, rfl, by simpa using q⟩
theorem dget_of {F : Hp} {κ : Nat → Addr} {n : Nat} {vs : List (Key × V)} {ds : List (Ky × D)} (r : RepK J.G F κ n vs ds) (k : Ky) : (valV vs k.key).isSome = (dget k ds).isSome := by
  have h := r.get k
  split at h
  · rename_i x e
    obtain ⟨u, h1, _⟩ := h
    rw [h1, e]
    rfl
  · rename_i e
    rw [h, e]
    rfl
theorem cr_in (hK : J.G.K = X.K) (hu : X.A.units + 64 < cLine) : CmpR X J .in_ .In := ⟨_, OpR.or op_in_sign (OpR.or op_in_seq (OpR.or (op_inD (by omega)) (op_inP (G := J.G) hK hu))), fun F κ l S σ H Q u v du dv b s r1 r2 e q => by
  rcases in_cases e with ⟨c, z, rfl, rfl, rfl⟩ | ⟨ys, hy, f1, f2, rfl⟩ | ⟨kvs, k, hy, hk, rfl⟩ | hp
  · refine .inl ⟨c, _, rep_str r1, rep_str r2, ?_⟩
    exact q
  · refine .inr (.inl ?_)
    rcases hy with hy | hy
    · obtain ⟨a, vs, rfl, h1, h2⟩ := s.rel.gLst r2 hy
      refine ⟨a, vs, rfl, .inl (SqL.of h1), flat_v r1 f1, flat_vs h2 f2, ?_⟩
      rw [any_flat r1 f1 h2 f2, if_neg (by decide)]
      exact q
    · obtain ⟨a, vs, rfl, h1, h2⟩ := s.rel.gTup r2 hy
      refine ⟨a, vs, rfl, .inr (hK ▸ h1), flat_v r1 f1, flat_vs h2 f2, ?_⟩
      rw [any_flat r1 f1 h2 f2, if_neg (by decide)]
      exact q
  · obtain ⟨a, vs, rfl, h1, h2⟩ := s.rel.gDK r2 hy
    refine .inr (.inr (.inl ⟨a, _, rfl, .inl ⟨vs, k.key, h1, ky_of r1 hk, rfl⟩, ?_⟩))
    rw [dget_of h2 k]
    exact q
  · exact .inr (.inr (.inr ⟨F, κ, J.Bs, S, du, dv, _, s.rel, r1, r2, hp, by simpa using q⟩))⟩
theorem cr_nin (hK : J.G.K = X.K) (hu : X.A.units + 64 < cLine) : CmpR X J .nin .NotIn := ⟨_, OpR.or op_notIn_sign (OpR.or op_notIn_seq (OpR.or (op_ninD (by omega)) (op_ninP (G := J.G) hK hu))), fun F κ l S σ H Q u v du dv b s r1 r2 e q => by
  have e2 : (inD S du dv).map (!·) = some b := e
  obtain ⟨b', e3, e4⟩ := Option.map_eq_some_iff.mp e2
  subst e4
  rcases in_cases e3 with ⟨c, z, rfl, rfl, rfl⟩ | ⟨ys, hy, f1, f2, rfl⟩ | ⟨kvs, k, hy, hk, rfl⟩ | hp
  · refine .inl ⟨c, _, rep_str r1, rep_str r2, ?_⟩
    exact q
  · refine .inr (.inl ?_)
    rcases hy with hy | hy
    · obtain ⟨a, vs, rfl, h1, h2⟩ := s.rel.gLst r2 hy
      refine ⟨a, vs, rfl, .inl (SqL.of h1), flat_v r1 f1, flat_vs h2 f2, ?_⟩
      rw [any_flat r1 f1 h2 f2, if_pos rfl]
      exact q
    · obtain ⟨a, vs, rfl, h1, h2⟩ := s.rel.gTup r2 hy
      refine ⟨a, vs, rfl, .inr (hK ▸ h1), flat_v r1 f1, flat_vs h2 f2, ?_⟩
      rw [any_flat r1 f1 h2 f2, if_pos rfl]
      exact q
  · obtain ⟨a, vs, rfl, h1, h2⟩ := s.rel.gDK r2 hy
    refine .inr (.inr (.inl ⟨a, _, rfl, .inl ⟨vs, k.key, h1, ky_of r1 hk, rfl⟩, ?_⟩))
    rw [dget_of h2 k]
    exact q
  · exact .inr (.inr (.inr ⟨F, κ, J.Bs, S, du, dv, _, s.rel, r1, r2, hp, by simpa using q⟩))⟩
theorem decide_non {F : Hp} {κ : Nat → Addr} {n : Nat} {v : V} {d : D} (r : Rep J.G F κ n v d) : decide (v = .non) = isNon d := by
  cases r <;> first | rfl | exact decide_eq_false (fun z => by cases z)
theorem je_isN {j : Nat} (ha : JE X J a x) : JE X J (.Compare a [.Is] [.Constant .none j p1] pos) (.isN x) := by
  refine PE.imp (pe_cmp (pc_isN ha)) fun σ H Q ⟨F, κ, l, S, s, p⟩ => ?_
  refine Can.mono (s.bind p) fun u H1 ⟨F1, κ1, S1, du, _, _, s1, r1, p1⟩ => ?_
  show Q (.bl (decide (u = .non))) H1
  rw [decide_non r1]
  exact s1.ret p1 (.bl _)
theorem je_notN {j : Nat} (ha : JE X J a x) : JE X J (.Compare a [.IsNot] [.Constant .none j p1] pos) (.notN x) := by
  refine PE.imp (pe_cmp (pc_notN ha)) fun σ H Q ⟨F, κ, l, S, s, p⟩ => ?_
  refine Can.mono (s.bind p) fun u H1 ⟨F1, κ1, S1, du, _, _, s1, r1, p1⟩ => ?_
  show Q (.bl (!decide (u = .non))) H1
  rw [decide_non r1]
  exact s1.ret p1 (.bl _)
/-! ### is True, is False -/
theorem isK_of {F : Hp} {κ : Nat → Addr} {n : Nat} {v : V} {d : D} {k b neg : Bool} {H : Hp} {Q : VK} (r : Rep J.G F κ n v d) (h : isBl k d = some b) (q : Q (.bl (neg != b)) H) : rIsK neg k v (.bl k) H Q := by
  cases r with
  | bl c =>
    have h2 : some (decide (c = k)) = some b := h
    cases h2
    exact ⟨rfl, .inl ⟨c, rfl, q⟩⟩
  | int i =>
    have h2 : some false = some b := h
    cases h2
    exact ⟨rfl, .inr ⟨i, rfl, by simpa using q⟩⟩
  | _ => cases h
theorem je_isB {j : Nat} {k : Bool} (ha : JE X J a x) : JE X J (.Compare a [.Is] [.Constant (.bool k) j p1] pos) (.isB k x) := by
  refine PE.imp (pe_cmpR (op_isK (k := k)) ha pe_bl rfl) fun σ H Q ⟨F, κ, l, S, s, p⟩ => ?_
  refine Can.mono (s.bind (mf := evE J.C x) p) fun u H1 ⟨F1, κ1, S1, du, _, _, s1, r1, p1⟩ => ?_
  obtain ⟨b, e, q⟩ := optB s1 p1
  exact isK_of (neg := false) r1 e (by simpa using q)
theorem je_notB {j : Nat} {k : Bool} (ha : JE X J a x) : JE X J (.Compare a [.IsNot] [.Constant (.bool k) j p1] pos) (.notB k x) := by
  refine PE.imp (pe_cmpR (op_notK (k := k)) ha pe_bl rfl) fun σ H Q ⟨F, κ, l, S, s, p⟩ => ?_
  refine Can.mono (s.bind (mf := evE J.C x) p) fun u H1 ⟨F1, κ1, S1, du, _, _, s1, r1, p1⟩ => ?_
  have p2 : Post J (Rep J.G) F1 κ1 S1.length σ Q (optR (((isBl k du).map (!·)).map .bl) S1) := by
    rw [Option.map_map]
    exact p1
  obtain ⟨b, e, q⟩ := optB s1 p2
  cases e3 : isBl k du with
  | none =>
    rw [e3] at e
    cases e
  | some c =>
    rw [e3] at e
    cases e
    exact isK_of (neg := true) r1 e3 (by simpa using q)
/-! ### and, or, not as values -/
theorem je_and1 (ha : JE X J a x) : JE X J (.BoolOp .And [a] pos) x := pe_one ha
theorem je_or1 (ha : JE X J a x) : JE X J (.BoolOp .Or [a] pos) x := pe_one ha
theorem je_and (ha : JE X J a x) (hb : JE X J (.BoolOp .And (b :: es) pos) y) : JE X J (.BoolOp .And (a :: b :: es) pos) (.and x y) := by
  refine PE.imp (pe_and ha hb) fun σ H Q ⟨F, κ, l, S, s, p⟩ => ?_
  refine Can.mono (s.bind p) fun u H1 ⟨F1, κ1, S1, du, _, _, s1, r1, p1⟩ => ?_
  cases du with
  | bl k =>
    refine ⟨k, rep_bl r1, ?_⟩
    cases k with
    | true =>
      rw [if_pos rfl]
      exact ⟨_, _, _, _, s1, p1⟩
    | false =>
      rw [if_neg (by decide)]
      exact s1.ret p1 (.bl _)
  | _ => exact p1.elim
theorem je_or (ha : JE X J a x) (hb : JE X J (.BoolOp .Or (b :: es) pos) y) : JE X J (.BoolOp .Or (a :: b :: es) pos) (.or x y) := by
  refine PE.imp (pe_or ha hb) fun σ H Q ⟨F, κ, l, S, s, p⟩ => ?_
  refine Can.mono (s.bind p) fun u H1 ⟨F1, κ1, S1, du, _, _, s1, r1, p1⟩ => ?_
  cases du with
  | bl k =>
    refine ⟨k, rep_bl r1, ?_⟩
    cases k with
    | true =>
      rw [if_pos rfl]
      exact s1.ret p1 (.bl _)
    | false =>
      rw [if_neg (by decide)]
      exact ⟨_, _, _, _, s1, p1⟩
  | _ => exact p1.elim
theorem je_not (ha : JE X J a x) : JE X J (.UnaryOp .Not a pos) (.not x) := by
  refine PE.imp (pe_not ha) fun σ H Q ⟨F, κ, l, S, s, p⟩ => ?_
  refine Can.mono (s.bind p) fun u H1 ⟨F1, κ1, S1, du, _, _, s1, r1, p1⟩ => ?_
  cases du with
  | bl k => exact ⟨k, rep_bl r1, s1.ret p1 (.bl _)⟩
  | _ => exact p1.elim
/-! ### tests -/
theorem Stt.retB {F : Hp} {κ : Nat → Addr} {l : Loc} {S : Sto} {σ : L2.St} {H : Hp} {Q : Bool → Hp → Prop} (s : Stt J F κ l S σ H) {b : Bool} (p : Post J RB F κ S.length σ Q (.ok b S)) : Q b H :=
  p F κ b H .refl (Nat.le_refl _) s.rel rfl
theorem asB_bind {r : R D} : asB r = r.bind fun d S => match d with
    | .bl b => .ok b S
    | _ => .stuck := by
  cases r with
  | ok d S => cases d <;> rfl
  | _ => rfl
theorem asT_bind {r : R D} : asT r = r.bind fun d S => match truD S d with
    | some b => .ok b S
    | none => .stuck := by
  cases r <;> rfl
/-- a value that is a bool -/
theorem jt_b (ha : JE X J a x) (he : ∀ t, PE X a t → PT X a (tB t)) : JT X J a (.b x) := by
  refine PT.imp (he _ ha) fun σ H Q ⟨F, κ, l, S, s, p⟩ => ?_
  have p : Post J RB F κ S.length σ Q (asB (evE J.C x l S)) := p
  rw [asB_bind] at p
  refine Can.mono (s.bind p) fun u H1 ⟨F1, κ1, S1, du, _, _, s1, r1, p1⟩ => ?_
  cases du with
  | bl k => exact ⟨k, rep_bl r1, s1.retB p1⟩
  | _ => exact p1.elim
theorem tru_of (hK : J.G.K = X.K) {F : Hp} {κ : Nat → Addr} {l : Loc} {S : Sto} {σ : L2.St} {H : Hp} {v : V} {d : D} {k : Bool} (s : Stt J F κ l S σ H) (r : Rep J.G F κ S.length v d) (h : truD S d = some k) : TruV X.K v H k := by
  unfold truD at h
  have nocell : ∀ {c : D}, get S d = c → (∀ n, d ≠ .cell n) → d = c := fun {c} e hn => by
    cases d <;> first | exact e | exact absurd rfl (hn _)
  split at h
  · rename_i e
    cases h
    cases r <;> first | rfl | (cases e; done) | skip
    rename_i i hi
    obtain ⟨_, o, _, c⟩ := s.rel.cells i S[i] (List.getElem?_eq_getElem hi)
    have e2 : S.getD i .non = .non := e
    rw [List.getD_eq_getElem?_getD, List.getElem?_eq_getElem hi] at e2
    have e3 : S[i] = .non := e2
    rw [e3] at c
    cases c
  · rename_i b e
    cases h
    cases r <;> first | (cases e; rfl) | (cases e; done) | skip
    obtain ⟨_, o, _, c⟩ := s.rel.cells _ _ (get_cell e (by intro z; cases z))
    cases c
  · rename_i b e
    cases h
    cases r <;> first | (cases e; rfl) | (cases e; done) | skip
    obtain ⟨_, o, _, c⟩ := s.rel.cells _ _ (get_cell e (by intro z; cases z))
    cases c
  · rename_i b e
    split at h
    · rename_i hb
      cases h
      cases r <;> first | (cases e; done) | skip
      · cases e
        refine ⟨by rw [str_len]; exact big_line hb, ?_⟩
        rw [str_len]
        cases b <;> first | rfl | (rw [List.length_cons]; show true = _; symm; exact bne_iff_ne.mpr (by omega))
      · obtain ⟨_, o, _, c⟩ := s.rel.cells _ _ (get_cell e (by intro z; cases z))
        cases c
    · cases h
  · rename_i b e
    cases h
    obtain ⟨a, vs, rfl, h1, h2⟩ := s.rel.gLst r e
    exact .inl ⟨vs, SqL.of h1, by rw [h2.nilIff]⟩
  · rename_i b e
    cases h
    obtain ⟨a, vs, rfl, h1, h2⟩ := s.rel.gTup r e
    exact .inr (.inl ⟨vs, hK ▸ h1, by rw [h2.nilIff]⟩)
  · cases h
end
end EL

/-! ELz: tests, displays, subscripts, builtin functions and methods. -/
namespace EL
open PySem L2 PySem.Spec PyProof.Rows
section
variable {X : Cx} {J : Jx} {pos p1 p2 : Pos} {a b c e : PySem.Expr} {x y z w : Ex} {es : List PySem.Expr} {xs : List Ex} {tx ty : Tx}
/-! ### tests -/
theorem jt_v (hK : J.G.K = X.K) (ha : JE X J a x) (he : ∀ whole, isTrue a X.env whole = (do let v ← whole; standAt a.pos; holding [v] (truthy v))) : JT X J a (.v x) := by
  refine PT.imp (pt_truth ha he) fun σ H Q ⟨F, κ, l, S, s, p⟩ => ?_
  have p : Post J RB F κ S.length σ Q (asT (evE J.C x l S)) := p
  rw [asT_bind] at p
  refine Can.mono (s.bind p) fun u H1 ⟨F1, κ1, S1, du, _, _, s1, r1, p1⟩ => ?_
  dsimp only at p1
  cases h : truD S1 du with
  | none =>
    rw [h] at p1
    exact p1.elim
  | some k =>
    rw [h] at p1
    exact ⟨k, tru_of hK s1 r1 h, s1.retB p1⟩
theorem jt_not (ha : JT X J a tx) : JT X J (.UnaryOp .Not a pos) (.not tx) := by
  refine PT.imp (pt_not ha) fun σ H Q ⟨F, κ, l, S, s, p⟩ => ?_
  refine Can.mono (s.bind p) fun u H1 ⟨F1, κ1, S1, du, _, _, s1, r1, p1⟩ => ?_
  cases r1
  exact s1.retB p1
abbrev JW (X : Cx) (J : Jx) (e : PySem.Expr) (x : Tx) : Prop := PW X e (Can J RB (evT J.C x))
theorem PW.imp {X : Cx} {e : PySem.Expr} {t t' : TT} (h : PW X e t) (k : ∀ σ H Q, t' σ H Q → t σ H Q) : PW X e t' := ⟨fun whole pins s σ H Q I q => h.run whole pins s σ H Q I (k σ H Q q)⟩
theorem jw_and (ha : JT X J a tx) (hb : JW X J (.BoolOp .And (b :: es) pos) ty) : JW X J (.BoolOp .And (a :: b :: es) pos) (.and tx ty) := by
  refine PW.imp (pw_and ha hb) fun σ H Q ⟨F, κ, l, S, s, p⟩ => ?_
  refine Can.mono (s.bind p) fun u H1 ⟨F1, κ1, S1, du, _, _, s1, r1, p1⟩ => ?_
  cases r1
  cases u with
  | true =>
    rw [if_pos rfl]
    exact ⟨_, _, _, _, s1, p1⟩
  | false =>
    rw [if_neg (by decide)]
    exact s1.retB p1
theorem jw_or (ha : JT X J a tx) (hb : JW X J (.BoolOp .Or (b :: es) pos) ty) : JW X J (.BoolOp .Or (a :: b :: es) pos) (.or tx ty) := by
  refine PW.imp (pw_or ha hb) fun σ H Q ⟨F, κ, l, S, s, p⟩ => ?_
  refine Can.mono (s.bind p) fun u H1 ⟨F1, κ1, S1, du, _, _, s1, r1, p1⟩ => ?_
  cases r1
  cases u with
  | true =>
    rw [if_pos rfl]
    exact s1.retB p1
  | false =>
    rw [if_neg (by decide)]
    exact ⟨_, _, _, _, s1, p1⟩
theorem je_ite (hc : JT X J c tx) (ha : JE X J a x) (hb : JE X J b y) : JE X J (.IfExp c a b pos) (.ite tx x y) := by
  refine PE.imp (pe_ifExp hc ha hb) fun σ H Q ⟨F, κ, l, S, s, p⟩ => ?_
  refine Can.mono (s.bind (mf := evT J.C tx) p) fun u H1 ⟨F1, κ1, S1, du, _, _, s1, r1, p1⟩ => ?_
  cases r1
  cases u with
  | true =>
    rw [if_pos rfl]
    exact ⟨_, _, _, _, s1, p1⟩
  | false =>
    rw [if_neg (by decide)]
    exact ⟨_, _, _, _, s1, p1⟩
/-! ### arguments, displays -/
theorem ja_nil : JA X J [] [] := PA.imp pa_nil fun σ H Q ⟨F, κ, l, S, s, p⟩ => p F κ [] H .refl (Nat.le_refl _) s.rel .nil
theorem ja_cons (hp : pl e = true) (ha : JE X J e x) (hs : JA X J es xs) : JA X J (e :: es) (x :: xs) := by
  refine PA.imp (pa_cons ha hs (star_pl hp _ _)) fun σ H Q ⟨F, κ, l, S, s, p⟩ => ?_
  refine Can.mono (s.bind p) fun u H1 ⟨F1, κ1, S1, du, _, _, s1, r1, p1⟩ => ?_
  refine Can.mono (s1.bind p1) fun v H2 ⟨F2, κ2, S2, dv, e2, n2, s2, r2, p2⟩ => ?_
  exact p2 F2 κ2 _ H2 .refl (Nat.le_refl _) s2.rel (.cons (r1.mono e2 n2) r2)
/-- from an argument list: what is told of the values -/
theorem je_args {t : List V → Hp → VK → Prop} (f : List D → Sto → R D) (h : ∀ ta, PA X es ta → PE X e (fun σ H Q => ta σ H fun vs H1 => t vs H1 Q)) (ha : JA X J es xs)
    (ex : ∀ l S, evE J.C z l S = (evEs J.C xs l S).bind f)
    (k : ∀ F κ l S σ H Q vs ds, Stt J F κ l S σ H → RepA J.G F κ S.length vs ds → Post J (Rep J.G) F κ S.length σ Q (f ds S) → t vs H Q) : JE X J e z := by
  refine PE.imp (h _ ha) fun σ H Q ⟨F, κ, l, S, s, p⟩ => ?_
  rw [ex] at p
  exact Can.mono (s.bind p) fun u H1 ⟨F1, κ1, S1, du, _, _, s1, r1, p1⟩ => k _ _ _ _ _ _ _ _ _ s1 r1 p1
theorem few {n : Nat} (h : n ≤ 1000) : n ≤ sizeLine := by
  rw [sizeLine_eq]
  omega
theorem evEs_len {C : Cn} : ∀ {xs : List Ex} {l : Loc} {S S' : Sto} {ds : List D}, evEs C xs l S = .ok ds S' → ds.length = xs.length
  | [], _, _, _, _, h => by
    cases h
    rfl
  | x :: xs, l, S, S', ds, h => by
    have h2 : ((evE C x l S).bind fun d S1 => (evEs C xs l S1).bind fun ds S2 => .ok (d :: ds) S2) = R.ok ds S' := h
    cases e : evE C x l S with
    | ok d S1 =>
      rw [e] at h2
      have h3 : ((evEs C xs l S1).bind fun ds S2 => .ok (d :: ds) S2) = R.ok ds S' := h2
      cases e2 : evEs C xs l S1 with
      | ok es S2 =>
        rw [e2] at h3
        have h4 : R.ok (d :: es) S2 = R.ok ds S' := h3
        cases h4
        rw [List.length_cons, List.length_cons, evEs_len e2]
      | ex c fs S2 =>
        rw [e2] at h3
        cases h3
      | stuck =>
        rw [e2] at h3
        cases h3
    | ex c fs S2 =>
      rw [e] at h2
      cases h2
    | stuck =>
      rw [e] at h2
      cases h2
theorem je_tup {j : Nat} (hl : xs.length ≤ 1000) (ha : JA X J es xs) : JE X J (.Tuple es j pos) (.tup xs) := by
  refine PE.imp (pe_tup ha) fun σ H Q ⟨F, κ, l, S, s, p⟩ => ?_
  refine Can.mono (s.bindE (mf := evEs J.C xs) p) fun u H1 ⟨F1, κ1, S1, du, e1, _, _, s1, r1, p1⟩ => ?_
  refine ⟨few (by rw [r1.len, evEs_len e1]; exact hl), fun q hq => ?_⟩
  exact s1.retNew hq p1 fun F' h e => .tup (.inl (.inl h)) (r1.mono e (Nat.le_refl _))
theorem je_lst {k : Bool} (hl : xs.length ≤ 1000) (ha : JA X J es xs) : JE X J (.List es pos) (.lst k xs) := by
  refine PE.imp (pe_lst ha) fun σ H Q ⟨F, κ, l, S, s, p⟩ => ?_
  refine Can.mono (s.bindE (mf := evEs J.C xs) p) fun u H1 ⟨F1, κ1, S1, du, e1, _, _, s1, r1, p1⟩ => ?_
  exact ⟨few (by rw [r1.len, evEs_len e1]; exact hl), fun q hq => s1.mkC hq p1 (.lst r1)⟩
theorem je_dic0 {k : Bool} : JE X J (.Dict [] [] pos) (.dic k [] []) := by
  refine PE.imp pe_dnewK fun σ H Q ⟨F, κ, l, S, s, p⟩ => ?_
  exact fun q hq => s.mkC hq (show Post J (Rep J.G) F κ S.length σ Q (mkF k (.dK []) S) from p) (.dK .nil)
theorem je_dicT {k : Bool} : JE X J (.Dict [] [] pos) (.dicT k) := by
  refine PE.imp pe_dnewT fun σ H Q ⟨F, κ, l, S, s, p⟩ => ?_
  exact fun q hq => s.mkC hq (show Post J (Rep J.G) F κ S.length σ Q (mkF k (.dT []) S) from p) (.dT .nil)
/-! ### subscripts -/
theorem ix_dict (hu : X.A.units + 1 < cLine) : IxR X (fun x y H Q => ∃ a v, x = .ref a ∧ DGet H a y (some v) ∧ Q v H) := by
  intro value slice pins s σ H x y v u Q I rx ry ⟨a, w, e, g, q⟩ hs
  subst e
  cases rx
  exact tail_any (dict_typeIs I g) PySem.F.slot_dict_getitem.lookup (d_getItem hu I g ry fun w' s3 I3 rw' => ⟨w, H, I3, rw', q⟩) hs
theorem idx_cases {S : Sto} {u v d : D} (h : idxD S u v = some d) :
    (∃ xs i k, (get S u = .lst xs ∨ get S u = .scr xs ∨ get S u = .tup xs) ∧ v = .int i ∧ ixN xs.length i = some k ∧ xs[k]? = some d) ∨
    (∃ x i k c, get S u = .str x ∧ v = .int i ∧ x.length ≤ big ∧ ixN x.length i = some k ∧ x[k]? = some c ∧ d = .str [c]) ∨
    ∃ kvs k, get S u = .dK kvs ∧ kyOf v = some k ∧ dget k kvs = some d := by
  unfold idxD at h
  split at h
  · rename_i xs i e
    obtain ⟨k, h1, h2⟩ := Option.bind_eq_some_iff.mp h
    exact .inl ⟨xs, i, k, .inl e, rfl, h1, h2⟩
  · rename_i xs i e
    obtain ⟨k, h1, h2⟩ := Option.bind_eq_some_iff.mp h
    exact .inl ⟨xs, i, k, .inr (.inl e), rfl, h1, h2⟩
  · rename_i xs i e
    obtain ⟨k, h1, h2⟩ := Option.bind_eq_some_iff.mp h
    exact .inl ⟨xs, i, k, .inr (.inr e), rfl, h1, h2⟩
  · rename_i xs i e
    split at h
    · rename_i hb
      obtain ⟨k, h1, h2⟩ := Option.bind_eq_some_iff.mp h
      obtain ⟨c, h3, h4⟩ := Option.map_eq_some_iff.mp h2
      exact .inr (.inl ⟨xs, i, k, c, e, rfl, hb, h1, h3, h4.symm⟩)
    · cases h
  · rename_i kvs e
    obtain ⟨k, h1, h2⟩ := Option.bind_eq_some_iff.mp h
    exact .inr (.inr ⟨kvs, k, e, h1, h2⟩)
  · cases h
theorem get_str {F : Hp} {κ : Nat → Addr} {Bs : Gd} {S : Sto} {H : Hp} {u : D} {x : List Nat} {v : V} (R : Rel J.G F κ Bs S H) (r : Rep J.G F κ S.length v u) (h : get S u = .str x) : u = .str x := by
  cases r with
  | cell l =>
    obtain ⟨_, o, e, c⟩ := R.cells _ _ (get_cell h (by intro z; cases z))
    cases c
  | _ => exact h
theorem opt_ok {F : Hp} {κ : Nat → Addr} {n : Nat} {S : Sto} {σ : L2.St} {Q : VK} {o : Option D} (p : Post J (Rep J.G) F κ n σ Q (optR o S)) : ∃ d, o = some d ∧ Post J (Rep J.G) F κ n σ Q (.ok d S) := by
  cases o with
  | none => exact p.elim
  | some d => exact ⟨d, rfl, p⟩
theorem je_idx (hK : J.G.K = X.K) (hu : X.A.units + 64 < cLine) (hp : pl b = true) (ha : JE X J a x) (hb : JE X J b y) : JE X J (.Subscript a b pos) (.idx x y) := by
  refine je_op2 (fun u v S => optR (idxD S u v) S) (fun ta tb ha hb => pe_ix (IxR.or ix_seq (ix_dict (by omega))) ha hb (ix_pl hp)) ha hb (fun _ _ => rfl) fun F κ l S σ H Q u v du dv s r1 r2 p => ?_
  obtain ⟨d, e, p2⟩ := opt_ok p
  rcases idx_cases e with ⟨zs, i, k, hg, rfl, h1, h2⟩ | ⟨z, i, k, c, hg, rfl, hl, h1, h2, rfl⟩ | ⟨kvs, k, hg, hk, h2⟩
  · have at_ : ∀ {vs : List V}, RepA J.G F κ S.length vs zs → ∃ w, atI vs i = some w ∧ Rep J.G F κ S.length w d := fun {vs} q => by
      obtain ⟨w, h3, h4⟩ := q.at h2
      refine ⟨w, ?_, h4⟩
      unfold atI
      rw [q.len, h1]
      exact h3
    rcases hg with hg | hg | hg
    · obtain ⟨a, vs, rfl, h3, h4⟩ := s.rel.gLst r1 hg
      obtain ⟨w, h5, h6⟩ := at_ h4
      exact .inl (.inl ⟨a, vs, i, w, rfl, rep_int r2, SqL.of h3, h5, s.ret p2 h6⟩)
    · obtain ⟨a, vs, rfl, h3, h4⟩ := s.rel.gScr r1 hg
      obtain ⟨w, h5, h6⟩ := at_ h4
      exact .inl (.inl ⟨a, vs, i, w, rfl, rep_int r2, hK ▸ h3, h5, s.ret p2 h6⟩)
    · obtain ⟨a, vs, rfl, h3, h4⟩ := s.rel.gTup r1 hg
      obtain ⟨w, h5, h6⟩ := at_ h4
      exact .inl (.inr (.inl ⟨a, vs, i, w, rfl, rep_int r2, hK ▸ h3, h5, s.ret p2 h6⟩))
  · have e2 := get_str s.rel r1 hg
    subst e2
    refine .inl (.inr (.inr ⟨_, i, c, rep_str r1, rep_int r2, by rw [str_len]; exact big_line hl, ?_, ?_⟩))
    · unfold atI
      show (ixN z.length i).bind (fun j => z[j]?) = some c
      rw [h1]
      exact h2
    · exact s.ret p2 (.str [c])
  · obtain ⟨a, vs, rfl, h3, h4⟩ := s.rel.gDK r1 hg
    have h5 := h4.get k
    rw [h2] at h5
    obtain ⟨w, h6, h7⟩ := h5
    exact .inr ⟨a, w, rfl, .inl ⟨vs, k.key, h3, ky_of r2 hk, h6.symm⟩, s.ret p2 h7⟩
/-! ### slices -/
abbrev JO (X : Cx) (J : Jx) (e : Option PySem.Expr) (x : Option Ex) : Prop := PO X e (Can J RO (evO J.C x))
theorem PO.imp {X : Cx} {e : Option PySem.Expr} {t t' : TO} (h : PO X e t) (k : ∀ σ H Q, t' σ H Q → t σ H Q) : PO X e t' := ⟨fun pins s σ H Q I q => h.run pins s σ H Q I (k σ H Q q)⟩
theorem jo_none : JO X J none none := PO.imp po_none fun σ H Q ⟨F, κ, l, S, s, p⟩ => p F κ none H .refl (Nat.le_refl _) s.rel rfl
theorem jo_some (ha : JE X J a x) : JO X J (some a) (some x) := by
  refine PO.imp (po_some ha) fun σ H Q ⟨F, κ, l, S, s, p⟩ => ?_
  refine Can.mono (s.bind (mf := evE J.C x) p) fun u H1 ⟨F1, κ1, S1, du, _, _, s1, r1, p1⟩ => ?_
  cases du with
  | int i => exact ⟨i, rep_int r1, p1 F1 κ1 _ H1 .refl (Nat.le_refl _) s1.rel rfl⟩
  | _ => exact p1.elim
theorem RepA.cut {F : Hp} {κ : Nat → Addr} {n : Nat} {vs : List V} {ds : List D} (r : RepA J.G F κ n vs ds) (lo hi : Option Int) : RepA J.G F κ n (cutV vs lo hi) (cutD ds lo hi) := by
  unfold cutV cutD
  rw [r.len]
  exact (r.drop _).take _
theorem sli_eq : sli = HT.sIx := by
  funext n d o
  cases o <;> rfl
theorem je_slc (hK : J.G.K = X.K) {k : Bool} {lo hi : Option PySem.Expr} {xl xh : Option Ex} (ha : JE X J a x) (hl : JO X J lo xl) (hh : JO X J hi xh) : JE X J (.Subscript a (.Slice lo hi none p1) pos) (.slc k x xl xh) := by
  refine PE.imp (pe_slice (SlR.or sl_list (SlR.or sl_str sl_tupA)) ha hl hh) fun σ H Q ⟨F, κ, l, S, s, p⟩ => ?_
  refine Can.mono (s.bind (mf := evE J.C x) p) fun u H1 ⟨F1, κ1, S1, du, _, _, s1, r1, p1⟩ => ?_
  refine Can.mono (s1.bind (mf := evO J.C xl) p1) fun v H2 ⟨F2, κ2, S2, dv, e2, n2, s2, r2, p2⟩ => ?_
  refine Can.mono (s2.bind (mf := evO J.C xh) p2) fun w H3 ⟨F3, κ3, S3, dw, e3, n3, s3, r3, p3⟩ => ?_
  cases r2
  cases r3
  have r4 := (r1.mono e2 n2).mono e3 n3
  have p4 : Post J (Rep J.G) F3 κ3 S3.length σ Q (match get S3 du with
    | .lst xs => mkF k (.lst (cutD xs v w)) S3
    | .str x => if x.length ≤ big then .ok (.str (cutD x v w)) S3 else .stuck
    | .tup xs => .ok (.tup (cutD xs v w)) S3
    | _ => .stuck) := p3
  split at p4
  · rename_i zs hg
    obtain ⟨a, vs, rfl, h3, h4⟩ := s3.rel.gLst r4 hg
    exact .inl ⟨a, vs, rfl, SqL.of h3, fun q hq => s3.mkC hq p4 (.lst (h4.cut v w))⟩
  · rename_i z hg
    split at p4
    · rename_i hl
      have e2 := get_str s3.rel r4 hg
      subst e2
      refine .inr (.inl ⟨_, rep_str r4, by rw [str_len]; exact big_line hl, ?_⟩)
      have e : cutS ⟨z.toArray⟩ v w = ⟨(cutD z v w).toArray⟩ := by
        unfold cutS cutD
        rw [sli_eq, str_len]
      rw [e]
      exact s3.ret p4 (.str _)
    · exact p4.elim
  · rename_i zs hg
    obtain ⟨a, vs, rfl, h3, h4⟩ := s3.rel.gTup r4 hg
    rw [hK] at h3
    have hd : du = .tup zs := by
      cases r4 with
      | cell lt =>
        obtain ⟨_, o, _, c⟩ := s3.rel.cells _ _ (get_cell hg (by intro z; cases z))
        cases c
      | tup _ _ => exact hg
      | _ => cases hg
    subst hd
    refine .inr (.inr ⟨a, vs, rfl, h3, fun hw => ?_, fun _ q hq => ?_⟩)
    · have e : cutD zs v w = zs := by
        unfold cutD
        have hl := h4.len
        rw [sli_eq, ← hl, hw.1, hw.2, hl]
        simp
      rw [e] at p4
      exact s3.ret p4 r4
    · exact s3.retNew hq p4 fun F' h e => .tup (.inl (.inl h)) ((h4.cut v w).mono e (Nat.le_refl _))
  · exact p4.elim
/-- x[::-1] -/
theorem je_rev (hK : J.G.K = X.K) {k : Bool} {j : Nat} {p3 : Pos} (ha : JE X J a x) : JE X J (.Subscript a (.Slice none none (some (.UnaryOp .USub (.Constant (.int 1) j p1) p2)) p3) pos) (.rev k x) := by
  refine PE.imp (pe_revL ha) fun σ H Q ⟨F, κ, l, S, s, p⟩ => ?_
  refine Can.mono (s.bind (mf := evE J.C x) p) fun u H1 ⟨F1, κ1, S1, du, _, _, s1, r1, p1⟩ => ?_
  have p2 : Post J (Rep J.G) F1 κ1 S1.length σ Q (match get S1 du with
    | .lst xs => mkF k (.lst xs.reverse) S1
    | _ => .stuck) := p1
  split at p2
  · rename_i ys hg
    obtain ⟨q, vs, rfl, h1, h2⟩ := s1.rel.gLst r1 hg
    exact ⟨q, vs, rfl, SqL.of h1, fun q2 hq => s1.mkC hq p2 (.lst h2.rev)⟩
  · exact p2.elim
/-! ### fields -/
theorem je_fld {f : Nat} {n : Str} (hn : J.G.fm f = n) (hK : J.G.K = X.K) (hc : ∀ c, c < J.G.nk → Cls X.K (J.G.cm c) ∧ NoAttr X.K (J.G.cm c) n) (hb : attributeBase a n X.env (eval a X.env) = eval a X.env) (ha : JE X J a x) : JE X J (.Attribute a n pos) (.fld x f) := by
  refine PE.imp (pe_fld ha hb) fun σ H Q ⟨F, κ, l, S, s, p⟩ => ?_
  refine Can.mono (s.bind (mf := evE J.C x) p) fun u H1 ⟨F1, κ1, S1, du, _, _, s1, r1, p1⟩ => ?_
  obtain ⟨d, e, p2⟩ := opt_ok p1
  unfold fldD at e
  split at e
  · rename_i c fs hg
    obtain ⟨a, dx, vs, rfl, h3, h4, lt⟩ := s1.rel.gObj r1 hg
    obtain ⟨w, h5, h6⟩ := h4.get f e
    rw [hn] at h5
    exact ⟨a, _, dx, vs, w, rfl, h3, (hc c lt).1, (hc c lt).2, h5, s1.ret p2 h6⟩
  · cases e
end
end EL

/-! ELz2: the number that figures write. -/
namespace EL
open PySem L2 PySem.Spec PyProof.Rows
open PySem.NumText in
theorem step_fig {p : Array Nat × Bool} {c : Nat} (h1 : 48 ≤ c) (h2 : c ≤ 57) : NumText.step 10 p c = some (p.1.push (c - 48), true) := by
  unfold NumText.step digit?
  rw [if_neg (by simp; omega), if_pos (by simp; omega)]
  exact if_pos (by omega)
open PySem.NumText in
theorem fold_fig : ∀ (x : List Nat) (p : Array Nat × Bool), (∀ c ∈ x, 48 ≤ c ∧ c ≤ 57) → x.foldlM (NumText.step 10) p = some (p.1 ++ (x.map (· - 48)).toArray, if x.isEmpty then p.2 else true)
  | [], p, _ => by simp
  | c :: r, p, h => by
    obtain ⟨h1, h2⟩ := h c List.mem_cons_self
    rw [List.foldlM_cons, step_fig h1 h2]
    show r.foldlM (NumText.step 10) _ = _
    rw [fold_fig r _ fun d hd => h d (List.mem_cons_of_mem _ hd)]
    congr 1
    ext1
    · simp
    · cases r <;> simp
theorem drop_none {p : Nat → Bool} : ∀ {x : List Nat}, (∀ c ∈ x, p c = false) → x.dropWhile p = x
  | [], _ => rfl
  | c :: r, h => by rw [List.dropWhile_cons, h c List.mem_cons_self]; rfl
theorem take_all {p : Nat → Bool} : ∀ {x : List Nat}, (∀ c ∈ x, p c = true) → x.takeWhile p = x
  | [], _ => rfl
  | c :: r, h => by
    rw [List.takeWhile_cons, h c List.mem_cons_self]
    simp only [if_true]
    rw [take_all fun d hd => h d (List.mem_cons_of_mem _ hd)]
open PySem.NumText in
theorem core_fig {x : List Nat} (h : ∀ c ∈ x, 48 ≤ c ∧ c ≤ 57) : core x = x ∧ (sign (x.dropWhile blank)).1 = false := by
  have hb : ∀ c ∈ x, blank c = false := fun c hc => by
    obtain ⟨h1, h2⟩ := h c hc
    unfold blank
    simp
    omega
  have hs : sign x = (false, x) := by
    cases x with
    | nil => rfl
    | cons c r =>
      obtain ⟨h1, h2⟩ := h c List.mem_cons_self
      unfold sign
      split
      · rename_i e; cases e; omega
      · rename_i e; cases e; omega
      · rfl
  unfold core
  rw [drop_none hb, hs]
  refine ⟨?_, rfl⟩
  rw [drop_none fun c hc => hb c (List.mem_reverse.mp hc), List.reverse_reverse]
theorem fold_num : ∀ (x : List Nat) (a : Nat), (x.map (· - 48)).foldl (fun acc d => acc * 10 + d) a = numN a x
  | [], _ => rfl
  | c :: r, a => fold_num r _
open PySem.NumText in
theorem int_figs {x : List Nat} (h : figs x = true) : PySem.intText? ⟨x.toArray⟩ = some (numN 0 x : Int) := by
  unfold figs at h
  rw [Bool.and_eq_true, Bool.and_eq_true] at h
  obtain ⟨⟨h1, h2⟩, h3⟩ := h
  have hf : ∀ c ∈ x, 48 ≤ c ∧ c ≤ 57 := fun c hc => by simpa using List.all_eq_true.mp h2 c hc
  have hne : x.isEmpty = false := by simpa using h1
  have nt : numTextOf ⟨x.toArray⟩ = x := by
    unfold numTextOf
    rw [if_pos]
    simp
    intro c hc
    have := (hf c hc).2
    omega
  have ns : numSeenOf ⟨x.toArray⟩ = x := by
    unfold numSeenOf
    rw [nt]
    refine take_all fun c hc => ?_
    have := (hf c hc).1
    simp
    omega
  unfold PySem.intText?
  rw [ns, nt, if_pos (by simp), (core_fig hf).1, (core_fig hf).2]
  unfold digits?
  rw [fold_fig x _ hf, hne]
  have hl := of_decide_eq_true h3
  simp
  refine ⟨by omega, ?_⟩
  unfold worth
  rw [if_neg (by decide)]
  congr 1
  rw [← fold_num]
  simp
theorem call_or {X : Cx} {f : Value} {r1 r2 : List V → Hp → VK → Prop} (h1 : CallR X f r1) (h2 : CallR X f r2) : CallR X f (fun xs H Q => r1 xs H Q ∨ r2 xs H Q) := fun pins s σ H xs us Q I r h => h.elim (h1 pins s σ H xs us Q I r) (h2 pins s σ H xs us Q I r)
end EL

/-! ELt: builtin functions, methods of texts and lists. -/
namespace EL
open PySem L2 PySem.Spec PyProof.Rows
section
variable {X : Cx} {J : Jx} {pos p1 p2 apos cpos : Pos} {a b c e o : PySem.Expr} {x y z w : Ex} {es : List PySem.Expr} {xs : List Ex} {nm : Str}
theorem star_all : ∀ {es : List PySem.Expr} (env : Env), es.all pl = true → starEach es env = es.map fun e => (false, eval e env)
  | [], _, _ => rfl
  | e :: es, env, h => by
    have h2 := and2.mp (show (pl e && es.all pl) = true from h)
    rw [star_pl h2.1, star_all env h2.2]
    rfl
theorem back_all {es : List PySem.Expr} {env : Env} (h : es.all pl = true) : (backTo pos (starEach es env)).any (·.1) = false := by
  rw [star_all env h]
  unfold backTo
  rw [List.any_eq_false]
  intro z hz
  obtain ⟨y, hy, rfl⟩ := List.mem_map.mp hz
  obtain ⟨u, _, rfl⟩ := List.mem_map.mp hy
  simp
/-- a builtin function's rule is what the evaluator says -/
def BfR (X : Cx) (J : Jx) (k : Bool) (f : Bf) (fn : Value) : Prop := ∃ r : List V → Hp → VK → Prop, CallR X fn r ∧
  ∀ F κ l S σ H (Q : VK) vs ds, Stt J F κ l S σ H → RepA J.G F κ S.length vs ds → Post J (Rep J.G) F κ S.length σ Q (bfD k f ds S) → r vs H Q
theorem je_bf {k : Bool} {f : Bf} {id : String} (h : BfR X J k f (.builtin id)) (hg : Gl X nm) (hm : X.mg nm = none) (hv : bootBuiltins nm = some (.builtin id)) (hn : nm ≠ "__name__") (hdb : (nm == ("__debug__" : Str)) = false)
    (hp : (e :: es).all pl = true) (ha : JA X J (e :: es) xs) : JE X J (.Call (.Name nm p1) (e :: es) [] pos) (.bf k f xs) := by
  obtain ⟨r, hc, hr⟩ := h
  have hp2 := and2.mp (show (pl e && es.all pl) = true from hp)
  exact je_args (t := r) (bfD k f) (fun ta ha => pe_callB hc hg hm hv ha hn hdb (star_pl hp2.1 _ _) (back_all hp2.2)) ha (fun _ _ => rfl) hr
theorem je_bfT {k : Bool} {f : Bf} {T : String} (h : BfR X J k f (.type T)) (hg : Gl X nm) (hm : X.mg nm = none) (hv : bootBuiltins nm = some (.type T)) (hn : nm ≠ "__name__") (hdb : (nm == ("__debug__" : Str)) = false)
    (hp : (e :: es).all pl = true) (ha : JA X J (e :: es) xs) : JE X J (.Call (.Name nm p1) (e :: es) [] pos) (.bf k f xs) := by
  obtain ⟨r, hc, hr⟩ := h
  have hp2 := and2.mp (show (pl e && es.all pl) = true from hp)
  exact je_args (t := r) (bfD k f) (fun ta ha => pe_callTy hc hg hm hv ha hn hdb (star_pl hp2.1 _ _) (back_all hp2.2)) ha (fun _ _ => rfl) hr
/-! ### shapes of argument lists -/
theorem repA1 {F : Hp} {κ : Nat → Addr} {n : Nat} {vs : List V} {d : D} (r : RepA J.G F κ n vs [d]) : ∃ v, vs = [v] ∧ Rep J.G F κ n v d := by
  cases r with
  | cons r s =>
    cases s
    exact ⟨_, rfl, r⟩
theorem repA2 {F : Hp} {κ : Nat → Addr} {n : Nat} {vs : List V} {d d' : D} (r : RepA J.G F κ n vs [d, d']) : ∃ v v', vs = [v, v'] ∧ Rep J.G F κ n v d ∧ Rep J.G F κ n v' d' := by
  cases r with
  | cons r s =>
    cases s with
    | cons r2 s2 =>
      cases s2
      exact ⟨_, _, rfl, r, r2⟩
theorem allI_ok {F : Hp} {κ : Nat → Addr} {n : Nat} : ∀ {vs : List V} {ds : List D} {ns : List Int}, RepA J.G F κ n vs ds → allI ds = some ns → vs = ns.map V.int
  | _, [], _, .nil, h => by
    cases h
    rfl
  | _, .int i :: ds, ns, .cons r s, h => by
    obtain ⟨m, h1, h2⟩ := Option.map_eq_some_iff.mp (show (allI ds).map (i :: ·) = some ns from h)
    subst h2
    rw [rep_int r, allI_ok s h1]
    rfl
  | _, .non :: _, _, _, h => by cases h
  | _, .bl _ :: _, _, _, h => by cases h
  | _, .str _ :: _, _, _, h => by cases h
  | _, .tup _ :: _, _, _, h => by cases h
  | _, .lst _ :: _, _, _, h => by cases h
  | _, .scr _ :: _, _, _, h => by cases h
  | _, .dK _ :: _, _, _, h => by cases h
  | _, .dT _ :: _, _, _, h => by cases h
  | _, .obj _ _ :: _, _, _, h => by cases h
  | _, .cell _ :: _, _, _, h => by cases h
theorem allB_ok {F : Hp} {κ : Nat → Addr} {n : Nat} : ∀ {vs : List V} {ds : List D} {ns : List Bool}, RepA J.G F κ n vs ds → allB ds = some ns → vs = ns.map V.bl
  | _, [], _, .nil, h => by
    cases h
    rfl
  | _, .bl i :: ds, ns, .cons r s, h => by
    obtain ⟨m, h1, h2⟩ := Option.map_eq_some_iff.mp (show (allB ds).map (i :: ·) = some ns from h)
    subst h2
    rw [rep_bl r, allB_ok s h1]
    rfl
  | _, .non :: _, _, _, h => by cases h
  | _, .int _ :: _, _, _, h => by cases h
  | _, .str _ :: _, _, _, h => by cases h
  | _, .tup _ :: _, _, _, h => by cases h
  | _, .lst _ :: _, _, _, h => by cases h
  | _, .scr _ :: _, _, _, h => by cases h
  | _, .dK _ :: _, _, _, h => by cases h
  | _, .dT _ :: _, _, _, h => by cases h
  | _, .obj _ _ :: _, _, _, h => by cases h
  | _, .cell _ :: _, _, _, h => by cases h
theorem allS_ok {F : Hp} {κ : Nat → Addr} {n : Nat} : ∀ {vs : List V} {ds : List D} {ns : List (List Nat)}, RepA J.G F κ n vs ds → allS ds = some ns → vs = ns.map fun x => V.str ⟨x.toArray⟩
  | _, [], _, .nil, h => by
    cases h
    rfl
  | _, .str i :: ds, ns, .cons r s, h => by
    obtain ⟨m, h1, h2⟩ := Option.map_eq_some_iff.mp (show (allS ds).map (i :: ·) = some ns from h)
    subst h2
    rw [rep_str r, allS_ok s h1]
    rfl
  | _, .non :: _, _, _, h => by cases h
  | _, .int _ :: _, _, _, h => by cases h
  | _, .bl _ :: _, _, _, h => by cases h
  | _, .tup _ :: _, _, _, h => by cases h
  | _, .lst _ :: _, _, _, h => by cases h
  | _, .scr _ :: _, _, _, h => by cases h
  | _, .dK _ :: _, _, _, h => by cases h
  | _, .dT _ :: _, _, _, h => by cases h
  | _, .obj _ _ :: _, _, _, h => by cases h
  | _, .cell _ :: _, _, _, h => by cases h
/-- one argument, an option told -/
theorem bf1 {F : Hp} {κ : Nat → Addr} {S : Sto} {σ : L2.St} {Q : VK} {k : Bool} {f : Bf} {ds : List D} (g : D → R D) (h1 : ∀ d, bfD k f [d] S = g d) (h0 : bfD k f [] S = .stuck) (h2 : ∀ d d' r, bfD k f (d :: d' :: r) S = .stuck)
    (p : Post J (Rep J.G) F κ S.length σ Q (bfD k f ds S)) : ∃ d, ds = [d] ∧ Post J (Rep J.G) F κ S.length σ Q (g d) := by
  cases ds with
  | nil =>
    rw [h0] at p
    exact p.elim
  | cons d r =>
    cases r with
    | nil =>
      rw [h1] at p
      exact ⟨d, rfl, p⟩
    | cons d' r =>
      rw [h2] at p
      exact p.elim
theorem bf2 {F : Hp} {κ : Nat → Addr} {S : Sto} {σ : L2.St} {Q : VK} {k : Bool} {f : Bf} {ds : List D} (g : D → D → R D) (h1 : ∀ d d', bfD k f [d, d'] S = g d d') (h0 : bfD k f [] S = .stuck) (hn : ∀ d, bfD k f [d] S = .stuck) (h2 : ∀ d d' d'' r, bfD k f (d :: d' :: d'' :: r) S = .stuck)
    (p : Post J (Rep J.G) F κ S.length σ Q (bfD k f ds S)) : ∃ d d', ds = [d, d'] ∧ Post J (Rep J.G) F κ S.length σ Q (g d d') := by
  cases ds with
  | nil =>
    rw [h0] at p
    exact p.elim
  | cons d r =>
    cases r with
    | nil =>
      rw [hn] at p
      exact p.elim
    | cons d' r =>
      cases r with
      | nil =>
        rw [h1] at p
        exact ⟨d, d', rfl, p⟩
      | cons d'' r =>
        rw [h2] at p
        exact p.elim
end
section
variable {X : Cx} {J : Jx} {k : Bool}
theorem call_lenD : CallR X (.builtin "len") (fun xs H Q => ∃ a kvs, xs = [.ref a] ∧ Rd H a (.dK kvs) ∧ Q (.int kvs.length) H) := by
  intro pins s σ H xs us Q I r ⟨a, kvs, e, h, q⟩
  subst e
  obtain ⟨u, rfl, rx⟩ := vals1 r
  cases rx
  exact d_len I h fun t s' I' => ⟨.int kvs.length, H, I', ⟨t, rfl⟩, q⟩
theorem bf_len (hK : J.G.K = X.K) : BfR X J k .len (.builtin "len") := by
  refine ⟨_, CallR.or call_len call_lenD, fun F κ l S σ H Q vs ds s r0 p0 => ?_⟩
  obtain ⟨d, rfl, p⟩ := bf1 (fun x => optR ((lenD S x).map fun n => .int n) S) (fun _ => rfl) rfl (fun _ _ _ => rfl) p0
  obtain ⟨v, rfl, r⟩ := repA1 r0
  obtain ⟨d2, e, p⟩ := s.opt p
  obtain ⟨n, e2, e3⟩ := Option.map_eq_some_iff.mp e
  subst e3
  have fin : Q (.int n) H := s.ret p (.int _)
  unfold lenD at e2
  split at e2
  · rename_i zs hg
    cases e2
    obtain ⟨a, ws, rfl, h1, h2⟩ := s.rel.gLst r hg
    exact .inl ⟨_, _, rfl, .inl ⟨ws, SqL.of h1, h2.len.symm⟩, fin⟩
  · rename_i zs hg
    cases e2
    obtain ⟨a, ws, rfl, h1, h2⟩ := s.rel.gScr r hg
    exact .inl ⟨_, _, rfl, .inl ⟨ws, hK ▸ h1, h2.len.symm⟩, fin⟩
  · rename_i zs hg
    cases e2
    obtain ⟨a, ws, rfl, h1, h2⟩ := s.rel.gTup r hg
    exact .inl ⟨_, _, rfl, .inr ⟨ws, hK ▸ h1, h2.len.symm⟩, fin⟩
  · rename_i z hg
    split at e2
    · rename_i hl
      cases e2
      have e4 := get_str s.rel r hg
      subst e4
      refine .inl ⟨_, _, rfl, ?_, fin⟩
      rw [rep_str r]
      exact ⟨by rw [str_len]; exact big_line hl, (str_len _).symm⟩
    · cases e2
  · rename_i kvs hg
    cases e2
    obtain ⟨a, ws, rfl, h1, h2⟩ := s.rel.gDK r hg
    exact .inr ⟨a, ws, rfl, h1, by rw [h2.len]; exact fin⟩
  · cases e2
theorem small_log {i : Int} (h : small i = true) : i.natAbs.log2 < 1920 := by
  have h2 : i.natAbs < 10000000000000000000000000000000000000000 := of_decide_eq_true h
  have : i.natAbs < 2 ^ 1920 := Nat.lt_trans h2 (by decide)
  rcases Nat.eq_zero_or_pos i.natAbs with z | z
  · rw [z]; decide
  · exact (Nat.log2_lt (by omega)).mpr this
theorem bf_str : BfR X J k .str (.type "str") := by
  refine ⟨_, call_str_int, fun F κ l S σ H Q vs ds s r0 p0 => ?_⟩
  obtain ⟨d, rfl, p⟩ := bf1 (fun x => match x with
    | .int i => if small i then .ok (.str (dec i)) S else .stuck
    | _ => .stuck) (fun d => by cases d <;> rfl) rfl (fun d _ _ => by cases d <;> rfl) p0
  obtain ⟨v, rfl, r⟩ := repA1 r0
  cases d with
  | int i =>
    dsimp only at p
    split at p
    · rename_i h
      refine ⟨i, by rw [rep_int r], small_log h, ?_⟩
      have r2 : Rep J.G F κ S.length (.str ⟨(dec i).toArray⟩) (.str (dec i)) := .str _
      unfold dec at r2
      rw [str_eta] at r2
      exact s.ret p r2
    · exact p.elim
  | _ => exact p.elim
theorem bf_int : BfR X J k .int (.type "int") := by
  refine ⟨_, call_or call_int1 call_int_str, fun F κ l S σ H Q vs ds s r0 p0 => ?_⟩
  obtain ⟨d, rfl, p⟩ := bf1 (fun x => match x with
    | .int i => .ok (.int i) S
    | .bl k => .ok (.int (if k then 1 else 0)) S
    | .str x => if figs x then .ok (.int (numN 0 x)) S else .stuck
    | _ => .stuck) (fun d => by cases d <;> rfl) rfl (fun d _ _ => by cases d <;> rfl) p0
  obtain ⟨v, rfl, r⟩ := repA1 r0
  cases d with
  | int i => exact .inl (.inl ⟨i, by rw [rep_int r], s.ret p (.int _)⟩)
  | bl i => exact .inl (.inr ⟨i, by rw [rep_bl r], s.ret p (.int _)⟩)
  | str x =>
    dsimp only at p
    split at p
    · rename_i hf
      refine .inr ⟨_, _, by rw [rep_str r], int_figs hf, ?_, s.ret p (.int _)⟩
      unfold figs at hf
      have := of_decide_eq_true (and2.mp hf).2
      rw [str_len]
      omega
    · exact p.elim
  | _ => exact p.elim
theorem bf_repr (hsm : (X.K.lookup sysModules).isSome = true) (hK : J.G.K = X.K) (hu : X.A.units + 64 < cLine) (hg : X.A.guards = some []) : BfR X J k .repr (.builtin "repr") := by
  refine ⟨_, call_reprP (G := J.G) hsm hK hu hg, fun F κ l S σ H Q vs ds s r0 p0 => ?_⟩
  obtain ⟨d, rfl, p⟩ := bf1 (fun x => optR ((reprD S x).map .str) S) (fun _ => rfl) rfl (fun _ _ _ => rfl) p0
  obtain ⟨v, rfl, r⟩ := repA1 r0
  obtain ⟨d2, e, p⟩ := s.opt p
  obtain ⟨n, e2, e3⟩ := Option.map_eq_some_iff.mp e
  subst e3
  exact ⟨F, κ, J.Bs, S, v, d, n, rfl, s.rel, r, e2, s.ret p (.str _)⟩
theorem mxI_ok : ∀ (r : List Int) (i : Int), (mxI i r ∈ i :: r) ∧ ∀ y ∈ i :: r, y ≤ mxI i r
  | [], i => ⟨by simp [mxI], fun y hy => by rw [List.mem_singleton.mp hy]; exact Int.le_refl _⟩
  | j :: r, i => by
    obtain ⟨h1, h2⟩ := mxI_ok r (if j > i then j else i)
    have e : mxI i (j :: r) = mxI (if j > i then j else i) r := rfl
    rw [e]
    refine ⟨?_, fun y hy => ?_⟩
    · rcases List.mem_cons.mp h1 with h1 | h1
      · rw [h1]
        split <;> simp
      · exact List.mem_cons_of_mem _ (List.mem_cons_of_mem _ h1)
    · obtain ⟨z, hz⟩ : ∃ z, (if j > i then j else i) = z := ⟨_, rfl⟩
      have hz2 : i ≤ z ∧ j ≤ z := by rw [← hz]; split <;> omega
      rw [hz] at h2 ⊢
      have h0 := h2 _ List.mem_cons_self
      rcases List.mem_cons.mp hy with rfl | hy
      · omega
      · rcases List.mem_cons.mp hy with rfl | hy
        · omega
        · exact h2 y (List.mem_cons_of_mem _ hy)
theorem mnI_ok : ∀ (r : List Int) (i : Int), (mnI i r ∈ i :: r) ∧ ∀ y ∈ i :: r, mnI i r ≤ y
  | [], i => ⟨by simp [mnI], fun y hy => by rw [List.mem_singleton.mp hy]; exact Int.le_refl _⟩
  | j :: r, i => by
    obtain ⟨h1, h2⟩ := mnI_ok r (if j < i then j else i)
    have e : mnI i (j :: r) = mnI (if j < i then j else i) r := rfl
    rw [e]
    refine ⟨?_, fun y hy => ?_⟩
    · rcases List.mem_cons.mp h1 with h1 | h1
      · rw [h1]
        split <;> simp
      · exact List.mem_cons_of_mem _ (List.mem_cons_of_mem _ h1)
    · obtain ⟨z, hz⟩ : ∃ z, (if j < i then j else i) = z := ⟨_, rfl⟩
      have hz2 : z ≤ i ∧ z ≤ j := by rw [← hz]; split <;> omega
      rw [hz] at h2 ⊢
      have h0 := h2 _ List.mem_cons_self
      rcases List.mem_cons.mp hy with rfl | hy
      · omega
      · rcases List.mem_cons.mp hy with rfl | hy
        · omega
        · exact h2 y (List.mem_cons_of_mem _ hy)
theorem bf_max (hc : X.calm = true) : BfR X J k .max (.builtin "max") := by
  refine ⟨_, call_or (call_max2 hc) (cr_max hc), fun F κ l S σ H Q vs ds s r0 p0 => ?_⟩
  match ds, r0, p0 with
  | [], _, p0 => exact p0.elim
  | [x], r0, p =>
    obtain ⟨v, rfl, r⟩ := repA1 r0
    obtain ⟨d2, e, p⟩ := s.opt (show Post J (Rep J.G) F κ S.length σ Q (optR (mxD S x) S) from p)
    unfold mxD at e
    split at e
    · rename_i zs hg
      split at e
      · rename_i i is hi
        cases e
        obtain ⟨a, ws, rfl, h1, h2⟩ := s.rel.gLst r hg
        rw [allI_ok h2 hi] at h1
        refine .inr ⟨a, i :: is, rfl, SqL.of h1, Nat.zero_lt_succ _, fun m h3 h4 => ?_⟩
        obtain ⟨g1, g2⟩ := mxI_ok is i
        have em : m = mxI i is := Int.le_antisymm (g2 m h3) (h4 _ g1)
        rw [em]
        exact s.ret p (.int _)
      · cases e
    · cases e
  | [x, y], r0, p =>
    obtain ⟨v, v', rfl, r1, r2⟩ := repA2 r0
    obtain ⟨d2, e, p⟩ := s.opt (show Post J (Rep J.G) F κ S.length σ Q (optR (maxD x y) S) from p)
    unfold maxD at e
    split at e
    · cases e
      exact .inl ⟨_, _, by rw [rep_int r1, rep_int r2], s.ret p (.int _)⟩
    · cases e
  | _ :: _ :: _ :: _, _, p0 => exact p0.elim
theorem bf_min (hc : X.calm = true) : BfR X J k .min (.builtin "min") := by
  refine ⟨_, call_or (call_min2 hc) (cr_min hc), fun F κ l S σ H Q vs ds s r0 p0 => ?_⟩
  match ds, r0, p0 with
  | [], _, p0 => exact p0.elim
  | [x], r0, p =>
    obtain ⟨v, rfl, r⟩ := repA1 r0
    obtain ⟨d2, e, p⟩ := s.opt (show Post J (Rep J.G) F κ S.length σ Q (optR (mnD S x) S) from p)
    unfold mnD at e
    split at e
    · rename_i zs hg
      split at e
      · rename_i i is hi
        cases e
        obtain ⟨a, ws, rfl, h1, h2⟩ := s.rel.gLst r hg
        rw [allI_ok h2 hi] at h1
        refine .inr ⟨a, i :: is, rfl, SqL.of h1, Nat.zero_lt_succ _, fun m h3 h4 => ?_⟩
        obtain ⟨g1, g2⟩ := mnI_ok is i
        have em : m = mnI i is := Int.le_antisymm (h4 _ g1) (g2 m h3)
        rw [em]
        exact s.ret p (.int _)
      · cases e
    · cases e
  | [x, y], r0, p =>
    obtain ⟨v, v', rfl, r1, r2⟩ := repA2 r0
    obtain ⟨d2, e, p⟩ := s.opt (show Post J (Rep J.G) F κ S.length σ Q (optR (minD x y) S) from p)
    unfold minD at e
    split at e
    · cases e
      exact .inl ⟨_, _, by rw [rep_int r1, rep_int r2], s.ret p (.int _)⟩
    · cases e
  | _ :: _ :: _ :: _, _, p0 => exact p0.elim
theorem bf_sum (hc : X.calm = true) : BfR X J k .sum (.builtin "sum") := by
  refine ⟨_, cr_sum hc, fun F κ l S σ H Q vs ds s r0 p0 => ?_⟩
  obtain ⟨d, rfl, p⟩ := bf1 (fun x => optR (match get S x with
    | .lst xs => (allI xs).map fun ns => .int ns.sum
    | _ => none) S) (fun _ => rfl) rfl (fun _ _ _ => rfl) p0
  obtain ⟨v, rfl, r⟩ := repA1 r0
  obtain ⟨d2, e, p⟩ := s.opt p
  split at e
  · rename_i zs hg
    obtain ⟨ns, e2, e3⟩ := Option.map_eq_some_iff.mp e
    subst e3
    obtain ⟨a, ws, rfl, h1, h2⟩ := s.rel.gLst r hg
    rw [allI_ok h2 e2] at h1
    exact ⟨a, ns, rfl, SqL.of h1, s.ret p (.int _)⟩
  · cases e
theorem bf_all (hc : X.calm = true) : BfR X J k .all (.builtin "all") := by
  refine ⟨_, cr_all hc, fun F κ l S σ H Q vs ds s r0 p0 => ?_⟩
  obtain ⟨d, rfl, p⟩ := bf1 (fun x => optR (match get S x with
    | .lst xs => (allB xs).map fun bs => .bl (bs.all id)
    | _ => none) S) (fun _ => rfl) rfl (fun _ _ _ => rfl) p0
  obtain ⟨v, rfl, r⟩ := repA1 r0
  obtain ⟨d2, e, p⟩ := s.opt p
  split at e
  · rename_i zs hg
    obtain ⟨ns, e2, e3⟩ := Option.map_eq_some_iff.mp e
    subst e3
    obtain ⟨a, ws, rfl, h1, h2⟩ := s.rel.gLst r hg
    rw [allB_ok h2 e2] at h1
    exact ⟨a, ns, rfl, SqL.of h1, s.ret p (.bl _)⟩
  · cases e
theorem bf_any (hc : X.calm = true) : BfR X J k .any (.builtin "any") := by
  refine ⟨_, cr_any hc, fun F κ l S σ H Q vs ds s r0 p0 => ?_⟩
  obtain ⟨d, rfl, p⟩ := bf1 (fun x => optR (match get S x with
    | .lst xs => (allB xs).map fun bs => .bl (bs.any id)
    | _ => none) S) (fun _ => rfl) rfl (fun _ _ _ => rfl) p0
  obtain ⟨v, rfl, r⟩ := repA1 r0
  obtain ⟨d2, e, p⟩ := s.opt p
  split at e
  · rename_i zs hg
    obtain ⟨ns, e2, e3⟩ := Option.map_eq_some_iff.mp e
    subst e3
    obtain ⟨a, ws, rfl, h1, h2⟩ := s.rel.gLst r hg
    rw [allB_ok h2 e2] at h1
    exact ⟨a, ns, rfl, SqL.of h1, s.ret p (.bl _)⟩
  · cases e
theorem bf_abs : BfR X J k .abs (.builtin "abs") := by
  refine ⟨_, call_abs, fun F κ l S σ H Q vs ds s r0 p0 => ?_⟩
  obtain ⟨d, rfl, p⟩ := bf1 (fun x => match x with
    | .int i => .ok (.int (if i < 0 then -i else i)) S
    | _ => .stuck) (fun d => by cases d <;> rfl) rfl (fun d _ _ => by cases d <;> rfl) p0
  obtain ⟨v, rfl, r⟩ := repA1 r0
  cases d with
  | int i => exact ⟨i, by rw [rep_int r], s.ret p (.int _)⟩
  | _ => exact p.elim
theorem bf_divmod : BfR X J k .divmod (.builtin "divmod") := by
  refine ⟨_, call_divmod, fun F κ l S σ H Q vs ds s r0 p0 => ?_⟩
  obtain ⟨d, d', rfl, p⟩ := bf2 (fun x y => match x, y with
    | .int i, .int j => if 0 < j ∧ j < 1073741824 then .ok (.tup [.int (i / j), .int (i % j)]) S else .stuck
    | _, _ => .stuck) (fun d d' => by cases d <;> cases d' <;> rfl) rfl (fun d => by cases d <;> rfl) (fun d d' _ _ => by cases d <;> cases d' <;> rfl) p0
  obtain ⟨v, v', rfl, r1, r2⟩ := repA2 r0
  split at p
  · rename_i i j
    split at p
    · rename_i h
      refine ⟨i, j, by rw [rep_int r1, rep_int r2], h, fun q hq => ?_⟩
      exact s.retNew hq p fun F' h e => .tup (.inl (.inl h)) (.cons (.int _) (.cons (.int _) .nil))
    · exact p.elim
  · exact p.elim
theorem bf_list (hK : J.G.K = X.K) : BfR X J k .list (.type "list") := by
  refine ⟨_, call_list_of, fun F κ l S σ H Q vs ds s r0 p0 => ?_⟩
  obtain ⟨d, rfl, p⟩ := bf1 (fun x => match listD S x with
    | some xs => mkF k (.lst xs) S
    | none => .stuck) (fun d => rfl) rfl (fun _ _ _ => rfl) p0
  obtain ⟨v, rfl, r⟩ := repA1 r0
  split at p
  · rename_i zs e
    unfold listD at e
    split at e
    · rename_i ys hg
      cases e
      obtain ⟨a, ws, rfl, h1, h2⟩ := s.rel.gLst r hg
      exact ⟨a, ws, rfl, .inl (SqL.of h1), fun q hq => s.mkC hq p (.lst h2)⟩
    · rename_i ys hg
      cases e
      obtain ⟨a, ws, rfl, h1, h2⟩ := s.rel.gTup r hg
      exact ⟨a, ws, rfl, .inr (hK ▸ h1), fun q hq => s.mkC hq p (.lst h2)⟩
    · cases e
  · exact p.elim
theorem bf_tuple (hK : J.G.K = X.K) : BfR X J k .tuple (.type "tuple") := by
  refine ⟨_, call_tuple_of, fun F κ l S σ H Q vs ds s r0 p0 => ?_⟩
  obtain ⟨d, rfl, p⟩ := bf1 (fun x => match get S x with
    | .lst xs => .ok (.tup xs) S
    | .tup xs => .ok x S
    | _ => .stuck) (fun d => rfl) rfl (fun _ _ _ => rfl) p0
  obtain ⟨v, rfl, r⟩ := repA1 r0
  split at p
  · rename_i ys hg
    obtain ⟨a, ws, rfl, h1, h2⟩ := s.rel.gLst r hg
    refine ⟨a, ws, rfl, .inl ⟨SqL.of h1, fun q hq => ?_⟩⟩
    exact s.retNew hq p fun F' h e => .tup (.inl (.inl h)) (h2.mono e (Nat.le_refl _))
  · rename_i ys hg
    obtain ⟨a, ws, rfl, h1, h2⟩ := s.rel.gTup r hg
    exact ⟨a, ws, rfl, .inr ⟨hK ▸ h1, s.ret p r⟩⟩
  · exact p.elim
end
end EL

/-! ELu: methods of texts and lists, isinstance, the module's names. -/
namespace EL
open PySem L2 PySem.Spec PyProof.Rows
theorem bnds_all {b : Nat} : ∀ {xs : List D}, bnds b xs = true ↔ ∀ d ∈ xs, bnd b d = true
  | [] => ⟨fun _ d hd => (by cases hd), fun _ => rfl⟩
  | d :: r => by
    show (bnd b d && bnds b r) = true ↔ _
    rw [and2, bnds_all]
    simp
section
variable {X : Cx} {J : Jx} {F : Hp} {κ : Nat → Addr} {l : Loc} {S : Sto} {σ : L2.St} {H : Hp} {Q : VK}
/-- may: what is told -/
theorem may_ok {bs n : Nat} {d : D} (h : may bs n d = true) {b : Nat} (hb : b ≤ bs) (hn : n < b) : bnd b d = true := by
  unfold may at h
  rw [Bool.or_eq_true, decide_eq_true_eq] at h
  rcases h with h | h
  · omega
  · exact bnd_nc h
/-- a cell has a new content; what is told beside -/
theorem Stt.putC (s : Stt J F κ l S σ H) {n : Nat} {c : D} {o : HO} (hn : n < S.length) (x : Cont J.G F κ S.length o c) (hb : ∀ b ∈ J.Bs.bs, n < b → bnd b c = true) : Stt J F κ l (setC S n c) σ (upd H (κ n) o) := by
  have len : (setC S n c).length = S.length := by unfold setC; simp
  refine s.step .refl (by rw [len]; exact Nat.le_refl _) (s.rel.put hn x hb)
theorem Stt.retPut (s : Stt J F κ l S σ H) {n : Nat} {c d : D} {v : V} {o : HO} (hn : n < S.length) (x : Cont J.G F κ S.length o c) (hb : ∀ b ∈ J.Bs.bs, n < b → bnd b c = true)
    (p : Post J (Rep J.G) F κ S.length σ Q (.ok d (setC S n c))) (r : Rep J.G F κ S.length v d) : Q v (upd H (κ n) o) := by
  have len : (setC S n c).length = S.length := by unfold setC; simp
  exact p F κ v _ .refl (by rw [len]; exact Nat.le_refl _) (s.rel.put hn x hb) (by rw [len]; exact r)
theorem Stt.cellL (s : Stt J F κ l S σ H) {n : Nat} {xs : List D} (h : S[n]? = some (.lst xs)) : ∃ vs, H (κ n) = some (.lst vs) ∧ RepA J.G F κ S.length vs xs ∧ ∀ b ∈ J.Bs.bs, n < b → bnds b xs = true := by
  obtain ⟨_, o, e, x⟩ := s.rel.cells _ _ h
  cases x with
  | lst r => exact ⟨_, e, r, fun b hb hn => (s.rel.low b hb).2 n _ hn h⟩
theorem rep_cell {G : Gx} {F : Hp} {κ : Nat → Addr} {n m : Nat} {v : V} (r : Rep G F κ m v (.cell n)) : v = .ref (κ n) ∧ n < m := by
  cases r with
  | cell h => exact ⟨rfl, h⟩
end
section
variable {X : Cx} {J : Jx} {pos p1 p2 apos cpos : Pos} {a b c e o : PySem.Expr} {x y z w : Ex} {es : List PySem.Expr} {xs : List Ex} {nm : Str}
/-- a list's method is what the evaluator says -/
def MmR (X : Cx) (J : Jx) (m : Mm) (id : String) : Prop := ∃ r : V → List V → Hp → VK → Prop, MtR X id r ∧
  ∀ F κ l S σ H (Q : VK) v vs d ds, Stt J F κ l S σ H → Rep J.G F κ S.length v d → RepA J.G F κ S.length vs ds → Post J (Rep J.G) F κ S.length σ Q (mmD J.C.bs m d ds S) → r v vs H Q
theorem few_all {es : List PySem.Expr} {env : Env} (h : es.all pl = true) (hn : es.length < 30) : ((backTo cpos (starEach es env)).all (fun x => !x.1) && (backToKw cpos (keywordEach [] env)).all (fun x => x.1.isSome)
      && decide (es.length + ([] : List Keyword).length + (if ([] : List Keyword).isEmpty then 0 else 1) < 30)) = true := by
  rw [Bool.and_eq_true, Bool.and_eq_true]
  refine ⟨⟨?_, rfl⟩, decide_eq_true ?_⟩
  · rw [star_all env h]
    unfold backTo
    rw [List.all_eq_true]
    intro z hz
    obtain ⟨y, hy, rfl⟩ := List.mem_map.mp hz
    obtain ⟨u, _, rfl⟩ := List.mem_map.mp hy
    rfl
  · show es.length + 0 + 0 < 30
    omega
theorem gcell {S : Sto} {d : D} {ys : List D} {H : Hp} {F : Hp} {κ : Nat → Addr} {l : L2.St} {lo : Loc} {v : V} (s : Stt J F κ lo S l H) (r : Rep J.G F κ S.length v d) (h : get S d = .lst ys) : tyV X.K "list" v H := by
  obtain ⟨a, vs, rfl, h1, h2⟩ := s.rel.gLst r h
  exact .inl ⟨rfl, vs, SqL.of h1⟩
theorem je_mm0 {m : Mm} {id : String} (h : MmR X J m id) (slot : Slot "list" nm id) (hty : typeOf (.builtin id) = pure (.type "method_descriptor")) (hb : notSuper o = true) (hl : (apos.endLine == cpos.line) = true) (ho : JE X J o x) :
    JE X J (.Call (.Attribute o nm apos) [] [] cpos) (.mm m x []) := by
  obtain ⟨r, hc, hr⟩ := h
  refine PE.imp (pe_bm0 PySem.F.plainAttrs_list slot hty hc ho (attr_base hb _ _ _) hl) fun σ H Q ⟨F, κ, l, S, s, p⟩ => ?_
  refine Can.mono (s.bind (mf := evE J.C x) p) fun u H1 ⟨F1, κ1, S1, du, _, _, s1, r1, p1⟩ => ?_
  dsimp only at p1
  split at p1
  · rename_i ys hg
    exact ⟨gcell s1 r1 hg, hr _ _ _ _ _ _ _ _ _ _ _ s1 r1 .nil p1⟩
  · exact p1.elim
theorem je_mm {m : Mm} {id : String} (h : MmR X J m id) (slot : Slot "list" nm id) (hty : typeOf (.builtin id) = pure (.type "method_descriptor")) (hb : notSuper o = true) (hl : (apos.endLine == cpos.line) = true) (hp : (e :: es).all pl = true) (hn : (e :: es).length < 30)
    (ho : JE X J o x) (ha : JA X J (e :: es) xs) : JE X J (.Call (.Attribute o nm apos) (e :: es) [] cpos) (.mm m x xs) := by
  obtain ⟨r, hc, hr⟩ := h
  have hp2 := and2.mp (show (pl e && es.all pl) = true from hp)
  refine PE.imp (pe_bm PySem.F.plainAttrs_list slot hty hc ho ha (attr_base hb _ _ _) (few_all hp hn) hl (star_pl hp2.1 _ _) (back_all hp2.2)) fun σ H Q ⟨F, κ, l, S, s, p⟩ => ?_
  refine Can.mono (s.bind (mf := evE J.C x) p) fun u H1 ⟨F1, κ1, S1, du, _, _, s1, r1, p1⟩ => ?_
  dsimp only at p1
  split at p1
  · rename_i ys hg
    refine ⟨gcell s1 r1 hg, ?_⟩
    refine Can.mono (s1.bind (mf := evEs J.C xs) p1) fun us H2 ⟨F2, κ2, S2, ds, e2, n2, s2, r2, p2⟩ => ?_
    exact hr _ _ _ _ _ _ _ _ _ _ _ s2 (r1.mono e2 n2) r2 p2
  · exact p1.elim
end
section
variable {X : Cx} {J : Jx}
theorem mm_cases {bs : Nat} {m : Mm} {d : D} {ds : List D} {S : Sto} {F : Hp} {κ : Nat → Addr} {n : Nat} {σ : L2.St} {Q : VK} (p : Post J (Rep J.G) F κ n σ Q (mmD bs m d ds S)) : ∃ i xs, d = .cell i ∧ S[i]? = some (.lst xs) := by
  unfold mmD at p
  split at p
  · rename_i i
    split at p <;> first | exact ⟨_, _, rfl, by assumption⟩ | exact p.elim
  · exact p.elim
theorem mm_append : MmR X J .append "list.append" := by
  refine ⟨rAppend, mt_append, fun F κ l S σ H Q v vs d ds s r r2 p => ?_⟩
  obtain ⟨i, xs, rfl, hi⟩ := mm_cases p
  obtain ⟨rfl, hn⟩ := rep_cell r
  obtain ⟨ws, e, q, lw⟩ := s.cellL hi
  unfold mmD at p
  dsimp only at p
  rw [hi] at p
  cases r2 with
  | nil => exact p.elim
  | cons r3 r4 =>
    cases r4 with
    | nil =>
      dsimp only at p
      split at p
      · rename_i h
        refine ⟨_, ws, _, rfl, rfl, e, by rw [q.len]; exact big_lt h.1, ?_⟩
        refine s.retPut hn (.lst (q.app (.cons r3 .nil))) (fun b hb hb2 => ?_) p .non
        refine bnds_all.mpr fun x hx => ?_
        rcases List.mem_append.mp hx with hx | hx
        · exact bnds_all.mp (lw b hb hb2) x hx
        · rw [List.mem_singleton.mp hx]
          exact may_ok h.2 (J.bs b hb) hb2
      · exact p.elim
    | cons r5 r6 => exact p.elim
theorem last_eq {α : Type} (xs : List α) : xs[xs.length - 1]? = xs.getLast? := (List.getLast?_eq_getElem?).symm
theorem mm_pop : MmR X J .pop "list.pop" := by
  refine ⟨rPop, mt_pop, fun F κ l S σ H Q v vs d ds s r r2 p => ?_⟩
  obtain ⟨i, xs, rfl, hi⟩ := mm_cases p
  obtain ⟨rfl, hn⟩ := rep_cell r
  obtain ⟨ws, e, q, lw⟩ := s.cellL hi
  unfold mmD at p
  dsimp only at p
  rw [hi] at p
  cases r2 with
  | nil =>
    dsimp only at p
    split at p
    · rename_i y h
      rw [← last_eq] at h
      obtain ⟨u, h1, h2⟩ := q.at h
      refine ⟨_, ws, u, rfl, rfl, e, by rw [q.len]; exact h1, ?_⟩
      exact s.retPut hn (.lst q.dropLast) (fun b hb hb2 => bnds_all.mpr fun x hx => bnds_all.mp (lw b hb hb2) x (List.dropLast_subset _ hx)) p h2
    · exact p.elim
  | cons r3 r4 => exact p.elim
theorem ix_seq_eq {n k : Nat} {i : Int} (h : ix n i = some k) : seqIndex? i n = some k := by
  unfold ix at h
  unfold seqIndex?
  split at h
  · split at h
    · rename_i h1 h2
      simp only [Option.some.injEq] at h
      have : ¬ i < 0 := by omega
      simp [this, h1, h2, h]
    · cases h
  · split at h
    · rename_i h1 h2
      simp only [Option.some.injEq] at h
      have h3 : i < 0 := by omega
      have h4 : 0 ≤ i + n := by omega
      have h5 : i + n < n := by omega
      simp [h3, h4, h5, h]
    · cases h
theorem mm_popAt : MmR X J .popAt "list.pop" := by
  refine ⟨rPopAt, mt_popAt, fun F κ l S σ H Q v vs d ds s r r2 p => ?_⟩
  obtain ⟨i, xs, rfl, hi⟩ := mm_cases p
  obtain ⟨rfl, hn⟩ := rep_cell r
  obtain ⟨ws, e, q, lw⟩ := s.cellL hi
  unfold mmD at p
  dsimp only at p
  rw [hi] at p
  cases r2 with
  | nil => exact p.elim
  | cons r3 r4 =>
    rename_i d3 _ _
    cases r4 with
    | nil =>
      dsimp only at p
      split at p
      · rename_i y ys h
        unfold popD at h
        split at h
        · rename_i j
          split at h
          · rename_i hb
            obtain ⟨k, h1, h2⟩ := Option.bind_eq_some_iff.mp h
            obtain ⟨y', h3, h4⟩ := Option.map_eq_some_iff.mp h2
            cases h4
            obtain ⟨u, h5, h6⟩ := q.at h3
            have hr : -(xs.length : Int) ≤ j ∧ j < xs.length := by
              unfold ix at h1
              split at h1
              · split at h1
                · omega
                · cases h1
              · split at h1
                · omega
                · cases h1
            have hb2 : xs.length ≤ 100000 := hb
            refine ⟨_, ws, j, k, u, rfl, by rw [rep_int r3], e, by omega, by omega, by rw [q.len]; exact ix_seq_eq h1, h5, ?_⟩
            exact s.retPut hn (.lst (q.erase k)) (fun b hb hb2 => bnds_all.mpr fun x hx => bnds_all.mp (lw b hb hb2) x (List.mem_of_mem_eraseIdx hx)) p h6
          · cases h
        · cases h
      · exact p.elim
    | cons r5 r6 => exact p.elim
theorem mm_reverse : MmR X J .reverse "list.reverse" := by
  refine ⟨rReverse, mt_reverse, fun F κ l S σ H Q v vs d ds s r r2 p => ?_⟩
  obtain ⟨i, xs, rfl, hi⟩ := mm_cases p
  obtain ⟨rfl, hn⟩ := rep_cell r
  obtain ⟨ws, e, q, lw⟩ := s.cellL hi
  unfold mmD at p
  dsimp only at p
  rw [hi] at p
  cases r2 with
  | nil =>
    refine ⟨_, ws, rfl, rfl, e, ?_⟩
    exact s.retPut hn (.lst q.rev) (fun b hb hb2 => bnds_all.mpr fun x hx => bnds_all.mp (lw b hb hb2) x (List.mem_reverse.mp hx)) p .non
  | cons r3 r4 => exact p.elim
theorem mm_clear : MmR X J .clear "list.clear" := by
  refine ⟨rClear, mt_clear, fun F κ l S σ H Q v vs d ds s r r2 p => ?_⟩
  obtain ⟨i, xs, rfl, hi⟩ := mm_cases p
  obtain ⟨rfl, hn⟩ := rep_cell r
  obtain ⟨ws, e, q, lw⟩ := s.cellL hi
  unfold mmD at p
  dsimp only at p
  rw [hi] at p
  cases r2 with
  | nil =>
    refine ⟨_, ws, rfl, rfl, e, ?_⟩
    exact s.retPut hn (.lst .nil) (fun b hb hb2 => rfl) p .non
  | cons r3 r4 => exact p.elim
theorem may_oks {bs n : Nat} {ds : List D} (h : (decide (bs ≤ n) || ncs ds) = true) {b : Nat} (hb : b ≤ bs) (hn : n < b) : bnds b ds = true := by
  rw [Bool.or_eq_true, decide_eq_true_eq] at h
  rcases h with h | h
  · omega
  · exact bnds_nc h
theorem mm_extend : MmR X J .extend "list.extend" := by
  refine ⟨rExtend, mt_extend, fun F κ l S σ H Q v vs d ds s r r2 p => ?_⟩
  obtain ⟨i, xs, rfl, hi⟩ := mm_cases p
  obtain ⟨rfl, hn⟩ := rep_cell r
  obtain ⟨ws, e, q, lw⟩ := s.cellL hi
  unfold mmD at p
  dsimp only at p
  rw [hi] at p
  cases r2 with
  | nil => exact p.elim
  | cons r3 r4 =>
    cases r4 with
    | nil =>
      dsimp only at p
      split at p
      · rename_i ys hg
        split at p
        · rename_i h
          obtain ⟨a2, us, rfl, e2, q2⟩ := s.rel.gLst r3 hg
          refine ⟨_, a2, ws, us, rfl, rfl, e, e2, by rw [q.len, q2.len]; exact big_line (Nat.le_of_lt h.1), ?_⟩
          refine s.retPut hn (.lst (q.app q2)) (fun b hb hb2 => ?_) p .non
          refine bnds_all.mpr fun x hx => ?_
          rcases List.mem_append.mp hx with hx | hx
          · exact bnds_all.mp (lw b hb hb2) x hx
          · exact bnds_all.mp (may_oks h.2 (J.bs b hb) hb2) x hx
        · exact p.elim
      · exact p.elim
    | cons r5 r6 => exact p.elim
end
end EL

/-! ELi: join, isinstance, the module's names. -/
namespace EL
open PySem L2 PySem.Spec PyProof.Rows
section
variable {X : Cx} {J : Jx} {pos p1 p2 apos cpos : Pos} {a b c e o : PySem.Expr} {x y z w : Ex} {es : List PySem.Expr} {xs : List Ex} {nm : Str}
theorem join_eq (a : List Nat) : ∀ ys : List (List Nat), Str.join ⟨a.toArray⟩ (ys.map fun x => (⟨x.toArray⟩ : Str)) = ⟨(joinT a ys).toArray⟩
  | [] => rfl
  | [_] => rfl
  | x :: z :: r => by
    show ((⟨x.toArray⟩ : Str) ++ ⟨a.toArray⟩) ++ Str.join ⟨a.toArray⟩ ((z :: r).map fun x => (⟨x.toArray⟩ : Str)) = _
    rw [join_eq a (z :: r), str_app, str_app]
    show _ = (⟨(x ++ (a ++ joinT a (z :: r))).toArray⟩ : Str)
    rw [List.append_assoc]
theorem lenT_eq (n : Nat) : ∀ ys : List (List Nat), ((ys.map fun x => (⟨x.toArray⟩ : Str)).map (·.length)).sum + (ys.map fun x => (⟨x.toArray⟩ : Str)).length * n = lenT n ys
  | [] => by simp [lenT]
  | x :: r => by
    have ih := lenT_eq n r
    show ((⟨x.toArray⟩ : Str).length :: (r.map fun x => (⟨x.toArray⟩ : Str)).map (·.length)).sum + ((r.map fun x => (⟨x.toArray⟩ : Str)).length + 1) * n = x.length + n + lenT n r
    rw [List.sum_cons, str_len, Nat.add_mul]
    omega
theorem je_join {k : Bool} (hK : J.G.K = X.K) (hb : notSuper o = true) (hl : (apos.endLine == cpos.line) = true) (hp : pl e = true) (ho : JE X J o x) (ha : JA X J [e] xs) :
    JE X J (.Call (.Attribute o "join" apos) [e] [] cpos) (.bm k .join x xs) := by
  have hp1 : [e].all pl = true := and2.mpr ⟨hp, rfl⟩
  refine PE.imp (pe_bm PySem.F.plainAttrs_str PySem.F.slot_str_join PySem.F.type_str_join mt_join ho ha (attr_base hb _ _ _) (few_all hp1 (by show 1 < 30; decide)) hl (star_pl hp _ _) (back_all rfl)) fun σ H Q ⟨F, κ, l, S, s, p⟩ => ?_
  refine Can.mono (s.bind (mf := evE J.C x) p) fun u H1 ⟨F1, κ1, S1, du, _, _, s1, r1, p1⟩ => ?_
  dsimp only at p1
  split at p1
  · rename_i hr
    have hr2 : ∃ z, get S1 du = .str z := by
      unfold rcv at hr
      split at hr <;> first | exact ⟨_, rfl⟩ | (rename_i q _; cases q; done) | skip
      all_goals first | exact ⟨_, by assumption⟩ | cases hr
    obtain ⟨z, hz⟩ := hr2
    have ez := get_str s1.rel r1 hz
    subst ez
    refine ⟨by rw [rep_str r1]; rfl, ?_⟩
    refine Can.mono (s1.bind (mf := evEs J.C xs) p1) fun us H2 ⟨F2, κ2, S2, ds, e2, n2, s2, r2, p2⟩ => ?_
    cases r2 with
    | nil => exact p2.elim
    | cons r3 r4 =>
      cases r4 with
      | nil =>
        have p3 : Post J (Rep J.G) F2 κ2 S2.length σ Q (match strsD S2 _ with
          | some xs => if lenT z.length xs ≤ big then .ok (.str (joinT z xs)) S2 else .stuck
          | none => .stuck) := p2
        split at p3
        · rename_i ys hy
          split at p3
          · rename_i hlen
            unfold strsD at hy
            have fin : ∀ (q : Addr), (SqL X.K H2 q ((ys.map fun x => (⟨x.toArray⟩ : Str)).map V.str) ∨ SqT X.K H2 q ((ys.map fun x => (⟨x.toArray⟩ : Str)).map V.str)) → ∃ a p, ∃ ws : List Str, u = .str a ∧ [V.ref q] = [.ref p] ∧ (SqL X.K H2 p (ws.map V.str) ∨ SqT X.K H2 p (ws.map V.str)) ∧
                (ws.map (·.length)).sum + ws.length * a.length ≤ 16777216 ∧ Q (.str (Txt.join a ws)) H2 := fun q hq => by
              refine ⟨_, q, _, rep_str r1, rfl, hq, ?_, ?_⟩
              · rw [str_len, lenT_eq]
                unfold big at hlen
                omega
              · rw [TL.join_eq, join_eq]
                exact s2.ret p3 (.str _)
            have mm : (ys.map fun x => V.str ⟨x.toArray⟩) = (ys.map fun x => (⟨x.toArray⟩ : Str)).map V.str := by rw [List.map_map]; rfl
            split at hy
            · rename_i zs hg
              obtain ⟨a, ws, rfl, h1, h2⟩ := s2.rel.gLst r3 hg
              rw [allS_ok h2 hy, mm] at h1
              exact fin a (.inl (SqL.of h1))
            · rename_i zs hg
              obtain ⟨a, ws, rfl, h1, h2⟩ := s2.rel.gTup r3 hg
              rw [allS_ok h2 hy, mm] at h1
              exact fin a (.inr (hK ▸ h1))
            · cases hy
          · exact p3.elim
        · exact p3.elim
      | cons r5 r6 => exact p2.elim
  · exact p1.elim
/-! ### the module's names -/
theorem je_gl {g : Nat} {u : Value} {v : V} (hg : Gl X nm) (hm : X.mg nm = some u) (hr : RelV v u) (hd : (nm == ("__debug__" : Str)) = false) (h : ∀ F κ n, Rep J.G F κ n v (J.C.pg.gls g)) : JE X J (.Name nm pos) (.gl g) :=
  je_c (pe_glob hg hm hr hd) fun F κ l S => ⟨_, rfl, h F κ _⟩
/-! ### isinstance -/
inductive Tk where
  | none | bool | int | str | list | tuple | dict | cls (c : Nat)
def tkV (G : Gx) : Tk → Value
  | .none => .type "NoneType"
  | .bool => .type "bool"
  | .int => .type "int"
  | .str => .type "str"
  | .list => .type "list"
  | .tuple => .type "tuple"
  | .dict => .type "dict"
  | .cls c => .ref (G.cm c)
def tyVal (G : Gx) : Ty → Value
  | .int => .type "int"
  | .bool => .type "bool"
  | .str => .type "str"
  | .list => .type "list"
  | .tuple => .type "tuple"
  | .dict => .type "dict"
  | .cls c => .ref (G.cm c)
def tyV2 (G : Gx) : Ty → V
  | .int => .ty "int"
  | .bool => .ty "bool"
  | .str => .ty "str"
  | .list => .ty "list"
  | .tuple => .ty "tuple"
  | .dict => .ty "dict"
  | .cls c => .ref (G.cm c)
theorem ty_cls {G : Gx} (t : Ty) : ClsV (tyV2 G t) (tyVal G t) := by
  cases t
  case cls c => exact .own _
  all_goals exact .ty _
def tkOf : D → Option Tk
  | .non => some .none
  | .bl _ => some .bool
  | .int _ => some .int
  | .str _ => some .str
  | .lst _ => some .list
  | .tup _ => some .tuple
  | .dK _ => some .dict
  | .obj c _ => some (.cls c)
  | _ => .none
def tkB (sub : Nat → Nat → Bool) (t : Ty) : Tk → Bool
  | .none => false
  | .bool => (match t with
    | .int => true
    | .bool => true
    | _ => false)
  | .int => (match t with
    | .int => true
    | _ => false)
  | .str => (match t with
    | .str => true
    | _ => false)
  | .list => (match t with
    | .list => true
    | _ => false)
  | .tuple => (match t with
    | .tuple => true
    | _ => false)
  | .dict => (match t with
    | .dict => true
    | _ => false)
  | .cls c => (match t with
    | .cls c' => sub c c'
    | _ => false)
theorem tyD_tk {sub : Nat → Nat → Bool} {t : Ty} {d : D} : tyD sub t d = (tkOf d).map (tkB sub t) := by cases d <;> rfl
def tkOk (n : Nat) : Tk → Prop
  | .cls c => c < n
  | _ => True
/-- what a class is -/
structure Own (K : PySem.W.Frag) (C : Addr) : Prop where
  cl : Cls K C
  ha : PySem.W.findIn K (.ref C) "__class__" = some (some (.builtin "object.__class__"))
  hn : PySem.W.specialIn K (.builtin "object.__class__") "__get__" = some (some (.builtin "getset_descriptor.__get__"))
  ht : PySem.W.takesIn K (.builtin "object.__class__") = some true
  hm : PySem.W.mroIn K C (.type "object") = some true
/-- what isinstance answers of the classes -/
def KitF (K : PySem.W.Frag) (G : Gx) (sub : Nat → Nat → Bool) (t : Ty) : Prop := ∀ k, tkOk G.nk k → PySem.W.kitOne K (tkV G k) (tyVal G t) = some (tkB sub t k)
theorem tyx_of (hK : J.G.K = X.K) (ho : ∀ c, c < J.G.nk → Own X.K (J.G.cm c)) {F : Hp} {κ : Nat → Addr} {l : Loc} {S : Sto} {σ : L2.St} {H : Hp} {d : D} {v : V} {k : Tk} (s : Stt J F κ l S σ H) (r : Rep J.G F κ S.length v d) (h : tkOf (get S d) = some k) :
    TyX X.K H v (tkV J.G k) ∧ tkOk J.G.nk k := by
  have flat : ∀ {d2 : D}, get S d = d2 → flatD d2 = true → d2 ≠ .non → d = d2 := fun {d2} e f hn => by
    cases r with
    | cell lt =>
      obtain ⟨_, o, _, c⟩ := s.rel.cells _ _ (get_cell e hn)
      cases c <;> cases f
    | _ => exact e
  cases e : get S d with
  | non =>
    rw [e] at h
    cases h
    refine ⟨.base ?_, trivial⟩
    cases r with
    | non => exact .non
    | cell lt =>
      exfalso
      have h2 : S.getD _ .non = .non := e
      rw [List.getD_eq_getElem?_getD, List.getElem?_eq_getElem lt] at h2
      obtain ⟨_, o, _, c⟩ := s.rel.cells _ _ (List.getElem?_eq_getElem lt)
      have h3 := (show S[_]'lt = D.non from h2)
      rw [h3] at c
      cases c
    | _ => cases e
  | bl b =>
    have e2 := flat e rfl (by intro z; cases z)
    subst e2
    cases h
    rw [rep_bl r]
    exact ⟨.base (.bl _), trivial⟩
  | int b =>
    have e2 := flat e rfl (by intro z; cases z)
    subst e2
    cases h
    rw [rep_int r]
    exact ⟨.base (.int _), trivial⟩
  | str b =>
    have e2 := flat e rfl (by intro z; cases z)
    subst e2
    cases h
    rw [rep_str r]
    exact ⟨.base (.str _), trivial⟩
  | lst zs =>
    rw [e] at h
    cases h
    obtain ⟨a, ws, rfl, h1, _⟩ := s.rel.gLst r e
    exact ⟨.base (.lst h1), trivial⟩
  | tup zs =>
    rw [e] at h
    cases h
    obtain ⟨a, ws, rfl, h1, _⟩ := s.rel.gTup r e
    refine ⟨?_, trivial⟩
    rcases h1 with (h1 | ⟨o, h1⟩) | ⟨o, its, n, h1, h2, _⟩
    · exact .base (.tup h1)
    · exact .fTuple h1
    · exact .kTuple (hK ▸ h1) h2
  | dK zs =>
    rw [e] at h
    cases h
    obtain ⟨a, ws, rfl, h1, _⟩ := s.rel.gDK r e
    refine ⟨?_, trivial⟩
    rcases h1 with h1 | ⟨o, h1⟩
    · exact .base (.dK h1)
    · exact .fDict h1
  | obj c fs =>
    rw [e] at h
    cases h
    obtain ⟨a, dx, ws, rfl, h1, _, lt⟩ := s.rel.gObj r e
    have ow := ho c lt
    exact ⟨.base (.ins h1 ow.cl ow.ha ow.hn ow.ht ow.hm), lt⟩
  | scr _ =>
    rw [e] at h
    cases h
  | dT _ =>
    rw [e] at h
    cases h
  | cell _ =>
    rw [e] at h
    cases h
theorem anyTy_kit {K : PySem.W.Frag} {G : Gx} {sub : Nat → Nat → Bool} {d : D} {k : Tk} (hk : tkOf d = some k) (ok : tkOk G.nk k) : ∀ {ts : List Ty} {b : Bool}, (∀ t ∈ ts, KitF K G sub t) → anyTy sub d ts = some b → PySem.W.kitAny K (tkV G k) (ts.map (tyVal G)) = some b
  | [], b, _, h => by
    cases h
    rfl
  | t :: ts, b, hf, h => by
    have h2 : (match tyD sub t d, anyTy sub d ts with
      | some a, some b => some (a || b)
      | _, _ => none) = some b := h
    rw [tyD_tk, hk] at h2
    cases e : anyTy sub d ts with
    | none =>
      rw [e] at h2
      cases h2
    | some q =>
      rw [e] at h2
      have h3 : some (tkB sub t k || q) = some b := h2
      cases h3
      refine kitAny_cons (hf t List.mem_cons_self k ok) (fun z => ?_) (fun z => by rw [z]; rfl)
      rw [z, Bool.false_or]
      exact anyTy_kit hk ok (fun t ht => hf t (List.mem_cons_of_mem _ ht)) e
theorem anyTy_tk {sub : Nat → Nat → Bool} {d : D} {t : Ty} {ts : List Ty} {b : Bool} (h : anyTy sub d (t :: ts) = some b) : ∃ k, tkOf d = some k := by
  have h2 : (match tyD sub t d, anyTy sub d ts with
    | some a, some b => some (a || b)
    | _, _ => none) = some b := h
  rw [tyD_tk] at h2
  cases e : tkOf d with
  | none =>
    rw [e] at h2
    cases h2
  | some k => exact ⟨k, rfl⟩
/-- a written class -/
def TyE (X : Cx) (J : Jx) (e : PySem.Expr) (t : Ty) : Prop := PE X e (tC (tyV2 J.G t)) ∧ pl e = true
theorem je_isi1 {t : Ty} {te : PySem.Expr} (hK : J.G.K = X.K) (ho : ∀ c, c < J.G.nk → Own X.K (J.G.cm c)) (hf : KitF X.K J.G J.C.pg.sub t) (hg : Gl X "isinstance") (hm : X.mg "isinstance" = none) (hp : pl a = true) (ht : TyE X J te t) (ha : JE X J a x) :
    JE X J (.Call (.Name "isinstance" p1) [a, te] [] pos) (.isi x [t]) := by
  refine PE.imp (pe_callB call_isi hg hm (by decide +kernel) (pa_cons ha (pa_cons ht.1 pa_nil (star_pl ht.2 _ _)) (star_pl hp _ _)) (by decide) (by decide) (star_pl hp _ _) (back_all (and2.mpr ⟨ht.2, rfl⟩))) fun σ H Q ⟨F, κ, l, S, s, p⟩ => ?_
  refine Can.mono (s.bind (mf := evE J.C x) p) fun u H1 ⟨F1, κ1, S1, du, _, _, s1, r1, p1⟩ => ?_
  obtain ⟨b, e, q⟩ := optB s1 p1
  obtain ⟨k, hk⟩ := anyTy_tk e
  obtain ⟨ty, ok⟩ := tyx_of hK ho s1 r1 hk
  refine ⟨_, _, _, _, b, rfl, ty_cls t, ty, ?_, q⟩
  have e2 : (match tyD J.C.pg.sub t (get S1 du), anyTy J.C.pg.sub (get S1 du) [] with
    | some a, some b => some (a || b)
    | _, _ => none) = some b := e
  rw [tyD_tk, hk] at e2
  have e3 : some (tkB J.C.pg.sub t k || false) = some b := e2
  rw [Bool.or_false] at e3
  rw [hf k ok, e3]
theorem je_isi {t1 t2 : Ty} {t1e t2e : PySem.Expr} {jj : Nat} (hK : J.G.K = X.K) (ho : ∀ c, c < J.G.nk → Own X.K (J.G.cm c)) (hf1 : KitF X.K J.G J.C.pg.sub t1) (hf2 : KitF X.K J.G J.C.pg.sub t2) (hg : Gl X "isinstance") (hm : X.mg "isinstance" = none) (hp : pl a = true) (ht1 : TyE X J t1e t1) (ht2 : TyE X J t2e t2) (ha : JE X J a x) :
    JE X J (.Call (.Name "isinstance" p1) [a, .Tuple [t1e, t2e] jj p2] [] pos) (.isi x [t1, t2]) := by
  have tup : PE X (.Tuple [t1e, t2e] jj p2) (tTup (tCons (tC (tyV2 J.G t1)) (tCons (tC (tyV2 J.G t2)) tNil))) := pe_tup (pa_cons ht1.1 (pa_cons ht2.1 pa_nil (star_pl ht2.2 _ _)) (star_pl ht1.2 _ _))
  refine PE.imp (pe_callB call_isiT hg hm (by decide +kernel) (pa_cons ha (pa_cons tup pa_nil rfl) (star_pl hp _ _)) (by decide) (by decide) (star_pl hp _ _) (back_all rfl)) fun σ H Q ⟨F, κ, l, S, s, p⟩ => ?_
  refine Can.mono (s.bind (mf := evE J.C x) p) fun u H1 ⟨F1, κ1, S1, du, _, _, s1, r1, p1⟩ => ?_
  refine ⟨few (show 2 ≤ 1000 by decide), fun q hq => ?_⟩
  obtain ⟨b, e, p2⟩ : ∃ b, anyTy J.C.pg.sub (get S1 du) [t1, t2] = some b ∧ Post J (Rep J.G) F1 κ1 S1.length σ Q (.ok (.bl b) S1) := by
    have p1 : Post J (Rep J.G) F1 κ1 S1.length σ Q (optR ((anyTy J.C.pg.sub (get S1 du) [t1, t2]).map .bl) S1) := p1
    cases e : anyTy J.C.pg.sub (get S1 du) [t1, t2] with
    | none =>
      rw [e] at p1
      exact p1.elim
    | some b =>
      rw [e] at p1
      exact ⟨b, rfl, p1⟩
  have R2 := s1.rel.junk (o := .tup [tyV2 J.G t1, tyV2 J.G t2]) hq
  have s2 : Stt J F1 κ1 l S1 σ (upd H1 q (.tup [tyV2 J.G t1, tyV2 J.G t2])) := ⟨R2, s1.lo, s1.hx, s1.hn⟩
  obtain ⟨k, hk⟩ := anyTy_tk e
  obtain ⟨ty, ok⟩ := tyx_of hK ho s2 r1 hk
  refine ⟨_, q, _, _, _, b, rfl, upd_same, .cons (ty_cls t1) (.cons (ty_cls t2) .nil), ty, ?_, s2.ret p2 (.bl b)⟩
  have e2 := anyTy_kit (K := X.K) (G := J.G) hk ok (ts := [t1, t2]) (fun t ht => by
    rcases List.mem_cons.mp ht with ht | ht
    · rw [ht]; exact hf1
    · rw [List.mem_singleton.mp ht]; exact hf2) e
  exact e2
end
end EL

/-! ELk: targets, what is gone through. -/
namespace EL
open PySem L2 PySem.Spec PyProof.Rows
section
variable {X : Cx} {J : Jx} {pos p1 p2 apos cpos : Pos} {a b c e o : PySem.Expr} {x y z w : Ex} {es : List PySem.Expr} {xs : List Ex} {nm : Str}
theorem PG.imp {X : Cx} {e : PySem.Expr} {t t' : TG} (h : PG X e t) (k : ∀ v σ H Q, t' v σ H Q → t v σ H Q) : PG X e t' := ⟨fun pins s σ H v u Q I r q => h.run pins s σ H v u Q I r (k v σ H Q q)⟩
theorem PGs.imp {X : Cx} {e : List PySem.Expr} {t t' : TGs} (h : PGs X e t) (k : ∀ v σ H Q, t' v σ H Q → t v σ H Q) : PGs X e t' := ⟨fun pins s σ H v u Q I r q => h.run pins s σ H v u Q I r (k v σ H Q q)⟩
theorem PG.or {X : Cx} {e : PySem.Expr} {t t' : TG} (h : PG X e t) (h' : PG X e t') : PG X e (fun v σ H Q => t v σ H Q ∨ t' v σ H Q) := ⟨fun pins s σ H v u Q I r q => q.elim (h.run pins s σ H v u Q I r) (h'.run pins s σ H v u Q I r)⟩
def Wp (is : List Nat) (σ σ2 : L2.St) : Prop := ∀ vs, (∀ i ∈ is, i ∈ vs) → wipe σ2 vs = wipe σ vs
def tgT (J : Jx) (t : Tg) : TG := fun v σ H Q => ∃ F κ l S d l2, Stt J F κ l S σ H ∧ Rep J.G F κ S.length v d ∧ bindT S t d l = some l2 ∧ ∀ σ2, Wp (tgs t) σ σ2 → Stt J F κ l2 S σ2 H → Q σ2 H
def tgTs (J : Jx) (t : List Tg) : TGs := fun v σ H Q => ∃ F κ l S d l2, Stt J F κ l S σ H ∧ RepA J.G F κ S.length v d ∧ bindTs S t d l = some l2 ∧ ∀ σ2, Wp (tgss t) σ σ2 → Stt J F κ l2 S σ2 H → Q σ2 H
abbrev JG (X : Cx) (J : Jx) (e : PySem.Expr) (t : Tg) : Prop := PG X e (tgT J t)
abbrev JGs (X : Cx) (J : Jx) (e : List PySem.Expr) (t : List Tg) : Prop := PGs X e (tgTs J t)
theorem wipe_get {σ : L2.St} {j : Nat} : ∀ {vs : List Nat}, (wipe σ vs)[j]? = if j ∈ vs then (σ[j]?).map (fun _ => none) else σ[j]?
  | [] => by simp [wipe]
  | v :: vs => by
    have ih := wipe_get (σ := σ) (j := j) (vs := vs)
    unfold wipe
    rw [List.getElem?_set]
    by_cases h : v = j
    · subst h
      rw [if_pos rfl, wipe_length, if_pos List.mem_cons_self]
      by_cases hl : v < σ.length
      · rw [if_pos hl, List.getElem?_eq_getElem hl]
        rfl
      · rw [if_neg hl, List.getElem?_eq_none (by omega)]
        rfl
    · rw [if_neg h, ih]
      have e : (j ∈ v :: vs) ↔ j ∈ vs := by
        rw [List.mem_cons]
        exact ⟨fun z => z.elim (fun q => absurd q.symm h) id, .inr⟩
      by_cases hj : j ∈ vs
      · rw [if_pos hj, if_pos (e.mpr hj)]
      · rw [if_neg hj, if_neg (fun z => hj (e.mp z))]
theorem wipe_set {σ : L2.St} {i : Nat} {o : Option V} {vs : List Nat} (h : i ∈ vs) : wipe (σ.set i o) vs = wipe σ vs := by
  apply List.ext_getElem?
  intro j
  rw [wipe_get, wipe_get]
  by_cases hj : j ∈ vs
  · rw [if_pos hj, if_pos hj, List.getElem?_set]
    by_cases e : i = j
    · subst e
      rw [if_pos rfl]
      by_cases hl : i < σ.length
      · rw [if_pos hl, List.getElem?_eq_getElem hl]
        rfl
      · rw [if_neg hl, List.getElem?_eq_none (by omega)]
    · rw [if_neg e]
  · rw [if_neg hj, if_neg hj, List.getElem?_set_ne (show i ≠ j from fun e => hj (by rw [← e]; exact h))]
theorem jg_v {i : Nat} (hh : J.hi = none) (hN : X.N.Nodup) (hi : X.N[i]? = some nm) (hx : L2.Loc X.env.scope nm) (hf : X.fn nm = true ∨ X.env.scope.names.lookup nm = some .local) : JG X J (.Name nm pos) (.v i) := by
  refine PG.imp (pg_name hN hi hx hf) fun v σ H Q ⟨F, κ, l, S, d, l2, s, r, e, q⟩ => ?_
  have e2 : some (l.set i (some d)) = some l2 := e
  cases e2
  exact q _ (fun vs hv => wipe_set (hv i (List.mem_singleton.mpr rfl))) ⟨s.rel, s.lo.set i r, s.hx, no_hi hh⟩
def plT : PySem.Expr → Bool
  | .Name _ _ => true
  | .Tuple _ _ _ => true
  | _ => false
theorem asg_pl {e : PySem.Expr} {es : List PySem.Expr} {env : Env} (h : plT e = true) : assignEach (e :: es) env = (false, assign e env) :: assignEach es env := by
  cases e <;> first | rfl | cases h
theorem asg_all {env : Env} : ∀ {es : List PySem.Expr}, es.all plT = true → assignEach es env = es.map fun e => (false, assign e env)
  | [], _ => rfl
  | e :: es, h => by
    have h2 := and2.mp (show (plT e && es.all plT) = true from h)
    rw [asg_pl h2.1, asg_all h2.2]
    rfl
theorem jgs_nil : JGs X J [] [] := by
  refine PGs.imp pgs_nil fun v σ H Q ⟨F, κ, l, S, d, l2, s, r, e, q⟩ => ?_
  cases r with
  | nil =>
    have e2 : some l = some l2 := e
    cases e2
    exact ⟨rfl, q σ (fun _ _ => rfl) s⟩
  | cons _ _ => cases e
theorem jgs_cons {t : Tg} {ts : List Tg} (hp : plT e = true) (h1 : JG X J e t) (h2 : JGs X J es ts) : JGs X J (e :: es) (t :: ts) := by
  refine PGs.imp (pgs_cons h1 h2 (by rw [asg_pl hp]; rfl)) fun v σ H Q ⟨F, κ, l, S, d, l2, s, r, e, q⟩ => ?_
  cases r with
  | nil => cases e
  | cons r rs =>
    have e2 : (bindT S t _ l).bind (bindTs S ts _) = some l2 := e
    obtain ⟨l1, h3, h4⟩ := Option.bind_eq_some_iff.mp e2
    refine ⟨_, _, rfl, F, κ, l, S, _, l1, s, r, h3, fun σ2 w2 s2 => ?_⟩
    refine ⟨F, κ, l1, S, _, l2, s2, rs, h4, fun σ3 w3 s3 => q σ3 (fun vs hv => ?_) s3⟩
    have hv2 : ∀ i ∈ tgs t ++ tgss ts, i ∈ vs := hv
    rw [w3 vs (fun i hi => hv2 i (List.mem_append_right _ hi)), w2 vs (fun i hi => hv2 i (List.mem_append_left _ hi))]
theorem bindTs_len {S : Sto} : ∀ {ts : List Tg} {ds : List D} {l l2 : EL.Loc}, bindTs S ts ds l = some l2 → ts.length = ds.length
  | [], [], _, _, _ => rfl
  | [], _ :: _, _, _, h => by cases h
  | _ :: _, [], _, _, h => by cases h
  | t :: ts, d :: ds, l, l2, h => by
    have e2 : (bindT S t d l).bind (bindTs S ts ds) = some l2 := h
    obtain ⟨l1, h3, h4⟩ := Option.bind_eq_some_iff.mp e2
    rw [List.length_cons, List.length_cons, bindTs_len h4]
theorem jg_t {ts : List Tg} {j : Nat} (hK : J.G.K = X.K) (hc : X.calm = true) (hp : es.all plT = true) (hn : es.length = ts.length) (h : JGs X J es ts) : JG X J (.Tuple es j pos) (.t ts) := by
  have ha := asg_all (env := X.env) hp
  have hl : (assignEach es X.env).length = es.length := by rw [ha]; simp
  have hf : (assignEach es X.env).findIdx? (·.1) = none := by rw [ha]; exact List.findIdx?_eq_none_iff.mpr (fun z hz => (by obtain ⟨u, _, rfl⟩ := List.mem_map.mp hz; rfl))
  refine PG.imp (PG.or (pg_tup (n := es.length) hc h hl hf) (pg_unl (n := es.length) hc h hl hf)) fun v σ H Q ⟨F, κ, l, S, d, l2, s, r, e, q⟩ => ?_
  have e2 : (match get S d with
    | .tup ds => bindTs S ts ds l
    | .lst ds => bindTs S ts ds l
    | _ => none) = some l2 := e
  split at e2
  · rename_i ds hg
    obtain ⟨a, vs, rfl, h1, h2⟩ := s.rel.gTup r hg
    exact .inl ⟨a, vs, rfl, hK ▸ h1, by rw [h2.len, hn, bindTs_len e2], F, κ, l, S, ds, l2, s, h2, e2, q⟩
  · rename_i ds hg
    obtain ⟨a, vs, rfl, h1, h2⟩ := s.rel.gLst r hg
    exact .inr ⟨a, vs, rfl, SqL.of h1, by rw [h2.len, hn, bindTs_len e2], F, κ, l, S, ds, l2, s, h2, e2, q⟩
  · cases e2
/-! ### what is gone through -/
def ItD (J : Jx) (F : Hp) (κ : Nat → Addr) (n : Nat) (it : It) (how : Nat) (as : List D) : Prop :=
  ∀ F2 κ2 Bs S2 H2 i, Ext F κ n F2 κ2 → n ≤ S2.length → Rel J.G F2 κ2 Bs S2 H2 → match itemD how as S2 i with
    | none => True
    | some none => it.stop i H2
    | some (some d) => it.go i H2 ∧ ∀ x H', it.yld i H2 x H' → ∃ F3, Ext F2 κ2 S2.length F3 κ2 ∧ Rel J.G F3 κ2 Bs S2 H' ∧ Rep J.G F3 κ2 S2.length x d
def PostI (J : Jx) (how : Nat) (F : Hp) (κ : Nat → Addr) (n : Nat) (σ : L2.St) (R : It → Hp → Prop) : EL.R (List D) → Prop
  | .ok ds S1 => itemD how ds S1 0 ≠ none ∧ ∀ F' κ' H' it, Ext F κ n F' κ' → n ≤ S1.length → Rel J.G F' κ' J.Bs S1 H' → ItD J F' κ' S1.length it how ds → R it H'
  | .ex c fs S1 => ∀ F' κ' d H', J.G.xk c = true → Ext F κ n F' κ' → n ≤ S1.length → Rel J.G F' κ' J.Bs S1 H' → XD J.G F' κ' S1.length d fs → J.W (.ref (J.G.cm c)) d σ H'
  | .stuck => False
def canI (J : Jx) (how : Nat) (xs : List Ex) : TI := fun σ H R => ∃ F κ l S, Stt J F κ l S σ H ∧ PostI J how F κ S.length σ R (evEs J.C xs l S)
abbrev JI (X : Cx) (J : Jx) (tg e : PySem.Expr) (how : Nat) (xs : List Ex) : Prop := PI X tg e (canI J how xs)
theorem PI.imp {X : Cx} {tg e : PySem.Expr} {t t' : TI} (h : PI X tg e t) (k : ∀ σ H Q, t' σ H Q → t σ H Q) : PI X tg e t' := ⟨fun pins s σ H R I q => h.run pins s σ H R I (k σ H R q)⟩
theorem PI.or {X : Cx} {tg e : PySem.Expr} {t t' : TI} (h : PI X tg e t) (h' : PI X tg e t') : PI X tg e (fun σ H R => t σ H R ∨ t' σ H R) := ⟨fun pins s σ H R I q => q.elim (h.run pins s σ H R I) (h'.run pins s σ H R I)⟩
theorem rep_ext {F F2 : Hp} {κ κ2 : Nat → Addr} {n m : Nat} {v : V} {d : D} (r : Rep J.G F κ n v d) (e : Ext F κ n F2 κ2) (h : n ≤ m) : Rep J.G F2 κ2 m v d := r.mono e h
/-- the arguments told, for an iterator -/
theorem canI_args {how : Nat} {σ : L2.St} {H : Hp} {R : It → Hp → Prop} {F : Hp} {κ : Nat → Addr} {l : EL.Loc} {S : Sto} (s : Stt J F κ l S σ H) (p : PostI J how F κ S.length σ R (evEs J.C xs l S)) :
    Can J (RepA J.G) (evEs J.C xs) σ H (fun vs H1 => ∃ F1 κ1 S1 ds, Stt J F1 κ1 l S1 σ H1 ∧ RepA J.G F1 κ1 S1.length vs ds ∧ itemD how ds S1 0 ≠ none ∧ ∀ it, ItD J F1 κ1 S1.length it how ds → R it H1) := by
  refine ⟨F, κ, l, S, s, ?_⟩
  cases e : evEs J.C xs l S with
  | ok ds S1 =>
    rw [e] at p
    exact fun F1 κ1 v H1 e1 e2 e3 e4 => ⟨F1, κ1, S1, ds, s.step e1 e2 e3, e4, p.1, fun it hi => p.2 F1 κ1 H1 it e1 e2 e3 hi⟩
  | ex c fs S1 =>
    rw [e] at p
    exact p
  | stuck =>
    rw [e] at p
    exact p
theorem itl_of (hK : J.G.K = X.K) {F : Hp} {κ : Nat → Addr} {n : Nat} {a : Addr} {d : D} (r : Rep J.G F κ n (.ref a) d) {S : Sto} {H : Hp} {ys : List D} {l : EL.Loc} {σ : L2.St} (s : Stt J F κ l S σ H) (hn : n = S.length) (hg : get S d = .lst ys) : ItD J F κ n (Itl X.K a) 0 [d] := by
  subst hn
  intro F2 κ2 Bs2 S2 H2 i e h s2
  have r2 := r.mono e h
  show match item0 [d] S2 i with
    | none => True
    | some none => _
    | some (some d) => _
  unfold item0
  dsimp only
  have key : ∀ ys2, get S2 d = .lst ys2 → match some ys2[i]? with
      | none => True
      | some none => (Itl X.K a).stop i H2
      | some (some d) => (Itl X.K a).go i H2 ∧ ∀ x H', (Itl X.K a).yld i H2 x H' → ∃ F3, Ext F2 κ2 S2.length F3 κ2 ∧ Rel J.G F3 κ2 Bs2 S2 H' ∧ Rep J.G F3 κ2 S2.length x d := fun ys2 hg2 => by
    obtain ⟨a', vs, ea, h1, h2⟩ := s2.gLst r2 hg2
    cases ea
    cases q : ys2[i]? with
    | none =>
      have : ys2.length ≤ i := by
        rcases Nat.lt_or_ge i ys2.length with z | z
        · rw [List.getElem?_eq_getElem z] at q
          cases q
        · exact z
      exact ⟨vs, SqL.of h1, by rw [h2.len]; exact this⟩
    | some dd =>
      obtain ⟨u, h3, h4⟩ := h2.at q
      refine ⟨⟨vs, u, SqL.of h1, h3⟩, fun x H' hy => ?_⟩
      obtain ⟨e1, e2⟩ := hy
      subst e1
      have h5 := e2 vs (SqL.of h1)
      rw [h3] at h5
      cases h5
      exact ⟨F2, .refl, s2, h4⟩
  cases e2 : get S2 d with
  | lst ys2 => exact key ys2 e2
  | tup ys2 =>
    exfalso
    cases r with
    | cell lt =>
      obtain ⟨_, o, _, c⟩ := s2.cells _ _ (get_cell e2 (by intro z; cases z))
      cases c
    | lst _ _ => cases e2
    | tup _ _ => cases hg
    | _ => cases e2
  | str ys2 =>
    exfalso
    cases r with
    | cell lt =>
      obtain ⟨_, o, _, c⟩ := s2.cells _ _ (get_cell e2 (by intro z; cases z))
      cases c
    | _ => cases e2
  | _ => trivial
theorem itt_of (hK : J.G.K = X.K) {F : Hp} {κ : Nat → Addr} {n : Nat} {a : Addr} {d : D} (r : Rep J.G F κ n (.ref a) d) {S : Sto} {H : Hp} {ys : List D} {l : EL.Loc} {σ : L2.St} (s : Stt J F κ l S σ H) (hn : n = S.length) (hg : get S d = .tup ys) : ItD J F κ n (Itt X.K a) 0 [d] := by
  subst hn
  have ed : d = .tup ys := by
    cases r with
    | cell lt =>
      obtain ⟨_, o, _, c⟩ := s.rel.cells _ _ (get_cell hg (by intro z; cases z))
      cases c
    | tup _ _ => exact hg
    | _ => cases hg
  subst ed
  intro F2 κ2 Bs2 S2 H2 i e h s2
  have r2 := r.mono e h
  show match some ys[i]? with
    | none => True
    | some none => _
    | some (some d) => _
  obtain ⟨a', vs, ea, h1, h2⟩ := s2.gTup r2 (show get S2 (.tup ys) = .tup ys from rfl)
  cases ea
  rw [hK] at h1
  cases q : ys[i]? with
  | none =>
    have : ys.length ≤ i := by
      rcases Nat.lt_or_ge i ys.length with z | z
      · rw [List.getElem?_eq_getElem z] at q
        cases q
      · exact z
    exact ⟨vs, h1, by rw [h2.len]; exact this⟩
  | some dd =>
    obtain ⟨u, h3, h4⟩ := h2.at q
    refine ⟨⟨vs, u, h1, h3⟩, fun x H' hy => ?_⟩
    obtain ⟨e1, e2⟩ := hy
    subst e1
    have h5 := e2 vs h1
    rw [h3] at h5
    cases h5
    exact ⟨F2, .refl, s2, h4⟩
theorem its_of {F : Hp} {κ : Nat → Addr} {n : Nat} {z : List Nat} : ItD J F κ n (Its ⟨z.toArray⟩) 0 [.str z] := by
  intro F2 κ2 Bs2 S2 H2 i e h s2
  show match some ((z[i]?).map fun c => D.str [c]) with
    | none => True
    | some none => _
    | some (some d) => _
  have ez : (⟨z.toArray⟩ : Str).cps[i]? = z[i]? := by simp
  cases q : z[i]? with
  | none =>
    have : z.length ≤ i := by
      rcases Nat.lt_or_ge i z.length with z | z
      · rw [List.getElem?_eq_getElem z] at q
        cases q
      · exact z
    show z.toArray.size ≤ i
    simpa using this
  | some c =>
    have hl : i < z.length := (List.getElem?_eq_some_iff.mp q).1
    refine ⟨by show i < z.toArray.size; simpa using hl, fun x H' hy => ?_⟩
    obtain ⟨e1, c', e2, e3⟩ := hy
    subst e1 e3
    rw [ez, q] at e2
    cases e2
    exact ⟨F2, .refl, s2, .str [c]⟩
/-- a list, a tuple, a text -/
theorem ji_0 (hK : J.G.K = X.K) {tg : PySem.Expr} (ha : JE X J a x) : JI X J tg a 0 [x] := by
  refine PI.imp (PI.or (pi_list ha) (PI.or (pi_tup ha) (pi_str ha))) fun σ H R ⟨F, κ, l, S, s, p⟩ => ?_
  have p : PostI J 0 F κ S.length σ R ((evE J.C x l S).bind fun d S1 => .ok [d] S1) := p
  cases e : evE J.C x l S with
  | stuck =>
    rw [e] at p
    exact p.elim
  | ex c fs S1 =>
    rw [e] at p
    refine .inl ⟨F, κ, l, S, s, ?_⟩
    rw [e]
    exact p
  | ok d S1 =>
    rw [e] at p
    have p2 : itemD 0 [d] S1 0 ≠ none ∧ _ := p
    have hk : (∃ ys, get S1 d = .lst ys) ∨ (∃ ys, get S1 d = .tup ys) ∨ ∃ ys, get S1 d = .str ys := by
      have h0 : item0 [d] S1 0 ≠ none := p2.1
      unfold item0 at h0
      dsimp only at h0
      split at h0
      · rename_i ys hg; exact .inl ⟨ys, hg⟩
      · rename_i ys hg; exact .inr (.inl ⟨ys, hg⟩)
      · rename_i ys hg; exact .inr (.inr ⟨ys, hg⟩)
      · exact absurd rfl h0
    rcases hk with ⟨ys, hg⟩ | ⟨ys, hg⟩ | ⟨ys, hg⟩
    · refine .inl ⟨F, κ, l, S, s, ?_⟩
      rw [e]
      intro F1 κ1 v H1 e1 e2 e3 e4
      have s1 := s.step e1 e2 e3
      obtain ⟨q, vs, rfl, h1, h2⟩ := s1.rel.gLst e4 hg
      exact ⟨q, rfl, ⟨vs, SqL.of h1⟩, p2.2 F1 κ1 H1 _ e1 e2 e3 (itl_of hK e4 s1 rfl hg)⟩
    · refine .inr (.inl ⟨F, κ, l, S, s, ?_⟩)
      rw [e]
      intro F1 κ1 v H1 e1 e2 e3 e4
      have s1 := s.step e1 e2 e3
      obtain ⟨q, vs, rfl, h1, h2⟩ := s1.rel.gTup e4 hg
      exact ⟨q, rfl, ⟨vs, hK ▸ h1⟩, p2.2 F1 κ1 H1 _ e1 e2 e3 (itt_of hK e4 s1 rfl hg)⟩
    · refine .inr (.inr ⟨F, κ, l, S, s, ?_⟩)
      rw [e]
      intro F1 κ1 v H1 e1 e2 e3 e4
      have s1 := s.step e1 e2 e3
      have ed := get_str s1.rel e4 hg
      subst ed
      exact ⟨_, rep_str e4, p2.2 F1 κ1 H1 _ e1 e2 e3 its_of⟩
theorem itr_of {F : Hp} {κ : Nat → Addr} {n : Nat} {lo : Int} {m how : Nat} {ds : List D} (h : ∀ S i, itemD how ds S i = some (if i < m then some (.int (lo + i)) else none)) : ItD J F κ n (Itr lo m) how ds := by
  intro F2 κ2 Bs2 S2 H2 i e h' s2
  rw [h]
  by_cases hl : i < m
  · rw [if_pos hl]
    refine ⟨hl, fun x H' hy => ?_⟩
    obtain ⟨e1, e2⟩ := hy
    subst e1 e2
    exact ⟨F2, .refl, s2, .int _⟩
  · rw [if_neg hl]
    exact Nat.le_of_not_lt hl
theorem ji_1 {tg : PySem.Expr} (hg : Gl X "range") (hm : X.mg "range" = none) (hp : pl a = true) (ha : JA X J [a] xs) : JI X J tg (.Call (.Name "range" p1) [a] [] pos) 1 xs := by
  refine PI.imp (pi_range1 hg hm ha (by rw [star_pl hp]; rfl)) fun σ H R ⟨F, κ, l, S, s, p⟩ => ?_
  refine Can.mono (canI_args s p) fun vs H1 ⟨F1, κ1, S1, ds, s1, r, h9, q⟩ => ?_
  have h0 : item1 ds 0 ≠ none := h9
  clear h9
  unfold item1 at h0
  split at h0
  · rename_i n
    split at h0
    · rename_i hb
      obtain ⟨v, rfl, r1⟩ := repA1 r
      rw [rep_int r1]
      refine ⟨n, rfl, by omega, by omega, q _ (itr_of fun S i => ?_)⟩
      show item1 [.int n] i = _
      unfold item1
      dsimp only
      rw [if_pos hb, Int.zero_add]
    · exact absurd rfl h0
  · exact absurd rfl h0
theorem ji_2 {tg : PySem.Expr} (hg : Gl X "range") (hm : X.mg "range" = none) (hp : pl a = true) (hp2 : pl b = true) (ha : JA X J [a, b] xs) : JI X J tg (.Call (.Name "range" p1) [a, b] [] pos) 2 xs := by
  refine PI.imp (pi_range2 hg hm ha (by rw [star_pl hp, star_pl hp2]; rfl) (by rw [star_pl hp2]; rfl)) fun σ H R ⟨F, κ, l, S, s, p⟩ => ?_
  refine Can.mono (canI_args s p) fun vs H1 ⟨F1, κ1, S1, ds, s1, r, h9, q⟩ => ?_
  have h0 : item2 ds 0 ≠ none := h9
  clear h9
  unfold item2 at h0
  split at h0
  · rename_i n m
    split at h0
    · rename_i hb
      obtain ⟨v, v', rfl, r1, r2⟩ := repA2 r
      rw [rep_int r1, rep_int r2]
      refine ⟨n, m, rfl, by omega, q _ (itr_of fun S i => ?_)⟩
      show item2 [.int n, .int m] i = _
      unfold item2
      dsimp only
      rw [if_pos hb]
    · exact absurd rfl h0
  · exact absurd rfl h0
end
end EL

/-! ELk5: enumerate over a tuple. -/
namespace EL
open PySem L2 PySem.Spec PyProof.Rows
/-- a tuple's items, each in a new pair with its place -/
def IteT (K : PySem.W.Frag) (a : Addr) : It :=
  ⟨fun i H => ∃ (xs : List V) (x : V), SqT K H a xs ∧ xs[i]? = some x, fun i H v H' => ∃ T x, v = .ref T ∧ H T = none ∧ H' = upd H T (.tup [.int (i : Nat), x]) ∧ ∀ xs, SqT K H a xs → xs[i]? = some x, fun i H => ∃ xs : List V, SqT K H a xs ∧ xs.length ≤ i⟩
theorem turn_enumT {P : Program} {w : World} {K : PySem.W.Frag} {elts : List PySem.Expr} {kk : Nat} {tpos : Pos} (a e it : Addr) :
    Turn P w K (.Tuple elts kk tpos) (IteT K a) [e, it] e (fun i h => (∃ old, IsEnum h e it ((i : Nat) : Int) old) ∧ h.IsTupleIter it a i ∧ e ≠ it) where
  mem := by simp
  obj := fun i h st b hb => by
    obtain ⟨⟨old, he⟩, ⟨o, ho, _, hd⟩, _⟩ := st
    rcases (show b = e ∨ b = it by simpa using hb) with z | z
    · subst z
      exact ⟨_, he, fun v q => nomatch q⟩
    · subst z
      exact ⟨o, ho, fun v q => by rw [hd] at q; cases q⟩
  keep := fun i h h' st k => by
    obtain ⟨⟨old, he⟩, hi, hne⟩ := st
    exact ⟨⟨old, k e (by simp) _ he⟩, hi.at fun o q => k it (by simp) o q, hne⟩
  item := by
    intro X hP hw hK hc i pins s σ H E I hf st hg
    subst hP hw hK
    obtain ⟨⟨old, he⟩, hit, hne⟩ := st
    obtain ⟨xs, x, hq, hx⟩ := hg
    obtain ⟨its, rv, p, hz⟩ := I.tuple hq
    obtain ⟨u, hu, ru⟩ := rv.get hx
    have le : e < s.heap.objs.size := Heap.lt_size he
    have li : it < s.heap.objs.size := by
      obtain ⟨_, q, _⟩ := id hit
      exact Heap.lt_size q
    have na : a ≠ it := by
      intro z
      subst z
      obtain ⟨o1, q1, c1, _⟩ := id hit
      obtain ⟨o2, q2, c2, _⟩ := id p
      rw [q1] at q2
      cases q2
      rw [c1] at c2
      exact absurd c2 (by decide)
    have nea : e ≠ a := by
      intro z
      subst z
      obtain ⟨o2, q2, c2, _⟩ := id p
      rw [show s.heap.get? e = _ from he] at q2
      cases q2
      exact absurd (show Value.type "enumerate" = Value.type "tuple" from c2) (by decide)
    have D := Draws.tuple (prog := X.prog) (w := X.w) (A := X.A.in1) (show X.A.in1.handled = none from I.ok.hd hc) it a na its.toArray
    have hlt : i < its.toArray.size := by
      have := (List.getElem?_eq_some_iff.mp hu).1
      simpa using this
    refine wpAny_pyNext_enum_itemD D he ⟨hit, p⟩ hlt hne (by simpa using ⟨hne, nea⟩) fun v h' tk hv ho hit' hT hsz hk => ?_
    have hv2 : v = u := by
      have h2 : its.toArray[i]? = some v := hv
      have h3 : its.toArray[i]? = some u := by simpa using hu
      rw [h3] at h2
      cases h2
      rfl
    subst hv2
    refine ⟨_, rfl, wpAny_letOwnedTupleGo_enum (s := { s with heap := h', toks := tk + 1 }) ho fun h2 he' sb => ?_⟩
    have tup : h2.get? s.heap.objs.size = some { cls := .type "tuple", data := .seq #[.int i tk, v] } := (sb.2 _ (Nat.ne_of_gt le)).trans hT
    have new : ObjOk X.prog X.w (upd H s.heap.objs.size (.tup [.int (i : Nat), x])) h2 s.heap.objs.size (.tup [.int (i : Nat), x]) :=
      ⟨by show 2 ≤ sizeLine; decide, [.int i tk, v], .cons ⟨_, rfl⟩ (.cons ru .nil), ⟨_, tup, rfl, _, rfl⟩⟩
    have J : Inv X pins σ (upd H s.heap.objs.size (.tup [.int (i : Nat), x])) { s with heap := h2, toks := tk + 1 } :=
      I.turnedNew (ch := [e, it]) (fun b o hb q => (sb.2 b fun z => hb (by simp [z])).trans (hk b o (fun z => hb (by simp [z])) (fun z => hb (by simp [z])) q)) hf (Nat.le_refl _) new
    refine ⟨.ref s.heap.objs.size, _, J, rfl, ⟨_, x, rfl, I.hok.fresh (Nat.le_refl _), rfl, fun ys hy => by rw [I.tuple_inj hy hq]; exact hx⟩, ⟨⟨v, ?_⟩, ?_, hne⟩, fun b hb => ?_⟩
    · have e1 : ((i + 1 : Nat) : Int) = (i : Int) + 1 := by omega
      rw [e1]
      exact he'
    · exact hit'.1.at fun o q => (sb.2 it (Ne.symm hne)).trans q
    · have lb : b < s.heap.objs.size := by
        rcases (show b = e ∨ b = it by simpa using hb) with z | z
        · rw [z]; exact le
        · rw [z]; exact li
      rw [upd_ne (Nat.ne_of_lt lb)]
      exact (hf b hb).1
  done := by
    intro X hP hw hK hc i pins s σ H E I hf st hg
    subst hP hw hK
    obtain ⟨⟨old, he⟩, hit, hne⟩ := st
    obtain ⟨xs, hq, hx⟩ := hg
    obtain ⟨its, rv, p, hz⟩ := I.tuple hq
    obtain ⟨f0, f1, f2, f3, f4, f5⟩ := hf it (by simp)
    have hl := rv.length
    have hn : ∀ {Q : Option Value → Shared → Prop}, (∀ h', Heap.ExtBut it s.heap h' → Q none { s with heap := h' }) → wpAny (model X.prog X.w) X.A (pyNext (.ref e)) Q E s := fun {Q} q => by
      have hT : s.TypeIs (.ref e) "enumerate" := ⟨_, he, rfl⟩
      unfold pyNext
      refine wpAny_bind (wpAny_attempt ?_)
      refine wpAny_callSpecial?_slot (name := Str.ofString "__next__") hT F.slot_enumerate_next ?_
      refine wpAny_call_entry F.slot_enumerate_next hT F.entry_enumerate_next ?_ (F.args_enumerate_next_1 _)
      change wpAny (model X.prog X.w) X.A.in1 (field (Value.ref e) 2 >>= fun u => _) _ _ s
      refine wpAny_bind (wpAny_field he rfl (x := .ref it) rfl (wpAny_bind (wpAny_nextOf_tuple_end (show X.A.in1.handled = none from I.ok.hd hc) hit p (by simp; omega) fun h2 e2 eb ⟨o, ho, hco⟩ => ?_)))
      exact wpAny_bind (wpAny_isInstance (T := "StopIteration") (b := true) ⟨o, ho, hco⟩ isSubtype_stop (wpAny_pure (q _ eb)))
    exact hn fun h' eb => ⟨rfl, I.turned (t' := s.toks) (fun b o hb q => eb b o hb q) f0 f1 f3 f4 f5⟩
  self := fun A i s Q E st h => let ⟨⟨_, he⟩, _⟩ := st; wpAny_pyIter_enum he h
set_option maxHeartbeats 1000000 in
theorem meets_enumT (t : Addr) (items : Array Value) :
    Meets (Builtin.«enumerate.__new__» ⟨[.type "enumerate", .ref t], []⟩) (fun _ R s => s.heap.IsTuple t items ∧
      R (.ok (.ret (.ref (s.heap.push { cls := .type "tuple_iterator", data := .fields #[.ref t, .int 0 0] }).objs.size)))
        { s with heap := (s.heap.push { cls := .type "tuple_iterator", data := .fields #[.ref t, .int 0 0] }).push { cls := .type "enumerate", data := .fields #[.none, .bool false, .ref s.heap.objs.size, rawInt 0, .none, .none] } }) :=
  .of_wp fun prog w A R s h => by
    obtain ⟨hp, g, d, tk, os⟩ := s; obtain ⟨hl, h⟩ := h
    have hsub := sub_enumerate
    have q1 : ∀ {A' : Around} {E : Value → Shared → Prop} {Q : Value → Shared → Prop}, Q (.ref hp.objs.size) ⟨hp.push { cls := .type "tuple_iterator", data := .fields #[.ref t, .int 0 0] }, g, d, tk, os⟩ → wpAny (model prog w) A' (pyIter (.ref t)) Q E ⟨hp, g, d, tk, os⟩ :=
      fun q => wpAny_pyIter_tuple (s := ⟨hp, g, d, tk, os⟩) hl q
    wp_walk
    refine wpAny_stack_any fun st => wpAny_pure ?_
    split
    · rename_i c _ _ _ _ _
      cases (c == Value.type "enumerate")
      · wp_walk using q1
        exact ⟨_, rfl, h⟩
      · wp_walk using q1
        exact ⟨_, rfl, h⟩
    · wp_walk using q1
      exact ⟨_, rfl, h⟩
theorem call_enumT {prog : Program} {w : World} {A : Around} {E : Value → Shared → Prop} {s : Shared} {t : Addr} {items : Array Value} {Q : Value → Shared → Prop} (hL : s.heap.IsTuple t items)
    (h : ∀ h', IsEnum h' (s.heap.objs.size + 1) s.heap.objs.size 0 .none → h'.IsTupleIter s.heap.objs.size t 0 → h'.objs.size = s.heap.objs.size + 2 →
      (∀ b o, s.heap.get? b = some o → h'.get? b = some o) → Q (.ref (s.heap.objs.size + 1)) { s with heap := h' }) :
    wpAny (model prog w) A (call (.type "enumerate") [.ref t]) Q E s := by
  refine callType_new F.called_enumerate (by decide) (F.typeCall_enumerate_1 _) (F.newCall_enumerate_1 _) (fun obj => F.args_object_init_2 obj _) F.entry_enumerate_new
    (meets_enumT t items) ⟨hL, ?_⟩
  have hz : (s.heap.push { cls := .type "tuple_iterator", data := .fields #[.ref t, .int 0 0] }).objs.size = s.heap.objs.size + 1 := Heap.size_push ..
  show _ ∧ _
  rw [hz]
  have he : IsEnum ((s.heap.push { cls := .type "tuple_iterator", data := .fields #[.ref t, .int 0 0] }).push
      { cls := .type "enumerate", data := .fields #[.none, .bool false, .ref s.heap.objs.size, rawInt 0, .none, .none] }) (s.heap.objs.size + 1) s.heap.objs.size 0 .none := by
    have := Heap.get?_push_size (s.heap.push { cls := .type "tuple_iterator", data := .fields #[.ref t, .int 0 0] })
      (o := { cls := .type "enumerate", data := .fields #[.none, .bool false, .ref s.heap.objs.size, rawInt 0, .none, .none] }) rfl
    rw [hz] at this; exact this
  refine ⟨⟨_, he, rfl⟩, h _ he ⟨_, Heap.get?_push_of_some _ (Heap.get?_push_size _ rfl), rfl, rfl⟩ (by rw [Heap.size_push, hz]) fun b o x => Heap.get?_push_of_some _ (Heap.get?_push_of_some _ x)⟩
def iEnumT (K : PySem.W.Frag) (ta : TA) : TI := fun σ H R => ta σ H fun vs H1 => ∃ a xs, vs = [.ref a] ∧ SqT K H1 a xs ∧ R (IteT K a) H1
theorem pi_enumT {X : Cx} {e : PySem.Expr} {ta : TA} {p pos tpos : Pos} {elts : List PySem.Expr} {kk : Nat} (hg : Gl X "enumerate") (hm : X.mg "enumerate" = none) (ha : PA X [e] ta) (hs : starEach [e] X.env = [(false, eval e X.env)]) :
    PI X (.Tuple elts kk tpos) (.Call (.Name "enumerate" p) [e] [] pos) (iEnumT X.K ta) := by
  refine ⟨fun pins s σ H R I h => Call_ (ld_blt I hg hm boot_enumerate (PyProof.Rows.callWith_type1 (thn (ha.run pos pins s σ H _ I h) fun us s1 ⟨vs, H1, I1, r1, a, xs, ex, hq, q⟩ => ?_) hs rfl))⟩
  subst ex
  cases r1 with
  | cons r rr =>
    cases rr
    cases r
    obtain ⟨its, rv, p', hz⟩ := I1.tuple hq
    refine call_enumT p' fun h' he hit hsz hk => wpAny_pyIter_enum he ?_
    have J : Inv X pins σ H1 { s1 with heap := h' } := I1.kept (t' := s1.toks) hk
    refine ⟨s1.heap.objs.size + 1, [s1.heap.objs.size + 1, s1.heap.objs.size], _, _, H1, rfl, J, turn_enumT a (s1.heap.objs.size + 1) s1.heap.objs.size, ⟨⟨.none, he⟩, hit, Nat.succ_ne_self _⟩, fun b hb => ?_, q⟩
    have hle : s1.heap.objs.size ≤ b := by
      rcases (show b = s1.heap.objs.size + 1 ∨ b = s1.heap.objs.size by simpa using hb) with z | z
      · rw [z]; exact Nat.le_add_right _ _
      · rw [z]; exact Nat.le_refl _
    exact I1.fpOk hle (I1.hok.fresh hle)
end EL

/-! ELk3: enumerate over lists and texts, zip of two lists. -/
namespace EL
open PySem L2 PySem.Spec PyProof.Rows
/-- a text's signs, each in a new pair with its place -/
def IteS (x : Str) : It := ⟨fun i _ => i < x.cps.size, fun i H v H' => ∃ T c, v = .ref T ∧ H T = none ∧ H' = upd H T (.tup [.int (i : Nat), .str ⟨#[c]⟩]) ∧ x.cps[i]? = some c, fun i _ => x.cps.size ≤ i⟩
theorem turn_enumS {P : Program} {w : World} {K : PySem.W.Frag} {elts : List PySem.Expr} {kk : Nat} {tpos : Pos} (e it : Addr) (x : Str) (t : Tok) (ty : String) (hty : ty = "str_ascii_iterator" ∨ ty = "str_iterator") :
    Turn P w K (.Tuple elts kk tpos) (IteS x) [e, it] e (fun i h => (∃ old, IsEnum h e it ((i : Nat) : Int) old) ∧ h.IsStrIter it ty x t i ∧ e ≠ it) where
  mem := by simp
  obj := fun i h st b hb => by
    obtain ⟨⟨old, he⟩, ⟨o, ho, _, hd⟩, _⟩ := st
    rcases (show b = e ∨ b = it by simpa using hb) with z | z
    · subst z
      exact ⟨_, he, fun v q => nomatch q⟩
    · subst z
      exact ⟨o, ho, fun v q => by rw [hd] at q; cases q⟩
  keep := fun i h h' st k => by
    obtain ⟨⟨old, he⟩, ⟨o, ho, r⟩, hne⟩ := st
    exact ⟨⟨old, k e (by simp) _ he⟩, ⟨o, k it (by simp) o ho, r⟩, hne⟩
  item := by
    intro X hP hw hK hc i pins s σ H E I hf st hg
    subst hP hw hK
    obtain ⟨⟨old, he⟩, hit, hne⟩ := st
    have D : Draws X.prog X.w X.A.in1 it [it] x.cps.size (fun i v => ∃ c u, x.cps[i]? = some c ∧ v = .str ⟨#[c]⟩ u) (fun i h => h.IsStrIter it ty x t i) := by
      rcases hty with q | q
      · rw [q]; exact Draws.strAscii (A := X.A.in1) (show X.A.in1.handled = none from I.ok.hd hc) it x t
      · rw [q]; exact Draws.strWide (A := X.A.in1) (show X.A.in1.handled = none from I.ok.hd hc) it x t
    have le : e < s.heap.objs.size := Heap.lt_size he
    have li : it < s.heap.objs.size := by
      obtain ⟨_, q, _⟩ := id hit
      exact Heap.lt_size q
    refine wpAny_pyNext_enum_itemD D he hit hg hne (by simpa using hne) fun v h' tk hv ho hit' hT hsz hk => ?_
    obtain ⟨c, u, hcx, rfl⟩ := hv
    refine ⟨_, rfl, wpAny_letOwnedTupleGo_enum (s := { s with heap := h', toks := tk + 1 }) ho fun h2 he' sb => ?_⟩
    have tup : h2.get? s.heap.objs.size = some { cls := .type "tuple", data := .seq #[.int i tk, .str ⟨#[c]⟩ u] } := (sb.2 _ (Nat.ne_of_gt le)).trans hT
    have new : ObjOk X.prog X.w (upd H s.heap.objs.size (.tup [.int (i : Nat), .str ⟨#[c]⟩])) h2 s.heap.objs.size (.tup [.int (i : Nat), .str ⟨#[c]⟩]) :=
      ⟨by show 2 ≤ sizeLine; decide, [.int i tk, .str ⟨#[c]⟩ u], .cons ⟨_, rfl⟩ (.cons ⟨_, rfl⟩ .nil), ⟨_, tup, rfl, _, rfl⟩⟩
    have J : Inv X pins σ (upd H s.heap.objs.size (.tup [.int (i : Nat), .str ⟨#[c]⟩])) { s with heap := h2, toks := tk + 1 } :=
      I.turnedNew (ch := [e, it]) (fun b o hb q => (sb.2 b fun z => hb (by simp [z])).trans (hk b o (fun z => hb (by simp [z])) (fun z => hb (by simp [z])) q)) hf (Nat.le_refl _) new
    refine ⟨.ref s.heap.objs.size, _, J, rfl, ⟨_, c, rfl, I.hok.fresh (Nat.le_refl _), rfl, hcx⟩, ⟨⟨.str ⟨#[c]⟩ u, ?_⟩, ?_, hne⟩, fun b hb => ?_⟩
    · have e1 : ((i + 1 : Nat) : Int) = (i : Int) + 1 := by omega
      rw [e1]
      exact he'
    · obtain ⟨o, q1, q2⟩ := hit'
      exact ⟨o, (sb.2 it (Ne.symm hne)).trans q1, q2⟩
    · have lb : b < s.heap.objs.size := by
        rcases (show b = e ∨ b = it by simpa using hb) with z | z
        · rw [z]; exact le
        · rw [z]; exact li
      rw [upd_ne (Nat.ne_of_lt lb)]
      exact (hf b hb).1
  done := by
    intro X hP hw hK hc i pins s σ H E I hf st hg
    subst hP hw hK
    obtain ⟨⟨old, he⟩, hit, hne⟩ := st
    obtain ⟨f0, f1, f2, f3, f4, f5⟩ := hf it (by simp)
    have hn : ∀ {Q : Option Value → Shared → Prop}, (∀ h', Heap.ExtBut it s.heap h' → Q none { s with heap := h' }) → wpAny (model X.prog X.w) X.A (pyNext (.ref e)) Q E s := fun {Q} q => by
      have hx : x.cps[i]? = none := Array.getElem?_eq_none hg
      have hT : s.TypeIs (.ref e) "enumerate" := ⟨_, he, rfl⟩
      have nx : ∀ {Q2 : Value → Shared → Prop} {E2 : Value → Shared → Prop}, (∀ h' e2, Heap.ExtBut it s.heap h' → (∃ o, h'.get? e2 = some o ∧ o.cls = .type "StopIteration") → E2 (.ref e2) { s with heap := h' }) → wpAny (model X.prog X.w) X.A.in1 (Builtin.SmallTypes.nextOf (.ref it)) Q2 E2 s := fun {Q2 E2} q2 => by
        rcases hty with z | z
        · rw [z] at hit
          exact wpAny_nextOf_ascii_end (I.ok.hd hc) hit hx q2
        · rw [z] at hit
          exact wpAny_nextOf_wide_end (I.ok.hd hc) hit hx q2
      unfold pyNext
      refine wpAny_bind (wpAny_attempt ?_)
      refine wpAny_callSpecial?_slot (name := Str.ofString "__next__") hT F.slot_enumerate_next ?_
      refine wpAny_call_entry F.slot_enumerate_next hT F.entry_enumerate_next ?_ (F.args_enumerate_next_1 _)
      change wpAny (model X.prog X.w) X.A.in1 (field (Value.ref e) 2 >>= fun u => _) _ _ s
      refine wpAny_bind (wpAny_field he rfl (x := .ref it) rfl (wpAny_bind (nx fun h2 e2 eb ⟨o, ho, hco⟩ => ?_)))
      exact wpAny_bind (wpAny_isInstance (T := "StopIteration") (b := true) ⟨o, ho, hco⟩ isSubtype_stop (wpAny_pure (q _ eb)))
    exact hn fun h' eb => ⟨rfl, I.turned (t' := s.toks) (fun b o hb q => eb b o hb q) f0 f1 f3 f4 f5⟩
  self := fun A i s Q E st h => let ⟨⟨_, he⟩, _⟩ := st; wpAny_pyIter_enum he h
def iEnumS (ta : TA) : TI := fun σ H R => ta σ H fun vs H1 => ∃ x, vs = [.str x] ∧ R (IteS x) H1
theorem pi_enumS {X : Cx} {e : PySem.Expr} {ta : TA} {p pos tpos : Pos} {elts : List PySem.Expr} {kk : Nat} (hg : Gl X "enumerate") (hm : X.mg "enumerate" = none) (ha : PA X [e] ta) (hs : starEach [e] X.env = [(false, eval e X.env)]) :
    PI X (.Tuple elts kk tpos) (.Call (.Name "enumerate" p) [e] [] pos) (iEnumS ta) := by
  refine ⟨fun pins s σ H R I h => Call_ (ld_blt I hg hm boot_enumerate (PyProof.Rows.callWith_type1 (thn (ha.run pos pins s σ H _ I h) fun us s1 ⟨vs, H1, I1, r1, x, ex, q⟩ => ?_) hs rfl))⟩
  subst ex
  cases r1 with
  | cons r rr =>
    cases rr
    obtain ⟨t, rfl⟩ := r
    refine call_enumerate_str fun h' he hit hsz hk => wpAny_pyIter_enum he ?_
    have J : Inv X pins σ H1 { s1 with heap := h' } := I1.kept (t' := s1.toks) hk
    have hty : strIterType x = "str_ascii_iterator" ∨ strIterType x = "str_iterator" := by
      unfold strIterType
      split
      · exact .inl rfl
      · exact .inr rfl
    refine ⟨s1.heap.objs.size + 1, [s1.heap.objs.size + 1, s1.heap.objs.size], _, _, H1, rfl, J, turn_enumS (s1.heap.objs.size + 1) s1.heap.objs.size x t _ hty, ⟨⟨.none, he⟩, hit, Nat.succ_ne_self _⟩, fun b hb => ?_, q⟩
    have hle : s1.heap.objs.size ≤ b := by
      rcases (show b = s1.heap.objs.size + 1 ∨ b = s1.heap.objs.size by simpa using hb) with z | z
      · rw [z]; exact Nat.le_add_right _ _
      · rw [z]; exact Nat.le_refl _
    exact I1.fpOk hle (I1.hok.fresh hle)
section
variable {X : Cx} {J : Jx} {p1 pos tpos : Pos} {a : PySem.Expr} {xs : List Ex} {elts : List PySem.Expr} {kk : Nat}
theorem ite_of (hK : J.G.K = X.K) {F : Hp} {κ : Nat → Addr} {n : Nat} {a : Addr} {d : D} (r : Rep J.G F κ n (.ref a) d) {S : Sto} {H : Hp} {ys : List D} {l : EL.Loc} {σ : L2.St} (s : Stt J F κ l S σ H) (hn : n = S.length) (hg : get S d = .lst ys) : ItD J F κ n (Ite X.K a) 3 [d] := by
  subst hn
  intro F2 κ2 Bs2 S2 H2 i e h s2
  have r2 := r.mono e h
  show match item3 [d] S2 i with
    | none => True
    | some none => _
    | some (some d) => _
  unfold item3
  dsimp only
  have key : ∀ ys2, get S2 d = .lst ys2 → match some ((ys2[i]?).map fun d => D.tup [.int i, d]) with
      | none => True
      | some none => (Ite X.K a).stop i H2
      | some (some d) => (Ite X.K a).go i H2 ∧ ∀ x H', (Ite X.K a).yld i H2 x H' → ∃ F3, Ext F2 κ2 S2.length F3 κ2 ∧ Rel J.G F3 κ2 Bs2 S2 H' ∧ Rep J.G F3 κ2 S2.length x d := fun ys2 hg2 => by
    obtain ⟨a', vs, ea, h1, h2⟩ := s2.gLst r2 hg2
    cases ea
    cases q : ys2[i]? with
    | none =>
      have : ys2.length ≤ i := by
        rcases Nat.lt_or_ge i ys2.length with z | z
        · rw [List.getElem?_eq_getElem z] at q
          cases q
        · exact z
      exact ⟨vs, SqL.of h1, by rw [h2.len]; exact this⟩
    | some dd =>
      obtain ⟨u, h3, h4⟩ := h2.at q
      refine ⟨⟨vs, u, SqL.of h1, h3⟩, fun x H' hy => ?_⟩
      obtain ⟨T, x2, rfl, hT, rfl, e2⟩ := hy
      have h5 := e2 vs (SqL.of h1)
      rw [h3] at h5
      cases h5
      obtain ⟨R2, e3⟩ := s2.new (o := .tup [.int (i : Nat), u]) hT
      exact ⟨_, e3, R2, .tup (.inl (.inl upd_same)) (.cons (.int _) (.cons (h4.mono e3 (Nat.le_refl _)) .nil))⟩
  cases e2 : get S2 d with
  | lst ys2 => exact key ys2 e2
  | str ys2 =>
    exfalso
    cases r with
    | cell lt =>
      obtain ⟨_, o, _, c⟩ := s2.cells _ _ (get_cell e2 (by intro z; cases z))
      cases c
    | _ => cases e2
  | tup ys2 =>
    exfalso
    cases r with
    | cell lt =>
      obtain ⟨_, o, _, c⟩ := s2.cells _ _ (get_cell e2 (by intro z; cases z))
      cases c
    | tup _ _ => cases hg
    | _ => cases e2
  | _ => trivial
theorem itet_of (hK : J.G.K = X.K) {F : Hp} {κ : Nat → Addr} {n : Nat} {a : Addr} {d : D} (r : Rep J.G F κ n (.ref a) d) {S : Sto} {H : Hp} {ys : List D} {l : EL.Loc} {σ : L2.St} (s : Stt J F κ l S σ H) (hn : n = S.length) (hg : get S d = .tup ys) : ItD J F κ n (IteT X.K a) 3 [d] := by
  subst hn
  have ed : d = .tup ys := by
    cases r with
    | cell lt =>
      obtain ⟨_, o, _, c⟩ := s.rel.cells _ _ (get_cell hg (by intro z; cases z))
      cases c
    | tup _ _ => exact hg
    | _ => cases hg
  subst ed
  intro F2 κ2 Bs2 S2 H2 i e h s2
  have r2 := r.mono e h
  show match some ((ys[i]?).map fun d => D.tup [.int i, d]) with
    | none => True
    | some none => _
    | some (some d) => _
  obtain ⟨a', vs, ea, h1, h2⟩ := s2.gTup r2 (show get S2 (.tup ys) = .tup ys from rfl)
  cases ea
  rw [hK] at h1
  cases q : ys[i]? with
  | none =>
    have : ys.length ≤ i := by
      rcases Nat.lt_or_ge i ys.length with z | z
      · rw [List.getElem?_eq_getElem z] at q
        cases q
      · exact z
    exact ⟨vs, h1, by rw [h2.len]; exact this⟩
  | some dd =>
    obtain ⟨u, h3, h4⟩ := h2.at q
    refine ⟨⟨vs, u, h1, h3⟩, fun x H' hy => ?_⟩
    obtain ⟨T, x2, rfl, hT, rfl, e2⟩ := hy
    have h5 := e2 vs h1
    rw [h3] at h5
    cases h5
    obtain ⟨R2, e3⟩ := s2.new (o := .tup [.int (i : Nat), u]) hT
    exact ⟨_, e3, R2, .tup (.inl (.inl upd_same)) (.cons (.int _) (.cons (h4.mono e3 (Nat.le_refl _)) .nil))⟩
theorem ites_of {F : Hp} {κ : Nat → Addr} {n : Nat} {z : List Nat} : ItD J F κ n (IteS ⟨z.toArray⟩) 3 [.str z] := by
  intro F2 κ2 Bs2 S2 H2 i e h s2
  show match some ((z[i]?).map fun c => D.tup [.int i, .str [c]]) with
    | none => True
    | some none => _
    | some (some d) => _
  have ez : (⟨z.toArray⟩ : Str).cps[i]? = z[i]? := by simp
  cases q : z[i]? with
  | none =>
    have : z.length ≤ i := by
      rcases Nat.lt_or_ge i z.length with z | z
      · rw [List.getElem?_eq_getElem z] at q
        cases q
      · exact z
    show z.toArray.size ≤ i
    simpa using this
  | some c =>
    have hl : i < z.length := (List.getElem?_eq_some_iff.mp q).1
    refine ⟨by show i < z.toArray.size; simpa using hl, fun x H' hy => ?_⟩
    obtain ⟨T, c', rfl, hT, rfl, e2⟩ := hy
    rw [ez, q] at e2
    cases e2
    obtain ⟨R2, e3⟩ := s2.new (o := .tup [.int (i : Nat), .str ⟨#[c]⟩]) hT
    exact ⟨_, e3, R2, .tup (.inl (.inl upd_same)) (.cons (.int _) (.cons (.str [c]) .nil))⟩
theorem ji_3 (hK : J.G.K = X.K) (hg : Gl X "enumerate") (hm : X.mg "enumerate" = none) (hp : pl a = true) (ha : JA X J [a] xs) : JI X J (.Tuple elts kk tpos) (.Call (.Name "enumerate" p1) [a] [] pos) 3 xs := by
  have hs : starEach [a] X.env = [(false, eval a X.env)] := by rw [star_pl hp]; rfl
  refine PI.imp (PI.or (pi_enum hg hm ha hs) (PI.or (pi_enumS hg hm ha hs) (pi_enumT hg hm ha hs))) fun σ H R ⟨F, κ, l, S, s, p⟩ => ?_
  cases e : evEs J.C xs l S with
  | stuck =>
    rw [e] at p
    exact p.elim
  | ex c fs S1 =>
    rw [e] at p
    refine .inl ⟨F, κ, l, S, s, ?_⟩
    rw [e]
    exact p
  | ok ds S1 =>
    rw [e] at p
    have h0 : item3 ds S1 0 ≠ none := p.1
    unfold item3 at h0
    split at h0
    · rename_i d
      split at h0
      · rename_i ys hg2
        refine .inl ⟨F, κ, l, S, s, ?_⟩
        rw [e]
        intro F1 κ1 v H1 e1 e2 e3 e4
        have s1 := s.step e1 e2 e3
        obtain ⟨v0, rfl, r0⟩ := repA1 e4
        obtain ⟨q, vs, rfl, h1, h2⟩ := s1.rel.gLst r0 hg2
        exact ⟨q, vs, rfl, SqL.of h1, p.2 F1 κ1 H1 _ e1 e2 e3 (ite_of hK r0 s1 rfl hg2)⟩
      · rename_i ys hg2
        refine .inr (.inr ⟨F, κ, l, S, s, ?_⟩)
        rw [e]
        intro F1 κ1 v H1 e1 e2 e3 e4
        have s1 := s.step e1 e2 e3
        obtain ⟨v0, rfl, r0⟩ := repA1 e4
        obtain ⟨q, vs, rfl, h1, h2⟩ := s1.rel.gTup r0 hg2
        rw [hK] at h1
        exact ⟨q, vs, rfl, h1, p.2 F1 κ1 H1 _ e1 e2 e3 (itet_of hK r0 s1 rfl hg2)⟩
      · rename_i ys hg2
        refine .inr (.inl ⟨F, κ, l, S, s, ?_⟩)
        rw [e]
        intro F1 κ1 v H1 e1 e2 e3 e4
        have s1 := s.step e1 e2 e3
        obtain ⟨v0, rfl, r0⟩ := repA1 e4
        have ed := get_str s1.rel r0 hg2
        subst ed
        exact ⟨_, by rw [rep_str r0], p.2 F1 κ1 H1 _ e1 e2 e3 ites_of⟩
      · exact absurd rfl h0
    · exact absurd rfl h0
end
/-! zip of two lists -/
theorem itz_of {J : Jx} {X : Cx} {F : Hp} {κ : Nat → Addr} {n : Nat} {a b : Addr} {d d' : D} (r : Rep J.G F κ n (.ref a) d) (r' : Rep J.G F κ n (.ref b) d') {S : Sto} (hn : n = S.length) : ItD J F κ n (Itz X.K a b) 4 [d, d'] := by
  subst hn
  intro F2 κ2 Bs2 S2 H2 i e h s2
  have r2 := r.mono e h
  have r2' := r'.mono e h
  show match item4 [d, d'] S2 i with
    | none => True
    | some none => _
    | some (some d) => _
  unfold item4
  dsimp only
  have key : ∀ xs ys, get S2 d = .lst xs → get S2 d' = .lst ys → match some (match xs[i]?, ys[i]? with
      | some a, some b => some (D.tup [a, b])
      | _, _ => none) with
      | none => True
      | some none => (Itz X.K a b).stop i H2
      | some (some d) => (Itz X.K a b).go i H2 ∧ ∀ x H', (Itz X.K a b).yld i H2 x H' → ∃ F3, Ext F2 κ2 S2.length F3 κ2 ∧ Rel J.G F3 κ2 Bs2 S2 H' ∧ Rep J.G F3 κ2 S2.length x d := fun xs ys hg hg' => by
    obtain ⟨a', vs, ea, h1, h2⟩ := s2.gLst r2 hg
    cases ea
    obtain ⟨b', us, eb, h1', h2'⟩ := s2.gLst r2' hg'
    cases eb
    have stop : (xs.length ≤ i ∨ ys.length ≤ i) → (Itz X.K a b).stop i H2 := fun hq => ⟨vs, us, SqL.of h1, SqL.of h1', by rw [h2.len, h2'.len]; exact hq⟩
    cases q : xs[i]? with
    | none => exact stop (.inl (List.getElem?_eq_none_iff.mp q))
    | some dd =>
      cases q' : ys[i]? with
      | none => exact stop (.inr (List.getElem?_eq_none_iff.mp q'))
      | some dd' =>
        obtain ⟨u, h3, h4⟩ := h2.at q
        obtain ⟨u', h3', h4'⟩ := h2'.at q'
        refine ⟨⟨vs, us, u, u', SqL.of h1, SqL.of h1', h3, h3'⟩, fun x H' hy => ?_⟩
        obtain ⟨T, x2, y2, rfl, hT, rfl, e2, e2'⟩ := hy
        have h5 := e2 vs (SqL.of h1)
        rw [h3] at h5
        cases h5
        have h5' := e2' us (SqL.of h1')
        rw [h3'] at h5'
        cases h5'
        obtain ⟨R2, e3⟩ := s2.new (o := .tup [u, u']) hT
        exact ⟨_, e3, R2, .tup (.inl (.inl upd_same)) (.cons (h4.mono e3 (Nat.le_refl _)) (.cons (h4'.mono e3 (Nat.le_refl _)) .nil))⟩
  cases e1 : get S2 d with
  | lst xs =>
    cases e2 : get S2 d' with
    | lst ys => exact key xs ys e1 e2
    | _ => trivial
  | _ => trivial
theorem ji_4 {J : Jx} {X : Cx} {a b : PySem.Expr} {xs : List Ex} {elts : List PySem.Expr} {kk : Nat} {tpos p1 pos : Pos} (hK : J.G.K = X.K) (hg : Gl X "zip") (hm : X.mg "zip" = none) (hp : pl a = true) (hp2 : pl b = true) (ha : JA X J [a, b] xs) : JI X J (.Tuple elts kk tpos) (.Call (.Name "zip" p1) [a, b] [] pos) 4 xs := by
  refine PI.imp (pi_zip hg hm ha (by rw [star_pl hp, star_pl hp2]) (by rw [star_pl hp2]; rfl)) fun σ H R ⟨F, κ, l, S, s, p⟩ => ?_
  refine Can.mono (canI_args s p) fun vs H1 ⟨F1, κ1, S1, ds, s1, r, h9, q⟩ => ?_
  have h0 : item4 ds S1 0 ≠ none := h9
  clear h9
  unfold item4 at h0
  split at h0
  · rename_i d d'
    split at h0
    · rename_i ys zs hg1 hg2
      obtain ⟨v0, v1, rfl, r0, r1⟩ := repA2 r
      obtain ⟨a1, vs1, rfl, h1, _⟩ := s1.rel.gLst r0 hg1
      obtain ⟨a2, vs2, rfl, h2, _⟩ := s1.rel.gLst r1 hg2
      exact ⟨a1, a2, vs1, vs2, rfl, SqL.of h1, SqL.of h2, q _ (itz_of (S := S1) r0 r1 rfl)⟩
    · exact absurd rfl h0
  · exact absurd rfl h0
end EL

/-! ELk4: a sign found in a text. -/
namespace EL
open PySem L2 PySem.Spec PyProof.Rows
theorem sub_one {x : List Nat} {c i : Nat} : PySem.Builtin.Str.subAt ⟨x.toArray⟩ ⟨#[c]⟩ i = decide (x[i]? = some c) := by
  rw [PySem.StrLaws.subAt_eq]
  show ((x.drop i).take 1 == [c]) = _
  cases e : x.drop i with
  | nil =>
    have : x[i]? = none := List.getElem?_eq_none (by simpa using List.drop_eq_nil_iff.mp e)
    rw [this]
    rfl
  | cons d r =>
    have : x[i]? = some d := by
      have := congrArg (·[0]?) e
      simpa using this
    rw [this]
    simp only [List.take_succ_cons, List.take_zero]
    by_cases h : d = c
    · subst h; simp
    · simp [h]
theorem findC_none {c : Nat} : ∀ {x : List Nat} {i : Nat}, (∀ d ∈ x, d ≠ c) → findC c i x = -1
  | [], _, _ => rfl
  | d :: r, i, h => by
    unfold findC
    rw [if_neg (h d List.mem_cons_self)]
    exact findC_none fun e he => h e (List.mem_cons_of_mem _ he)
theorem findC_at {c : Nat} : ∀ {x : List Nat} {k i : Nat}, x[k]? = some c → (∀ j, j < k → x[j]? ≠ some c) → findC c i x = ((i + k : Nat) : Int)
  | [], _, _, h, _ => by simp at h
  | d :: r, 0, i, h, _ => by
    unfold findC
    rw [if_pos (by simpa using h)]
    rfl
  | d :: r, k + 1, i, h, hn => by
    unfold findC
    rw [if_neg (by have := hn 0 (by omega); simpa using this)]
    rw [findC_at (k := k) (by simpa using h) fun j hj => by have := hn (j + 1) (by omega); simpa using this]
    congr 1
    omega
theorem find_sign (x : List Nat) (c : Nat) : Txt.find ⟨x.toArray⟩ ⟨#[c]⟩ = findC c 0 x := by
  have len : (⟨x.toArray⟩ : Str).length = x.length := str_len x
  unfold Txt.find
  rw [PySem.StrLaws.occ_eq]
  have no : ∀ i, ¬ PySem.StrLaws.At ⟨x.toArray⟩ ⟨#[c]⟩ (⟨x.toArray⟩ : Str).length i ↔ x[i]? ≠ some c := fun i => by
    unfold PySem.StrLaws.At
    rw [sub_one, decide_eq_true_eq, len]
    constructor
    · intro h e
      have := (List.getElem?_eq_some_iff.mp e).1
      exact h ⟨by show i + 1 ≤ _; omega, e⟩
    · exact fun h e => h e.2
  rcases PySem.StrLaws.occ_first ⟨x.toArray⟩ ⟨#[c]⟩ (⟨x.toArray⟩ : Str).length 1 (Nat.le_refl _) (List.range' 0 ((⟨x.toArray⟩ : Str).length + 1 - 0)) 0 (fun _ _ => Nat.zero_le _) with ⟨h0, hn⟩ | ⟨pre, a, post, e, h0, ha, hn⟩
  · rw [h0]
    show (-1 : Int) = _
    refine (findC_none fun d hd => ?_).symm
    obtain ⟨i, hi, e⟩ := List.getElem_of_mem hd
    intro z
    refine (no i).mp (hn i ?_) (by rw [List.getElem?_eq_getElem hi, e, z])
    rw [List.mem_range', len]
    exact ⟨i, by omega, by omega⟩
  · have ea : x[a]? = some c := by
      have := ha.2
      rw [sub_one, decide_eq_true_eq] at this
      exact this
    have ef : ∀ j, j < a → x[j]? ≠ some c := fun j hj => (no j).mp (hn j (PySem.StrLaws.range'_split e j hj))
    have hl : ∃ r, (forIn (List.range' 0 ((⟨x.toArray⟩ : Str).length + 1 - 0)) ((#[] : Array Nat), 0) (PySem.StrLaws.occBody ⟨x.toArray⟩ ⟨#[c]⟩ (⟨x.toArray⟩ : Str).length 1)).run.fst.toList = a :: r := by
      generalize (forIn (List.range' 0 ((⟨x.toArray⟩ : Str).length + 1 - 0)) ((#[] : Array Nat), 0) (PySem.StrLaws.occBody ⟨x.toArray⟩ ⟨#[c]⟩ (⟨x.toArray⟩ : Str).length 1)).run.fst = w at h0
      obtain ⟨l⟩ := w
      cases l with
      | nil => simp at h0
      | cons b r => simp at h0; exact ⟨r, by rw [h0]⟩
    obtain ⟨r, hr⟩ := hl
    rw [hr, findC_at ea ef]
    simp
section
variable {X : Cx} {J : Jx} {pos p1 p2 apos cpos : Pos} {a b c e o : PySem.Expr} {x y z w : Ex} {es : List PySem.Expr} {xs : List Ex} {nm : Str}
theorem rcv_text {m : Bm} {d : D} (hm : (match m with
    | .find => true
    | .split => true
    | .replace => true
    | .partition => true
    | .upper => true
    | .zfill => true
    | .join => true
    | _ => false) = true) (h : rcv m d = true) : ∃ z, d = .str z := by
  cases m <;> first | (cases hm; done) | (cases d <;> first | exact ⟨_, rfl⟩ | cases h)
/-- a text's method of one argument -/
theorem je_bmT {k : Bool} {m : Bm} {id : String} {r : V → List V → Hp → VK → Prop} (hm : (match m with
    | .find => true
    | .split => true
    | .replace => true
    | .partition => true
    | .upper => true
    | .zfill => true
    | .join => true
    | _ => false) = true) (slot : Slot "str" nm id) (hty : typeOf (.builtin id) = pure (.type "method_descriptor")) (mt : MtR X id r)
    (hr : ∀ (F : Hp) (κ : Nat → Addr) (l : EL.Loc) (S : Sto) (σ : L2.St) (H : Hp) (Q : VK) (z : List Nat) (vs : List V) (ds : List D), Stt J F κ l S σ H → RepA J.G F κ S.length vs ds → Post J (Rep J.G) F κ S.length σ Q (bmD k m (.str z) ds S) → r (.str ⟨z.toArray⟩) vs H Q)
    (hb : notSuper o = true) (hl : (apos.endLine == cpos.line) = true) (hp : (e :: es).all pl = true) (hn : (e :: es).length < 30) (ho : JE X J o x) (ha : JA X J (e :: es) xs) :
    JE X J (.Call (.Attribute o nm apos) (e :: es) [] cpos) (.bm k m x xs) := by
  have hp2 := and2.mp (show (pl e && es.all pl) = true from hp)
  refine PE.imp (pe_bm PySem.F.plainAttrs_str slot hty mt ho ha (attr_base hb _ _ _) (few_all hp hn) hl (star_pl hp2.1 _ _) (back_all hp2.2)) fun σ H Q ⟨F, κ, l, S, s, p⟩ => ?_
  refine Can.mono (s.bind (mf := evE J.C x) p) fun u H1 ⟨F1, κ1, S1, du, _, _, s1, r1, p1⟩ => ?_
  dsimp only at p1
  split at p1
  · rename_i hr2
    obtain ⟨z, hz⟩ := rcv_text hm hr2
    have ez := get_str s1.rel r1 hz
    subst ez
    refine ⟨by rw [rep_str r1]; rfl, ?_⟩
    refine Can.mono (s1.bind (mf := evEs J.C xs) p1) fun us H2 ⟨F2, κ2, S2, ds, e2, n2, s2, r2, p2⟩ => ?_
    rw [rep_str r1]
    exact hr _ _ _ _ _ _ _ _ _ _ s2 r2 p2
  · exact p1.elim
theorem je_find {k : Bool} (hb : notSuper o = true) (hl : (apos.endLine == cpos.line) = true) (hp : pl e = true) (ho : JE X J o x) (ha : JA X J [e] xs) : JE X J (.Call (.Attribute o "find" apos) [e] [] cpos) (.bm k .find x xs) := by
  refine je_bmT (m := .find) rfl PySem.F.slot_str_find PySem.F.type_str_find mt_find (fun F κ l S σ H Q z vs ds s r p => ?_) hb hl (and2.mpr ⟨hp, rfl⟩) (by simp) ho ha
  cases r with
  | nil => exact p.elim
  | cons r1 r2 =>
    cases r2 with
    | cons _ _ =>
      cases r1 with
      | str y =>
        match y, p with
        | [], p => exact p.elim
        | _ :: _ :: _, p => exact p.elim
        | [_], p => exact p.elim
      | _ => exact p.elim
    | nil =>
      cases r1 with
      | str y =>
        match y, p with
        | [], p => exact p.elim
        | _ :: _ :: _, p => exact p.elim
        | [c], p => exact ⟨_, _, rfl, rfl, by rw [find_sign]; exact s.ret p (.int _)⟩
      | _ => exact p.elim
theorem je_split {k : Bool} (hb : notSuper o = true) (hl : (apos.endLine == cpos.line) = true) (hp : pl e = true) (ho : JE X J o x) (ha : JA X J [e] xs) : JE X J (.Call (.Attribute o "split" apos) [e] [] cpos) (.bm k .split x xs) := by
  refine je_bmT (m := .split) rfl PySem.F.slot_str_split PySem.F.type_str_split mt_split (fun F κ l S σ H Q z vs ds s r p => ?_) hb hl (and2.mpr ⟨hp, rfl⟩) (by simp) ho ha
  cases r with
  | nil => exact p.elim
  | cons r1 r2 =>
    cases r2 with
    | cons _ _ =>
      cases r1 with
      | str y =>
        match y, p with
        | [], p => exact p.elim
        | _ :: _ :: _, p => exact p.elim
        | [_], p => exact p.elim
      | _ => exact p.elim
    | nil =>
      cases r1 with
      | str y =>
        match y, p with
        | [], p => exact p.elim
        | _ :: _ :: _, p => exact p.elim
        | [c], p =>
          have p2 : Post J (Rep J.G) F κ S.length σ Q (if c < 256 ∧ z.length ≤ big then mkF k (.lst ((splC c [] z).map .str)) S else .stuck) := p
          split at p2
          · rename_i h
            have hl : z.length ≤ 100000 := h.2
            refine ⟨_, _, rfl, rfl, rfl, by rw [str_len, sizeLine_eq]; omega, fun q hq => ?_⟩
            have e : (Txt.split ⟨z.toArray⟩ ⟨[c].toArray⟩).map V.str = (splC c [] z).map fun y => V.str ⟨y.toArray⟩ := by
              rw [show (⟨[c].toArray⟩ : Str) = ⟨#[c]⟩ from rfl, split_sign z c h.1, List.map_map]
              rfl
            rw [e]
            have rs : ∀ ys : List (List Nat), RepA J.G F κ S.length (ys.map fun y => V.str ⟨y.toArray⟩) (ys.map D.str) := fun ys => by
              induction ys with
              | nil => exact .nil
              | cons y ys ih => exact .cons (.str y) ih
            exact s.mkC hq p2 (.lst (rs _))
          · exact p2.elim
      | _ => exact p.elim
end
end EL

/-! ELl: list comprehensions. -/
namespace EL
open PySem L2 PySem.Spec PyProof.Rows
section
variable {G : Gx} {F : Hp} {κ : Nat → Addr} {Bs : Gd} {S : Sto} {H : Hp} {p : Addr} {o o' : HO}
theorem Rel.guard (R : Rel G F κ Bs S H) (hp : H p = none) : Rel G F κ ⟨Bs.bs, (p, o) :: Bs.pr⟩ S (upd H p o) := by
  have R2 := R.junk (o := o) hp
  refine ⟨R2.sub, R2.cells, R2.inj, R2.low, fun q hq => ?_⟩
  rcases List.mem_cons.mp hq with hq | hq
  · subst hq
    exact ⟨upd_same, R.sub.there hp, fun i hi => R.ne hp hi⟩
  · exact R2.prot q hq
theorem Rel.unguard {bs : List Nat} {q : Addr × HO} {pr : List (Addr × HO)} (R : Rel G F κ ⟨bs, q :: pr⟩ S H) : Rel G F κ ⟨bs, pr⟩ S H :=
  ⟨R.sub, R.cells, R.inj, R.low, fun q hq => R.prot q (List.mem_cons_of_mem _ hq)⟩
theorem Rel.reguard {bs : List Nat} {pr : List (Addr × HO)} (R : Rel G F κ ⟨bs, (p, o) :: pr⟩ S H) (hq : ∀ q ∈ pr, q.1 ≠ p) : Rel G F κ ⟨bs, (p, o') :: pr⟩ S (upd H p o') := by
  obtain ⟨h1, h2, h3⟩ := R.prot (p, o) List.mem_cons_self
  refine ⟨fun a u e => ?_, fun i c e => ?_, R.inj, R.low, fun q h => ?_⟩
  · have ne : a ≠ p := fun z => by rw [z, h2] at e; cases e
    rw [upd_ne ne]
    exact R.sub a u e
  · obtain ⟨f, o2, q, x⟩ := R.cells i c e
    exact ⟨f, o2, by rw [upd_ne (h3 i (ix_lt e))]; exact q, x⟩
  · rcases List.mem_cons.mp h with h | h
    · subst h
      exact ⟨upd_same, h2, h3⟩
    · obtain ⟨q1, q2, q3⟩ := R.prot q (List.mem_cons_of_mem _ h)
      exact ⟨by rw [upd_ne (hq q h)]; exact q1, q2, q3⟩
end
/-- within a comprehension: the new list is guarded, nothing may be raised -/
def Jx.wp (J : Jx) (pr : List (Addr × HO)) : Jx := { J with Bs := ⟨J.Bs.bs, pr⟩, W := fun _ _ _ _ => False, bs := J.bs }
theorem wipeL_len (l : EL.Loc) : ∀ vs : List Nat, (wipeL l vs).length = l.length
  | [] => rfl
  | v :: vs => by unfold wipeL; rw [List.length_set, wipeL_len l vs]
theorem Lo.wipe {G : Gx} {F : Hp} {κ : Nat → Addr} {n : Nat} {l : EL.Loc} {σ : L2.St} (x : Lo G F κ n l σ) : ∀ vs : List Nat, Lo G F κ n (wipeL l vs) (wipe σ vs)
  | [] => x
  | v :: vs => by
    have ih := Lo.wipe x vs
    unfold wipeL L2.wipe
    refine ⟨by simp [ih.1], fun i d h => ?_⟩
    by_cases e : v = i
    · subst e
      have hl : v < (wipeL l vs).length := by
        have := (List.getElem?_eq_some_iff.mp h).1
        simpa using this
      rw [List.getElem?_set_self hl] at h
      cases h
    · rw [List.getElem?_set_ne e] at h ⊢
      exact ih.2 i d h
theorem wipe_idem {σ : L2.St} {vs : List Nat} : L2.wipe (L2.wipe σ vs) vs = L2.wipe σ vs := by
  apply List.ext_getElem?
  intro j
  rw [wipe_get, wipe_get]
  split
  · cases σ[j]? <;> rfl
  · rfl
theorem PTs.ex {α : Type} {X : Cx} {ifs : List PySem.Expr} {t : α → TT} (h : ∀ a, PTs X ifs (t a)) : PTs X ifs (fun σ H Q => ∃ a, t a σ H Q) := ⟨fun pins s σ H Q I ⟨a, q⟩ => (h a).run pins s σ H Q I q⟩
theorem PE.ex {α : Type} {X : Cx} {e : PySem.Expr} {t : α → TE} (h : ∀ a, PE X e (t a)) : PE X e (fun σ H Q => ∃ a, t a σ H Q) := ⟨fun pins s σ H Q I ⟨a, q⟩ => (h a).run pins s σ H Q I q⟩
theorem PG.ex {α : Type} {X : Cx} {e : PySem.Expr} {t : α → TG} (h : ∀ a, PG X e (t a)) : PG X e (fun v σ H Q => ∃ a, t a v σ H Q) := ⟨fun pins s σ H v u Q I r ⟨a, q⟩ => (h a).run pins s σ H v u Q I r q⟩
abbrev JTs (X : Cx) (J : Jx) (es : List PySem.Expr) (cs : List Tx) : Prop := PTs X es (Can J RB (evTs J.C cs))
theorem PTs.imp {X : Cx} {e : List PySem.Expr} {t t' : TT} (h : PTs X e t) (k : ∀ σ H Q, t' σ H Q → t σ H Q) : PTs X e t' := ⟨fun pins s σ H Q I q => h.run pins s σ H Q I (k σ H Q q)⟩
theorem jts_nil {X : Cx} {J : Jx} : JTs X J [] [] := PTs.imp pts_nil fun σ H Q ⟨F, κ, l, S, s, p⟩ => p F κ true H .refl (Nat.le_refl _) s.rel rfl
theorem jts_one {X : Cx} {J : Jx} {e : PySem.Expr} {c : Tx} (h : JT X J e c) : JTs X J [e] [c] := pts_one h
section
variable {X : Cx} {J : Jx}
/-- what stands at a turn -/
def LcW (J : Jx) (Q : VK) (σ : L2.St) (F1 : Hp) (κ1 : Nat → Addr) (n1 : Nat) (D : Addr) (k : Bool) (cg : Nat → Nat → List EL.D → Sto → EL.R (List EL.D)) (i m : Nat) (H : Hp) : Prop :=
  ∃ F2 κ2 S2 acc accv, Ext F1 κ1 n1 F2 κ2 ∧ n1 ≤ S2.length ∧ Rel J.G F2 κ2 ⟨J.Bs.bs, (D, .lst accv) :: J.Bs.pr⟩ S2 H ∧ RepA J.G F2 κ2 S2.length accv acc ∧
    Post J (Rep J.G) F2 κ2 S2.length σ Q ((cg m i acc S2).bind fun ys S => mkF k (.lst ys) S)
theorem lc_can {k : Bool} {tg : Tg} {how : Nat} {it : List Ex} {c : List Tx} {e : Ex} {σ : L2.St} {H : Hp} {Q : VK} (hh : J.hi = none) (h : Can J (Rep J.G) (evE J.C (.comp k tg how it c e)) σ H Q) :
    tLc (canI J how it) (fun v σ H Q => ∃ pr, tgT (J.wp pr) tg v σ H Q) (fun σ H Q => ∃ pr, Can (J.wp pr) RB (evTs J.C c) σ H Q) (fun σ H Q => ∃ pr, Can (J.wp pr) (Rep J.G) (evE J.C e) σ H Q) (tgs tg) σ H Q := by
  obtain ⟨F, κ, l, S, s, p⟩ := h
  obtain ⟨cg, hcg⟩ : ∃ cg, cg = compG tg (wipeL l (tgs tg)) (evTs J.C c) (evE J.C e) how := ⟨_, rfl⟩
  have p : Post J (Rep J.G) F κ S.length σ Q ((evEs J.C it l S).bind fun ds S1 => (cg ds fuel 0 [] S1).bind fun ys S2 => mkF k (.lst ys) S2) := by
    rw [hcg]
    exact p
  refine ⟨F, κ, l, S, s, ?_⟩
  cases e0 : evEs J.C it l S with
  | stuck =>
    rw [e0] at p
    exact p.elim
  | ex c fs S1 =>
    rw [e0] at p
    exact p
  | ok ds S1 =>
    rw [e0] at p
    have p1 : Post J (Rep J.G) F κ S.length σ Q ((cg ds fuel 0 [] S1).bind fun ys S2 => mkF k (.lst ys) S2) := p
    refine ⟨fun hn => ?_, fun F1 κ1 H1 itr e1 n1 R1 hit D hD => ?_⟩
    · have q : cg ds fuel 0 [] S1 = .stuck := by
        rw [hcg]
        show compG _ _ _ _ _ _ fuel 0 [] S1 = .stuck
        rw [fuel_eq]
        unfold compG
        rw [hn]
      rw [q] at p1
      exact p1
    · have s1 := s.step e1 n1 R1
      have dq : ∀ q ∈ J.Bs.pr, q.1 ≠ D := R1.pne hD
      refine ⟨LcW J Q σ F1 κ1 S1.length D k (cg ds), ⟨fuel, F1, κ1, S1, [], [], .refl, Nat.le_refl _, R1.guard hD, .nil, p1.step e1 n1⟩, ?_⟩
      rintro i m H2 ⟨F2, κ2, S2, acc, accv, e2, n2, R2, ra, p2⟩
      cases m with
      | zero =>
        rw [hcg] at p2
        exact p2.elim
      | succ m =>
        have hit2 := hit F2 κ2 _ S2 H2 i e2 n2 R2
        have un : cg ds (m + 1) i acc S2 = (match itemD how ds S2 i with
          | none => .stuck
          | some none => .ok acc S2
          | some (some x) => match bindT S2 tg x (wipeL l (tgs tg)) with
            | none => .stuck
            | some l2 => match evTs J.C c l2 S2 with
              | .ok false S3 => cg ds m (i + 1) acc S3
              | .ok true S3 => (match evE J.C e l2 S3 with
                | .ok d S4 => if acc.length < big then cg ds m (i + 1) (acc ++ [d]) S4 else .stuck
                | _ => .stuck)
              | _ => .stuck) := by
          rw [hcg]
          rfl
        rw [un] at p2
        cases ei : itemD how ds S2 i with
        | none =>
          rw [ei] at p2
          exact p2.elim
        | some od =>
          rw [ei] at p2 hit2
          cases od with
          | none =>
            refine .inl ⟨hit2, ?_⟩
            have p3 : Post J (Rep J.G) F2 κ2 S2.length σ Q (mkF k (.lst acc) S2) := p2
            obtain ⟨hd, hF, hk⟩ := R2.prot (D, .lst accv) List.mem_cons_self
            have R3 : Rel J.G F2 κ2 J.Bs S2 H2 := R2.unguard
            cases k with
            | false =>
              obtain ⟨R4, e4⟩ := R3.freeze hd hF hk dq
              exact p3 _ κ2 _ _ e4 (Nat.le_refl _) R4 (.lst upd_same (ra.mono e4 (Nat.le_refl _)))
            | true =>
              obtain ⟨κ3, hk3, e4, R4⟩ := R3.adopt hd hF hk dq (.lst ra)
              have len : (S2 ++ [EL.D.lst acc]).length = S2.length + 1 := by simp
              refine p3 F2 κ3 _ _ e4 (by rw [len]; omega) R4 ?_
              rw [← show κ3 S2.length = D from hk3]
              exact .cell (by rw [len]; omega)
          | some d =>
            obtain ⟨hgo, hy⟩ := hit2
            refine .inr ⟨hgo, LcW J Q σ F1 κ1 S1.length D k (cg ds) (i + 1) m, fun H' w => ⟨m, Nat.lt_succ_self _, w⟩, fun x H' hyl => ?_⟩
            obtain ⟨F3, e3, R3, rx⟩ := hy x H' hyl
            dsimp only at p2
            cases eb : bindT S2 tg d (wipeL l (tgs tg)) with
            | none =>
              rw [eb] at p2
              exact p2.elim
            | some l2 =>
              rw [eb] at p2
              dsimp only at p2
              have e13 := e2.trans e3 n2
              have st : Stt (J.wp ((D, .lst accv) :: J.Bs.pr)) F3 κ2 (wipeL l (tgs tg)) S2 (L2.wipe σ (tgs tg)) H' := ⟨R3, (s1.lo.mono e13 n2).wipe _, s1.hx.mono e13 n2, no_hi hh⟩
              refine ⟨_, F3, κ2, wipeL l (tgs tg), S2, d, l2, st, rx, eb, fun σ2 w2 st2 => ?_⟩
              refine ⟨(w2 _ fun _ h => h).trans wipe_idem, _, F3, κ2, l2, S2, st2, ?_⟩
              cases ec : evTs J.C c l2 S2 with
              | stuck =>
                rw [ec] at p2
                exact p2.elim
              | ex c fs S3 =>
                rw [ec] at p2
                exact p2.elim
              | ok b S3 =>
                rw [ec] at p2
                intro F4 κ4 b' H4 e4 n4 R4 hb
                have hb2 : b' = b := hb
                subst hb2
                cases b' with
                | false =>
                  rw [if_neg Bool.false_ne_true]
                  exact ⟨F4, κ4, S3, acc, accv, e13.trans e4 n2, Nat.le_trans n2 n4, R4, (ra.mono e3 (Nat.le_refl _)).mono e4 n4, (Post.step p2 e3 (Nat.le_refl _)).step e4 n4⟩
                | true =>
                  rw [if_pos rfl]
                  refine ⟨_, F4, κ4, l2, S3, st2.step e4 n4 R4, ?_⟩
                  dsimp only at p2
                  cases ee : evE J.C e l2 S3 with
                  | stuck =>
                    rw [ee] at p2
                    exact p2.elim
                  | ex c fs S4 =>
                    rw [ee] at p2
                    exact p2.elim
                  | ok d2 S4 =>
                    rw [ee] at p2
                    dsimp only at p2
                    intro F5 κ5 y H5 e5 n5 R5 ry
                    split at p2
                    · rename_i hlen
                      obtain ⟨hd, hF, hk⟩ := R5.prot (D, .lst accv) List.mem_cons_self
                      have ra5 := ((ra.mono e3 (Nat.le_refl _)).mono e4 n4).mono e5 n5
                      refine ⟨accv, hd, by rw [ra5.len]; exact big_lt hlen, F5, κ5, S4, acc ++ [d2], accv ++ [y], (e13.trans e4 n2).trans e5 (Nat.le_trans n2 n4), Nat.le_trans n2 (Nat.le_trans n4 n5), R5.reguard dq, ra5.app (.cons ry .nil), ?_⟩
                      exact ((Post.step p2 e3 (Nat.le_refl _)).step e4 n4).step e5 n5
                    · exact p2.elim
variable {pos spos py : Pos} {elt tge iter : PySem.Expr} {ifs : List PySem.Expr} {scope : Scope} {own : List (Str × Nat)} {k : Bool} {tg : Tg} {how : Nat} {it : List Ex} {c : List Tx} {e : Ex}
/-- what a comprehension's parts must keep -/
structure LcOk (X : Cx) (J : Jx) (elt tge iter : PySem.Expr) (ifs : List PySem.Expr) (scope : Scope) (tg : Tg) (how : Nat) (it : List Ex) (c : List Tx) (e : Ex) : Prop where
  hi : JI X J tge iter how it
  own : ∃ own, BlkOk X.N X.env.scope scope own ∧ own.map (·.2) = tgs tg
  hg : ∀ (s : Shared) (H : Hp) (C : Addr) (cl : List (Str × Addr)) (fp : List Addr) pr, JG (X.blk s H scope (compEnvC scope cl C X.env) fp) (J.wp pr) tge tg
  ht : ∀ (s : Shared) (H : Hp) (C : Addr) (cl : List (Str × Addr)) (fp : List Addr) pr, JTs (X.blk s H scope (compEnvC scope cl C X.env) fp) (J.wp pr) ifs c
  he : ∀ (s : Shared) (H : Hp) (C : Addr) (cl : List (Str × Addr)) (fp : List Addr) pr, JE (X.blk s H scope (compEnvC scope cl C X.env) fp) (J.wp pr) elt e
  pl : pl iter = true
theorem je_comp (hh : J.hi = none) (hc : X.calm = true) (hN : X.N.Nodup) (h : LcOk X J elt tge iter ifs scope tg how it c e) : JE X J (.ListComp elt [⟨tge, iter, ifs, 0⟩] scope pos) (.comp k tg how it c e) := by
  obtain ⟨own, ok, ho⟩ := h.own
  refine PE.imp (pe_lc hc hN h.hi ok (fun s H C cl fp => PG.ex fun pr => h.hg s H C cl fp pr) (fun s H C cl fp => PTs.ex fun pr => h.ht s H C cl fp pr) (fun s H C cl fp => PE.ex fun pr => h.he s H C cl fp pr) (set_pl h.pl _)) fun σ H Q q => ?_
  rw [ho]
  exact lc_can hh q
end
end EL

/-! ELm: statements. -/
namespace EL
open PySem L2 PySem.Spec PyProof.Rows
def PostS (J : Jx) (E : Ends) (F : Hp) (κ : Nat → Addr) (n : Nat) : RS → Prop
  | .nx l S' => ∀ F' κ' σ' H', Ext F κ n F' κ' → n ≤ S'.length → Stt J F' κ' l S' σ' H' → E.nx σ' H'
  | .rt d S' => ∀ F' κ' v H', Ext F κ n F' κ' → n ≤ S'.length → Rel J.G F' κ' J.Bs S' H' → Rep J.G F' κ' S'.length v d → E.rt v H'
  | .bk l S' => ∀ F' κ' σ' H', Ext F κ n F' κ' → n ≤ S'.length → Stt J F' κ' l S' σ' H' → E.bk σ' H'
  | .ct l S' => ∀ F' κ' σ' H', Ext F κ n F' κ' → n ≤ S'.length → Stt J F' κ' l S' σ' H' → E.ct σ' H'
  | .ex c fs l S' => ∀ F' κ' d σ' H', J.G.xk c = true → Ext F κ n F' κ' → n ≤ S'.length → Stt J F' κ' l S' σ' H' → XD J.G F' κ' S'.length d fs → J.W (.ref (J.G.cm c)) d σ' H'
  | .stuck => False
section
variable {α β : Type} {J : Jx} {E E' : Ends} {F F' : Hp} {κ κ' : Nat → Addr} {n m : Nat} {l : EL.Loc} {S : Sto} {σ : L2.St} {H : Hp} {q : RS}
theorem PostS.step (h : PostS J E F κ n q) (e : Ext F κ n F' κ') (hn : n ≤ m) : PostS J E F' κ' m q := by
  cases q with
  | nx l S => exact fun F2 κ2 s2 H2 e1 e2 e3 => h F2 κ2 s2 H2 (e.trans e1 hn) (Nat.le_trans hn e2) e3
  | rt l S => exact fun F2 κ2 s2 H2 e1 e2 e3 e4 => h F2 κ2 s2 H2 (e.trans e1 hn) (Nat.le_trans hn e2) e3 e4
  | bk l S => exact fun F2 κ2 s2 H2 e1 e2 e3 => h F2 κ2 s2 H2 (e.trans e1 hn) (Nat.le_trans hn e2) e3
  | ct l S => exact fun F2 κ2 s2 H2 e1 e2 e3 => h F2 κ2 s2 H2 (e.trans e1 hn) (Nat.le_trans hn e2) e3
  | ex c fs l S => exact fun F2 κ2 d s2 H2 e0 e1 e2 e3 e4 => h F2 κ2 d s2 H2 e0 (e.trans e1 hn) (Nat.le_trans hn e2) e3 e4
  | stuck => exact h
def canS (J : Jx) (mf : EL.Loc → Sto → RS) : TS := fun E σ H => ∃ F κ l S, Stt J F κ l S σ H ∧ PostS J E F κ S.length (mf l S)
/-- an expression within a statement -/
theorem Stt.bindS {Rl : Hp → (Nat → Addr) → Nat → β → α → Prop} {mf : EL.Loc → Sto → R α} {k : α → Sto → RS} (s : Stt J F κ l S σ H) (p : PostS J E F κ S.length (EL.bindS (mf l S) l k)) :
    Can J Rl mf σ H (fun v H1 => ∃ F1 κ1 S1 a, Ext F κ S.length F1 κ1 ∧ S.length ≤ S1.length ∧ Stt J F1 κ1 l S1 σ H1 ∧ Rl F1 κ1 S1.length v a ∧ PostS J E F1 κ1 S1.length (k a S1)) := by
  refine ⟨F, κ, l, S, s, ?_⟩
  cases e : mf l S with
  | ok a S1 =>
    rw [e] at p
    exact fun F1 κ1 v H1 e1 e2 e3 e4 => ⟨F1, κ1, S1, a, e1, e2, s.step e1 e2 e3, e4, PostS.step (show PostS J E F κ S.length (k a S1) from p) e1 e2⟩
  | ex c fs S1 =>
    rw [e] at p
    have p2 : PostS J E F κ S.length (.ex c fs l S1) := p
    exact fun F1 κ1 d H1 e0 e1 e2 e3 e4 => p2 F1 κ1 d σ H1 e0 e1 e2 (s.step e1 e2 e3) e4
  | stuck =>
    rw [e] at p
    exact p
theorem Stt.nx (s : Stt J F κ l S σ H) (p : PostS J E F κ S.length (.nx l S)) : E.nx σ H := p F κ σ H .refl (Nat.le_refl _) s
end
abbrev JS (X : Cx) (J : Jx) (st : PySem.Stmt) (s : Sm) : Prop := PS X st (canS J (evS J.C s))
abbrev JSs (X : Cx) (J : Jx) (st : List PySem.Stmt) (s : List Sm) : Prop := PSs X st (canS J (evSs J.C s))
theorem PS.imp {X : Cx} {e : PySem.Stmt} {t t' : TS} (h : PS X e t) (k : ∀ D σ H, t' D σ H → t D σ H) : PS X e t' := ⟨fun pins s σ H D I q => h.run pins s σ H D I (k D σ H q)⟩
theorem PSs.imp {X : Cx} {e : List PySem.Stmt} {t t' : TS} (h : PSs X e t) (k : ∀ D σ H, t' D σ H → t D σ H) : PSs X e t' := ⟨fun pins s σ H D I q => h.run pins s σ H D I (k D σ H q)⟩
section
variable {X : Cx} {J : Jx} {pos p1 p2 apos cpos spos : Pos} {a b c e o i tge iter value : PySem.Expr} {x y z w ix : Ex} {es : List PySem.Expr} {xs : List Ex} {nm : Str} {st : PySem.Stmt} {sts sts2 : List PySem.Stmt} {sm : Sm} {sms sms2 : List Sm} {tx : Tx}
theorem jss_nil : JSs X J [] [] := PSs.imp pss_nil fun D σ H ⟨F, κ, l, S, s, p⟩ => s.nx p
theorem jss_cons (h1 : JS X J st sm) (h2 : JSs X J sts sms) : JSs X J (st :: sts) (sm :: sms) := by
  refine PSs.imp (pss_cons h1 h2) fun D σ H ⟨F, κ, l, S, s, p⟩ => ⟨F, κ, l, S, s, ?_⟩
  have p : PostS J D F κ S.length (match evS J.C sm l S with
    | .nx l1 S1 => evSs J.C sms l1 S1
    | q => q) := p
  cases e : evS J.C sm l S with
  | nx l1 S1 =>
    rw [e] at p
    exact fun F1 κ1 σ1 H1 e1 n1 s1 => ⟨F1, κ1, l1, S1, s1, PostS.step (show PostS J D F κ S.length (evSs J.C sms l1 S1) from p) e1 n1⟩
  | _ =>
    rw [e] at p
    exact p
theorem js_pass : JS X J (.Pass pos) .pass := PS.imp ps_pass fun D σ H ⟨F, κ, l, S, s, p⟩ => s.nx p
theorem js_break : JS X J (.Break pos) .brk := PS.imp ps_break fun D σ H ⟨F, κ, l, S, s, p⟩ => p F κ σ H .refl (Nat.le_refl _) s
theorem js_cont : JS X J (.Continue pos) .cont := PS.imp ps_continue fun D σ H ⟨F, κ, l, S, s, p⟩ => p F κ σ H .refl (Nat.le_refl _) s
theorem js_exp (ha : JE X J a x) (hn : noLc a = true) : JS X J (.Expr a pos) (.exp x) := by
  refine PS.imp (ps_expr ha (sw_noLc hn _ _ _)) fun D σ H ⟨F, κ, l, S, s, p⟩ => ?_
  exact Can.mono (s.bindS (mf := evE J.C x) p) fun u H1 ⟨F1, κ1, S1, du, _, _, s1, r1, p1⟩ => s1.nx p1
theorem js_ret (ha : JE X J a x) : JS X J (.Return (some a) pos) (.ret x) := by
  refine PS.imp (ps_ret ha) fun D σ H ⟨F, κ, l, S, s, p⟩ => ?_
  exact Can.mono (s.bindS (mf := evE J.C x) p) fun u H1 ⟨F1, κ1, S1, du, _, _, s1, r1, p1⟩ => p1 F1 κ1 u H1 .refl (Nat.le_refl _) s1.rel r1
theorem js_retN : JS X J (.Return none pos) .retN := PS.imp ps_retN fun D σ H ⟨F, κ, l, S, s, p⟩ => p F κ .non H .refl (Nat.le_refl _) s.rel .non
theorem js_if (hc : JT X J c tx) (ha : JSs X J sts sms) (hb : JSs X J sts2 sms2) : JS X J (.If c sts sts2 pos) (.ifs tx sms sms2) := by
  refine PS.imp (ps_if hc ha hb) fun D σ H ⟨F, κ, l, S, s, p⟩ => ?_
  refine Can.mono (s.bindS (mf := evT J.C tx) (Rl := RB) p) fun u H1 ⟨F1, κ1, S1, du, _, _, s1, r1, p1⟩ => ?_
  cases r1
  cases u with
  | true =>
    rw [if_pos rfl]
    exact ⟨_, _, _, _, s1, p1⟩
  | false =>
    rw [if_neg (by decide)]
    exact ⟨_, _, _, _, s1, p1⟩
/-! ### stores -/
theorem js_asg {tg : Tg} (hp : plT tge = true) (hs : swapsWith e (some tge) spos.line X.env = pure false) (hw : swappedStores [tge] e X.env = pure none) (he : JE X J e x) (hg : JG X J tge tg) : JS X J (.Assign [tge] e spos) (.asg tg x) := by
  refine PS.imp (ps_asg he hg hs hw (by rw [asg_pl hp]; rfl)) fun D σ H ⟨F, κ, l, S, s, p⟩ => ?_
  refine Can.mono (s.bindS (mf := evE J.C x) p) fun u H1 ⟨F1, κ1, S1, du, _, _, s1, r1, p1⟩ => ?_
  cases eb : bindT S1 tg du l with
  | none =>
    rw [eb] at p1
    exact p1.elim
  | some l2 =>
    rw [eb] at p1
    exact ⟨F1, κ1, l, S1, du, l2, s1, r1, eb, fun σ2 _ s2 => s2.nx p1⟩
theorem js_asgLc {k : Bool} {i : Nat} {y : Str} {py : Pos} {elt : PySem.Expr} {ifs : List PySem.Expr} {scope : Scope} {tg : Tg} {how : Nat} {it : List Ex} {c : List Tx} {e : Ex} (hh : J.hi = none) (hc : X.calm = true) (hN : X.N.Nodup) (hy : X.N[i]? = some y)
    (hyl : X.env.scope.names.lookup y = some .local) (hk : X.env.scope.kind = .function) (hl : (py.line == pos.line) = true) (ha : (scope.names.any fun (n, k) => n == y && (k == .local || k == .cell)) = false)
    (h : LcOk X J elt tge iter ifs scope tg how it c e) : JS X J (.Assign [.Name y py] (.ListComp elt [⟨tge, iter, ifs, 0⟩] scope pos) spos) (.asg (.v i) (.comp k tg how it c e)) := by
  obtain ⟨own, ok, ho⟩ := h.own
  refine PS.imp (ps_setLc hc hN hy hyl (sw_true hk hyl hl ha) h.hi ok (fun s H C cl fp => PG.ex fun pr => h.hg s H C cl fp pr) (fun s H C cl fp => PTs.ex fun pr => h.ht s H C cl fp pr) (fun s H C cl fp => PE.ex fun pr => h.he s H C cl fp pr) (set_pl h.pl _)) fun D σ H ⟨F, κ, l, S, s, p⟩ => ?_
  rw [ho]
  refine lc_can (k := k) hh (Can.mono (s.bindS (mf := evE J.C (.comp k tg how it c e)) p) fun u H1 ⟨F1, κ1, S1, du, _, _, s1, r1, p1⟩ => ?_)
  exact p1 F1 κ1 _ H1 .refl (Nat.le_refl _) ⟨s1.rel, s1.lo.set i r1, s1.hx, no_hi hh⟩
theorem js_par2 {i j : Nat} {nx ny : Str} {px py pt : Pos} {kt k2 pt2} (hh : J.hi = none) (hc : X.calm = true) (hN : X.N.Nodup) (hi : X.N[i]? = some nx) (hj : X.N[j]? = some ny) (hij : i ≠ j)
    (hx : X.env.scope.names.lookup nx = some .local) (hy : X.env.scope.names.lookup ny = some .local) (hw : swappedStores [.Tuple [.Name nx px, .Name ny py] kt pt] (.Tuple [a, b] k2 pt2) X.env = pure (some [nx, ny])) (ha : JA X J [a, b] xs) :
    JS X J (.Assign [.Tuple [.Name nx px, .Name ny py] kt pt] (.Tuple [a, b] k2 pt2) spos) (.par [i, j] xs) := by
  refine PS.imp (ps_par hc hN hi hj hij hx hy ha hw) fun D σ H ⟨F, κ, l, S, s, p⟩ => ?_
  refine Can.mono (s.bindS (mf := evEs J.C xs) p) fun u H1 ⟨F1, κ1, S1, du, _, _, s1, r1, p1⟩ => ?_
  cases r1 with
  | nil => exact p1.elim
  | cons r1 r2 =>
    cases r2 with
    | nil => exact p1.elim
    | cons r2 r3 =>
      cases r3 with
      | nil =>
        have p2 : PostS J D F1 κ1 S1.length (.nx ((l.set i (some _)).set j (some _)) S1) := p1
        exact ⟨_, _, rfl, p2 F1 κ1 _ H1 .refl (Nat.le_refl _) ⟨s1.rel, (s1.lo.set i r1).set j r2, s1.hx, no_hi hh⟩⟩
      | cons r3 r4 => exact p1.elim
theorem js_par3 {i j m : Nat} {nx ny nz : Str} {px py pz pt : Pos} {kt k2 pt2} (hh : J.hi = none) (hc : X.calm = true) (hN : X.N.Nodup) (hi : X.N[i]? = some nx) (hj : X.N[j]? = some ny) (hm : X.N[m]? = some nz) (hij : i ≠ j) (him : i ≠ m) (hjm : j ≠ m)
    (hx : X.env.scope.names.lookup nx = some .local) (hy : X.env.scope.names.lookup ny = some .local) (hz : X.env.scope.names.lookup nz = some .local) (hw : swappedStores [.Tuple [.Name nx px, .Name ny py, .Name nz pz] kt pt] (.Tuple [a, b, c] k2 pt2) X.env = pure (some [nx, ny, nz])) (ha : JA X J [a, b, c] xs) :
    JS X J (.Assign [.Tuple [.Name nx px, .Name ny py, .Name nz pz] kt pt] (.Tuple [a, b, c] k2 pt2) spos) (.par [i, j, m] xs) := by
  refine PS.imp (ps_par3 hc hN hi hj hm hij him hjm hx hy hz ha hw) fun D σ H ⟨F, κ, l, S, s, p⟩ => ?_
  refine Can.mono (s.bindS (mf := evEs J.C xs) p) fun u H1 ⟨F1, κ1, S1, du, _, _, s1, r1, p1⟩ => ?_
  cases r1 with
  | nil => exact p1.elim
  | cons r1 r2 =>
    cases r2 with
    | nil => exact p1.elim
    | cons r2 r3 =>
      cases r3 with
      | nil => exact p1.elim
      | cons r3 r4 =>
        cases r4 with
        | nil =>
          have p2 : PostS J D F1 κ1 S1.length (.nx (((l.set i (some _)).set j (some _)).set m (some _)) S1) := p1
          exact ⟨_, _, _, rfl, p2 F1 κ1 _ H1 .refl (Nat.le_refl _) ⟨s1.rel, ((s1.lo.set i r1).set j r2).set m r3, s1.hx, no_hi hh⟩⟩
        | cons r4 r5 => exact p1.elim
theorem js_aug {i : Nat} {op : Operator} {ok : Op} {f : Int → Int → Int} (hh : J.hi = none) (ho : PIp X op (ipI f)) (hf : ∀ a b n, binI ok a b = some n → n = f a b) (hN : X.N.Nodup) (hi : X.N[i]? = some nm) (hx : L2.Loc X.env.scope nm) (hl : X.fn nm = true ∨ X.env.scope.names.lookup nm = some .local) (he : JE X J e x) :
    JS X J (.AugAssign (.Name nm p1) op e pos) (.aug i ok x) := by
  refine PS.imp (ps_aug hN hi hx he ho hl) fun D σ H ⟨F, κ, l, S, s, p⟩ => ?_
  have p : PostS J D F κ S.length (match l[i]? with
    | some (some u) => bindS (evE J.C x l S) l fun d S1 => bindS (match u, d with
      | .int a, .int b => optR ((binI ok a b).map .int) S1
      | _, _ => .stuck) l fun v S2 => .nx (l.set i (some v)) S2
    | _ => .stuck) := p
  split at p
  · rename_i u hu
    obtain ⟨v, hv, rv⟩ := s.lo.2 i u hu
    refine ⟨v, hv, Can.mono (s.bindS (mf := evE J.C x) p) fun w H1 ⟨F1, κ1, S1, du, e1, n1, s1, r1, p1⟩ => ?_⟩
    cases u with
    | int a =>
      cases du with
      | int b =>
        cases eo : binI ok a b with
        | none =>
          have p2 : PostS J D F1 κ1 S1.length (bindS (optR ((binI ok a b).map .int) S1) l fun v S2 => .nx (l.set i (some v)) S2) := p1
          rw [eo] at p2
          exact p2.elim
        | some n =>
          have p2 : PostS J D F1 κ1 S1.length (bindS (optR ((binI ok a b).map .int) S1) l fun v S2 => .nx (l.set i (some v)) S2) := p1
          rw [eo] at p2
          have p2 : PostS J D F1 κ1 S1.length (.nx (l.set i (some (.int n))) S1) := p2
          refine ⟨a, b, rep_int rv, rep_int r1, ?_⟩
          have q := p2 F1 κ1 (σ.set i (some (.int n))) H1 .refl (Nat.le_refl _) ⟨s1.rel, s1.lo.set i (.int n), s1.hx, no_hi hh⟩
          rw [hf a b n eo] at q
          exact q
      | _ => exact p1.elim
    | _ => exact p1.elim
  · exact p.elim
theorem rk_app {F : Hp} {κ : Nat → Addr} {n : Nat} : ∀ {vs ws : List (Key × V)} {ds es : List (Ky × D)}, RepK J.G F κ n vs ds → RepK J.G F κ n ws es → RepK J.G F κ n (vs ++ ws) (ds ++ es)
  | _, _, _, _, .nil, q => q
  | _, _, _, _, .cons r s, q => .cons r (rk_app s q)
theorem rk_map {F : Hp} {κ : Nat → Addr} {n : Nat} (k : Ky) {v : V} {d : D} (r : Rep J.G F κ n v d) : ∀ {vs : List (Key × V)} {ds : List (Ky × D)}, RepK J.G F κ n vs ds →
    RepK J.G F κ n (vs.map fun kv => if kv.1 = k.key then (kv.1, v) else kv) (ds.map fun kv => if kv.1 = k then (kv.1, d) else kv)
  | _, _, .nil => .nil
  | _, _, .cons (k := k') r' s => by
    rw [List.map_cons, List.map_cons]
    by_cases h : k' = k
    · rw [if_pos (by rw [h]), if_pos h]
      exact .cons r (rk_map k r s)
    · rw [if_neg (fun z => h (Ky.key_inj z)), if_neg h]
      exact .cons r' (rk_map k r s)
theorem rk_any {F : Hp} {κ : Nat → Addr} {n : Nat} (k : Ky) : ∀ {vs : List (Key × V)} {ds : List (Ky × D)}, RepK J.G F κ n vs ds → (vs.any fun kv => decide (kv.1 = k.key)) = ds.any fun kv => decide (kv.1 = k)
  | _, _, .nil => rfl
  | _, _, .cons (k := k') _ s => by
    rw [List.any_cons, List.any_cons, rk_any k s]
    have : decide (k'.key = k.key) = decide (k' = k) := by
      rw [decide_eq_decide]
      exact ⟨Ky.key_inj, fun z => by rw [z]⟩
    show (decide (k'.key = k.key) || _) = (decide (k' = k) || _)
    rw [this]
theorem dput_ok {F : Hp} {κ : Nat → Addr} {n : Nat} (k : Ky) {v : V} {d : D} (r : Rep J.G F κ n v d) {vs : List (Key × V)} {ds : List (Ky × D)} (q : RepK J.G F κ n vs ds) : RepK J.G F κ n (putK vs k.key v) (dput k d ds) := by
  unfold putK dput
  rw [rk_any k q]
  split
  · exact rk_map k r q
  · exact rk_app q (.cons r .nil)
theorem bndK_all {b : Nat} : ∀ {xs : List (Ky × D)}, bndK b xs = true ↔ ∀ d ∈ xs, bnd b d.2 = true
  | [] => ⟨fun _ d hd => (by cases hd), fun _ => rfl⟩
  | (k, d) :: r => by
    show (bnd b d && bndK b r) = true ↔ _
    rw [and2, bndK_all]
    simp
theorem dput_bnd {b : Nat} {k : Ky} {d : D} {ds : List (Ky × D)} (h : bndK b ds = true) (hd : bnd b d = true) : bndK b (dput k d ds) = true := by
  rw [bndK_all] at h ⊢
  intro z hz
  unfold dput at hz
  split at hz
  · obtain ⟨y, hy, e⟩ := List.mem_map.mp hz
    split at e
    · subst e
      exact hd
    · subst e
      exact h y hy
  · rcases List.mem_append.mp hz with hz | hz
    · exact h z hz
    · rw [List.mem_singleton.mp hz]
      exact hd
theorem Stt.cellD {F : Hp} {κ : Nat → Addr} {l : EL.Loc} {S : Sto} {σ : L2.St} {H : Hp} (s : Stt J F κ l S σ H) {n : Nat} {xs : List (Ky × D)} (h : S[n]? = some (.dK xs)) : ∃ vs, H (κ n) = some (.dK vs) ∧ RepK J.G F κ S.length vs xs ∧ ∀ b ∈ J.Bs.bs, n < b → bndK b xs = true := by
  obtain ⟨_, o, e, x⟩ := s.rel.cells _ _ h
  cases x with
  | dK r => exact ⟨_, e, r, fun b hb hn => (s.rel.low b hb).2 n _ hn h⟩
theorem asg_sub (h : pl i = true) (v : Value) : assign (.Subscript o i pos) X.env v = (do
      let ov ← holding [v] (eval o X.env)
      let iv ← holding [v, ov] (eval i X.env)
      standAt pos
      holding [v, ov, iv] (setItem ov iv v)
      release [v, ov, iv] []) := by
  cases i <;> first | rfl | cases h
theorem PSet.or {t t' : TSet} (h : PSet X t) (h' : PSet X t') : PSet X (fun o i v H Q => t o i v H Q ∨ t' o i v H Q) :=
  fun pins s σ H o i v ov iv u Q I r1 r2 r3 q => q.elim (h pins s σ H o i v ov iv u Q I r1 r2 r3) (h' pins s σ H o i v ov iv u Q I r1 r2 r3)
theorem sw_sub (e : PySem.Expr) (k : Nat) (env : Env) : swapsWith e (some (.Subscript o i pos)) k env = pure false := by
  cases e <;> rfl
theorem js_sub (hu : X.A.units + 1 < cLine) (hp : pl i = true) (he : JE X J e x) (ho : JE X J o y) (hi : JE X J i z) : JS X J (.Assign [.Subscript o i p1] e spos) (.sub y z x) := by
  refine PS.imp (ps_asg he (pg_sub ho hi (PSet.or set_list (set_dict hu)) (asg_sub hp)) (sw_sub (o := o) (i := i) (pos := p1) e spos.line X.env) rfl rfl) fun D σ H ⟨F, κ, l, S, s, p⟩ => ?_
  refine Can.mono (s.bindS (mf := evE J.C x) p) fun u H1 ⟨F1, κ1, S1, du, e1, n1, s1, r1, p1⟩ => ?_
  refine Can.mono (s1.bindS (mf := evE J.C y) p1) fun v H2 ⟨F2, κ2, S2, dv, e2, n2, s2, r2, p2⟩ => ?_
  refine Can.mono (s2.bindS (mf := evE J.C z) p2) fun w H3 ⟨F3, κ3, S3, dw, e3, n3, s3, r3, p3⟩ => ?_
  have r2' := r2.mono e3 n3
  have r1' := (r1.mono e2 n2).mono e3 n3
  cases eo : subD J.C.bs dv dw du S3 with
  | none =>
    rw [eo] at p3
    exact p3.elim
  | some S4 =>
    rw [eo] at p3
    have p4 : PostS J D F3 κ3 S3.length (.nx l S4) := p3
    unfold subD at eo
    split at eo
    · rename_i n
      obtain ⟨rfl, hn⟩ := rep_cell r2'
      split at eo
      · rename_i xs hx
        obtain ⟨ws, h1, h2, h3⟩ := s3.cellL hx
        split at eo
        · rename_i j
          obtain ⟨k, h4, h5⟩ := Option.bind_eq_some_iff.mp eo
          split at h5
          · rename_i hm
            cases h5
            refine .inl ⟨_, ws, j, k, rfl, rep_int r3, h1, by rw [h2.len]; exact h4, ?_⟩
            have s4 := s3.putC hn (.lst (h2.set k r1')) (fun b hb hb2 => bnds_all.mpr fun q hq => by
              rcases List.mem_or_eq_of_mem_set hq with hq | hq
              · exact bnds_all.mp (h3 b hb hb2) q hq
              · rw [hq]
                exact may_ok hm (J.bs b hb) hb2)
            exact p4 F3 κ3 σ _ .refl (by unfold setC; simp) s4
          · cases h5
        · cases eo
      · rename_i kvs hx
        obtain ⟨ws, h1, h2, h3⟩ := s3.cellD hx
        obtain ⟨k, h4, h5⟩ := Option.bind_eq_some_iff.mp eo
        split at h5
        · rename_i hm
          cases h5
          refine .inr ⟨_, _, rfl, .inl ⟨ws, k.key, h1, ky_of r3 h4, by rw [h2.len]; exact big_lt hm.2, rfl⟩, ?_⟩
          have s4 := s3.putC hn (.dK (dput_ok k r1' h2)) (fun b hb hb2 => dput_bnd (h3 b hb hb2) (may_ok hm.1 (J.bs b hb) hb2))
          exact p4 F3 κ3 σ _ .refl (by unfold setC; simp) s4
        · cases h5
      · cases eo
    · cases eo
end
end EL

/-! ELn: loops, stores into fields and slices. -/
namespace EL
open PySem L2 PySem.Spec PyProof.Rows
section
variable {X : Cx} {J : Jx} {pos p1 p2 apos cpos spos : Pos} {a b c e o i tge iter value : PySem.Expr} {x y z w : Ex} {es : List PySem.Expr} {xs : List Ex} {nm : Str} {st : PySem.Stmt} {sts sts2 : List PySem.Stmt} {sm : Sm} {sms sms2 : List Sm} {tx : Tx}
theorem js_for {tg : Tg} {how : Nat} {it : List Ex} (hpo : PassesOwn (model X.prog X.w) X.A X.env X.xe) (hc : X.calm = true) (hp : pl iter = true) (hi : JI X J tge iter how it) (hg : JG X J tge tg) (hb : JSs X J sts sms) : JS X J (.For tge iter sts [] pos) (.for_ tg how it sms) := by
  refine PS.imp (ps_for hpo hc hi hg hb (set_pl hp _)) fun D σ H ⟨F, κ, l, S, s, p⟩ => ?_
  obtain ⟨lg, hlg⟩ : ∃ lg, lg = loopG tg (evSs J.C sms) how := ⟨_, rfl⟩
  have p : PostS J D F κ S.length (bindS (evEs J.C it l S) l fun ds S1 => lg ds fuel 0 l S1) := by
    rw [hlg]
    exact p
  refine ⟨F, κ, l, S, s, ?_⟩
  cases e0 : evEs J.C it l S with
  | stuck =>
    rw [e0] at p
    exact p.elim
  | ex c fs S1 =>
    rw [e0] at p
    have p2 : PostS J D F κ S.length (.ex c fs l S1) := p
    exact fun F1 κ1 d H1 e0 e1 e2 e3 e4 => p2 F1 κ1 d σ H1 e0 e1 e2 (s.step e1 e2 e3) e4
  | ok ds S1 =>
    rw [e0] at p
    have p1 : PostS J D F κ S.length (lg ds fuel 0 l S1) := p
    refine ⟨fun hn => ?_, fun F1 κ1 H1 itr e1 n1 R1 hit => ?_⟩
    · have q : lg ds fuel 0 l S1 = .stuck := by
        rw [hlg]
        show loopG _ _ _ _ fuel 0 l S1 = .stuck
        rw [fuel_eq]
        unfold loopG
        rw [hn]
      rw [q] at p1
      exact p1
    · refine ⟨fun i m σ H => ∃ F2 κ2 l2 S2, Ext F1 κ1 S1.length F2 κ2 ∧ S1.length ≤ S2.length ∧ Stt J F2 κ2 l2 S2 σ H ∧ PostS J D F2 κ2 S2.length (lg ds m i l2 S2), ⟨fuel, F1, κ1, l, S1, .refl, Nat.le_refl _, s.step e1 n1 R1, p1.step e1 n1⟩, ?_⟩
      rintro i m σ2 H2 ⟨F2, κ2, l2, S2, e2, n2, s2, p2⟩
      cases m with
      | zero =>
        rw [hlg] at p2
        exact p2.elim
      | succ m =>
        have hit2 := hit F2 κ2 _ S2 H2 i e2 n2 s2.rel
        have un : lg ds (m + 1) i l2 S2 = (match itemD how ds S2 i with
          | none => .stuck
          | some none => .nx l2 S2
          | some (some x) => match bindT S2 tg x l2 with
            | none => .stuck
            | some l3 => match evSs J.C sms l3 S2 with
              | .nx l4 S3 => lg ds m (i + 1) l4 S3
              | .ct l4 S3 => lg ds m (i + 1) l4 S3
              | .bk l4 S3 => .nx l4 S3
              | q => q) := by
          rw [hlg]
          rfl
        rw [un] at p2
        cases ei : itemD how ds S2 i with
        | none =>
          rw [ei] at p2
          exact p2.elim
        | some od =>
          rw [ei] at p2 hit2
          cases od with
          | none => exact .inl ⟨hit2, s2.nx p2⟩
          | some d =>
            obtain ⟨hgo, hy⟩ := hit2
            refine .inr ⟨hgo, fun σ H => ∃ F2 κ2 l2 S2, Ext F1 κ1 S1.length F2 κ2 ∧ S1.length ≤ S2.length ∧ Stt J F2 κ2 l2 S2 σ H ∧ PostS J D F2 κ2 S2.length (lg ds m (i + 1) l2 S2), fun σ' H' w => ⟨m, Nat.lt_succ_self _, w⟩, fun x H' hyl => ?_⟩
            obtain ⟨F3, e3, R3, rx⟩ := hy x H' hyl
            dsimp only at p2
            cases eb : bindT S2 tg d l2 with
            | none =>
              rw [eb] at p2
              exact p2.elim
            | some l3 =>
              rw [eb] at p2
              dsimp only at p2
              refine ⟨F3, κ2, l2, S2, d, l3, s2.step e3 (Nat.le_refl _) R3, rx, eb, fun σ3 _ s3 => ?_⟩
              refine ⟨F3, κ2, l3, S2, s3, ?_⟩
              have p3 := PostS.step p2 e3 (Nat.le_refl _)
              have e13 := e2.trans e3 n2
              cases ec : evSs J.C sms l3 S2 with
              | nx l4 S3 =>
                rw [ec] at p3
                exact fun F4 κ4 σ4 H4 e4 n4 s4 => ⟨F4, κ4, l4, S3, e13.trans e4 n2, Nat.le_trans n2 n4, s4, PostS.step p3 e4 n4⟩
              | ct l4 S3 =>
                rw [ec] at p3
                exact fun F4 κ4 σ4 H4 e4 n4 s4 => ⟨F4, κ4, l4, S3, e13.trans e4 n2, Nat.le_trans n2 n4, s4, PostS.step p3 e4 n4⟩
              | bk l4 S3 =>
                rw [ec] at p3
                exact fun F4 κ4 σ4 H4 e4 n4 s4 => p3 F4 κ4 σ4 H4 e4 n4 s4
              | rt d S3 =>
                rw [ec] at p3
                exact p3
              | ex c fs l4 S3 =>
                rw [ec] at p3
                exact p3
              | stuck =>
                rw [ec] at p3
                exact p3
theorem js_while (hpo : PassesOwn (model X.prog X.w) X.A X.env X.xe) (hc : JT X J c tx) (hb : JSs X J sts sms) : JS X J (.While c sts [] pos) (.whl tx sms) := by
  refine PS.imp (ps_while hpo hc hb) fun D σ H ⟨F, κ, l, S, s, p⟩ => ?_
  obtain ⟨lw, hlw⟩ : ∃ lw, lw = loopW (evT J.C tx) (evSs J.C sms) := ⟨_, rfl⟩
  have p : PostS J D F κ S.length (lw fuel l S) := by
    rw [hlw]
    exact p
  refine ⟨fun m σ H => ∃ F2 κ2 l2 S2, Stt J F2 κ2 l2 S2 σ H ∧ PostS J D F2 κ2 S2.length (lw m l2 S2), ⟨fuel, F, κ, l, S, s, p⟩, ?_⟩
  rintro m σ2 H2 ⟨F2, κ2, l2, S2, s2, p2⟩
  cases m with
  | zero =>
    rw [hlw] at p2
    exact p2.elim
  | succ m =>
    have un : lw (m + 1) l2 S2 = (match evT J.C tx l2 S2 with
      | .ok false S1 => .nx l2 S1
      | .ok true S1 => (match evSs J.C sms l2 S1 with
        | .nx l3 S3 => lw m l3 S3
        | .ct l3 S3 => lw m l3 S3
        | .bk l3 S3 => .nx l3 S3
        | q => q)
      | .ex c fs S1 => .ex c fs l2 S1
      | .stuck => .stuck) := by
      rw [hlw]
      rfl
    rw [un] at p2
    refine ⟨F2, κ2, l2, S2, s2, ?_⟩
    cases et : evT J.C tx l2 S2 with
    | stuck =>
      rw [et] at p2
      exact p2.elim
    | ex c fs S1 =>
      rw [et] at p2
      have p3 : PostS J D F2 κ2 S2.length (.ex c fs l2 S1) := p2
      exact fun F1 κ1 d H1 e0 e1 e2 e3 e4 => p3 F1 κ1 d σ2 H1 e0 e1 e2 (s2.step e1 e2 e3) e4
    | ok k S1 =>
      rw [et] at p2
      intro F3 κ3 k2 H3 e3 n3 R3 hk
      have hk2 : k2 = k := hk
      subst hk2
      have s3 := s2.step e3 n3 R3
      cases k2 with
      | false =>
        rw [if_neg Bool.false_ne_true]
        exact (show PostS J D F2 κ2 S2.length (.nx l2 S1) from p2) F3 κ3 σ2 H3 e3 n3 s3
      | true =>
        rw [if_pos rfl]
        refine ⟨fun σ H => ∃ F2 κ2 l2 S2, Stt J F2 κ2 l2 S2 σ H ∧ PostS J D F2 κ2 S2.length (lw m l2 S2), fun σ' H' w => ⟨m, Nat.lt_succ_self _, w⟩, F3, κ3, l2, S1, s3, ?_⟩
        have p3 := PostS.step p2 e3 n3
        dsimp only at p3
        cases ec : evSs J.C sms l2 S1 with
        | nx l4 S3 =>
          rw [ec] at p3
          exact fun F4 κ4 σ4 H4 e4 n4 s4 => ⟨F4, κ4, l4, S3, s4, PostS.step p3 e4 n4⟩
        | ct l4 S3 =>
          rw [ec] at p3
          exact fun F4 κ4 σ4 H4 e4 n4 s4 => ⟨F4, κ4, l4, S3, s4, PostS.step p3 e4 n4⟩
        | bk l4 S3 =>
          rw [ec] at p3
          exact fun F4 κ4 σ4 H4 e4 n4 s4 => p3 F4 κ4 σ4 H4 e4 n4 s4
        | rt d S3 =>
          rw [ec] at p3
          exact p3
        | ex c fs l4 S3 =>
          rw [ec] at p3
          exact p3
        | stuck =>
          rw [ec] at p3
          exact p3
/-! ### fields -/
theorem sw_att (e : PySem.Expr) (k : Nat) (env : Env) : swapsWith e (some (.Attribute o nm pos)) k env = pure false := by
  cases e <;> rfl
theorem bndF_all {b : Nat} : ∀ {xs : Fds}, bndF b xs = true ↔ ∀ d ∈ xs, bnd b d.2 = true
  | [] => ⟨fun _ d hd => (by cases hd), fun _ => rfl⟩
  | (k, d) :: r => by
    show (bnd b d && bndF b r) = true ↔ _
    rw [and2, bndF_all]
    simp
theorem fput_bnd {b f : Nat} {d : D} : ∀ {ds : Fds}, bndF b ds = true → bnd b d = true → bndF b (fput f d ds) = true
  | [], _, hd => and2.mpr ⟨hd, rfl⟩
  | (g, e) :: r, h, hd => by
    have h2 := and2.mp (show (bnd b e && bndF b r) = true from h)
    unfold fput
    split
    · exact and2.mpr ⟨hd, h2.2⟩
    · exact and2.mpr ⟨h2.1, fput_bnd h2.2 hd⟩
theorem js_fld {f : Nat} (hn : J.G.fm f = nm) (hf : f < J.G.nf) (hK : J.G.K = X.K) (hc : ∀ c, c < J.G.nk → Cls X.K (J.G.cm c) ∧ NoAttr X.K (J.G.cm c) nm) (he : JE X J e x) (ho : JE X J o y) : JS X J (.Assign [.Attribute o nm p1] e spos) (.fldS y f x) := by
  refine PS.imp (ps_fld ho he (sw_att (o := o) (nm := nm) (pos := p1) e spos.line X.env)) fun D σ H ⟨F, κ, l, S, s, p⟩ => ?_
  refine Can.mono (s.bindS (mf := evE J.C x) p) fun u H1 ⟨F1, κ1, S1, du, e1, n1, s1, r1, p1⟩ => ?_
  refine Can.mono (s1.bindS (mf := evE J.C y) p1) fun v H2 ⟨F2, κ2, S2, dv, e2, n2, s2, r2, p2⟩ => ?_
  cases eo : fldSD J.C.bs dv f du S2 with
  | none =>
    rw [eo] at p2
    exact p2.elim
  | some S3 =>
    rw [eo] at p2
    have p4 : PostS J D F2 κ2 S2.length (.nx l S3) := p2
    unfold fldSD at eo
    split at eo
    · rename_i n
      obtain ⟨rfl, hn2⟩ := rep_cell r2
      split at eo
      · rename_i c fs hx
        split at eo
        · rename_i hm
          cases eo
          obtain ⟨_, ob, h1, cx⟩ := s2.rel.cells _ _ hx
          cases cx with
          | obj lt q =>
            refine ⟨_, _, _, _, rfl, h1, (hc _ lt).1, (hc _ lt).2, ?_, ?_⟩
            · rw [q.len]
              omega
            · have r1' := r1.mono e2 n2
              rw [← hn]
              refine p4 F2 κ2 σ _ .refl (by unfold setC; simp) (s2.putC hn2 (.obj lt (q.put hf r1')) (fun b hb hb2 => ?_))
              exact fput_bnd ((s2.rel.low b hb).2 n _ hb2 hx) (may_ok hm.1 (J.bs b hb) hb2)
        · cases eo
      · cases eo
    · cases eo
end
end EL

/-! ELo: what a function promises; calls. -/
namespace EL
open PySem L2 PySem.Spec PyProof.Rows
/-! ### every parameter is given -/
theorem zip_look : ∀ {ps : List Str} {us : List Value}, ps.Nodup → us.length = ps.length → ps.filterMap (fun n => ((ps.zip us).lookup n).map (n, ·)) = ps.zip us := by
  intro ps us nd hl
  have key : ∀ (ps : List Str) (us : List Value) (pre : List (Str × Value)), ps.Nodup → us.length = ps.length → (∀ p ∈ ps, pre.lookup p = none) → ps.filterMap (fun n => ((pre ++ ps.zip us).lookup n).map (n, ·)) = ps.zip us := by
    intro ps
    induction ps with
    | nil => intros; rfl
    | cons p ps ih =>
      intro us pre nd hl hp
      cases us with
      | nil => cases hl
      | cons u us =>
        have nd2 := List.nodup_cons.mp nd
        have h1 : (pre ++ (p, u) :: ps.zip us).lookup p = some u := by
          rw [List.lookup_append, hp p List.mem_cons_self]
          simp [List.lookup]
        rw [List.zip_cons_cons, List.filterMap_cons, h1]
        have e : pre ++ (p, u) :: ps.zip us = (pre ++ [(p, u)]) ++ ps.zip us := by simp
        rw [e, ih us (pre ++ [(p, u)]) nd2.2 (by simpa using hl) fun q hq => ?_]
        · rfl
        · rw [List.lookup_append, hp q (List.mem_cons_of_mem _ hq)]
          have : (q == p) = false := by
            rw [beq_eq_false_iff_ne]
            intro z
            exact nd2.1 (z ▸ hq)
          simp [List.lookup, this]
  simpa using key ps us [] nd hl (by intros; rfl)
theorem bind_all {fd : FuncData} {as : List PySem.Arg} (hp : fd.params = ⟨[], as, none, [], [], none, []⟩) (hd : fd.defaults = .none) (nd : (as.map (·.arg)).Nodup) {us : List Value} (hl : us.length = (as.map (·.arg)).length) :
    bindArgs fd ⟨us, []⟩ = pure ((as.map (·.arg)).zip us) := by
  have hs : seqItems? (.none : Value) = (pure none : Sem (Option (Array Value))) := rfl
  have look : ∀ p ∈ as.map (·.arg), ∃ u, ((as.map (·.arg)).zip us).lookup p = some u := by
    intro p hp
    obtain ⟨i, hi, e⟩ := List.getElem_of_mem hp
    have hm : (p, us[i]'(by rw [hl]; exact hi)) ∈ (as.map (·.arg)).zip us := by
      rw [← e]
      exact List.mem_iff_getElem.mpr ⟨i, by rw [List.length_zip, hl]; simpa using hi, by simp⟩
    cases q : ((as.map (·.arg)).zip us).lookup p with
    | some u => exact ⟨u, rfl⟩
    | none => exact absurd hm (by
        have := List.lookup_eq_none_iff.mp q
        intro hz
        have := this _ hz
        simp at this)
  unfold bindArgs
  rw [hp, hd, hs]
  simp only [List.map_nil, List.nil_append, List.append_nil, List.zip_nil_right]
  have pb : ∀ {α β : Type} (a : α) (f : α → Sem β), ((pure a : Sem α) >>= f) = f a := fun _ _ => rfl
  have hgt : ¬ (us.length > (as.map (·.arg)).length) := by omega
  have hmiss : ((as.map (·.arg)).filter fun n => (((as.map (·.arg)).zip us).lookup n).isNone) = [] := by
    rw [List.filter_eq_nil_iff]
    intro p hp hn
    obtain ⟨u, hu⟩ := look p hp
    rw [hu] at hn
    cases hn
  simp only [List.forIn_nil, pb, Option.getD_none, hgt, decide_false, Bool.false_and, if_false, List.drop_nil, List.length_nil, Nat.sub_zero, List.take_length, hmiss, List.isEmpty_nil, Bool.not_true, List.drop_length, List.zip_nil_left, zip_look nd hl, Bool.false_eq_true, List.zip_nil_right]
/-! ### what a function promises -/
structure FnE (P : Program) (w : World) (K : PySem.W.Frag) (mg : Str → Option Value) (base : Heap) (k : Nat) (f : Addr) (fd : FuncData) (ps : List Str) (sp : Sp) : Prop where
  len : ∀ vs H Q E, sp vs H Q E → vs.length = ps.length
  run : ∀ (A : Around) (outer : List Env) (s : Shared) (H : Hp) (args : Args) (us : List Value) (vs : List V) (Q : VK) (E : XK), Room k A → A.guards = some [] → Env0 P w K mg base A outer s H → BindsTo s fd args (ps.zip us) → Vals vs us → sp vs H Q E →
    codeAny (model P w) A (.call (.ref f) args) (CR (CX P w) outer P w H s Q E) s
section
variable {P : Program} {w : World} {K : PySem.W.Frag} {mg : Str → Option Value} {base : Heap} {k : Nat} {f C : Addr}
theorem FnE.mono {j : Nat} {fd : FuncData} {ps : List Str} {sp : Sp} (F : FnE P w K mg base j f fd ps sp) (h : j ≤ k) : FnE P w K mg base k f fd ps sp :=
  ⟨F.len, fun A outer s H args us vs Q E hr => F.run A outer s H args us vs Q E (hr.mono h)⟩
/-- a def of the text, by its body -/
theorem fnE_of {name qual : Str} {params : Arguments} {body : List Stmt} {scope : Scope} {dV kV doc pm cdv ct oc : Value} {an od : Option Addr} {osl : Array (Option Value)} {N ps : List Str} {sp : Sp}
    (lk : K.lookup f = some ⟨oc, od, .func (PySem.W.fnOf name qual params body scope dV kV doc pm an cdv ct), osl⟩) (hcd : PySem.W.codeIn K cdv qual = true) (S : FnScope N ps scope)
    (len : ∀ vs H Q E, sp vs H Q E → vs.length = ps.length)
    (hbody : ∀ (A : Around) (outer : List Env) (s : Shared) (H : Hp) (vs : List V) (Q : VK) (E : XK), Room k (A.deeper (envOfC qual scope s.heap.objs.size f cdv)) → A.guards = some [] → sp vs H Q E →
      ∃ t, PSs (cxOf (CX P w) P w K mg base N qual scope f cdv A outer s H E) body t ∧ t { nx := fun _ H' => Q .non H', rt := Q } (start N vs) H) :
    FnE P w K mg base (k + 1) f (PySem.W.fnOf name qual params body scope dV kV doc pm an cdv ct) ps sp := by
  refine ⟨len, fun A outer s H args us vs Q E hr hg e0 hb r hsp => ?_⟩
  have hl := len _ _ _ _ hsp
  have KX : K.In s.heap := e0.mod.kin.keeps fun b o e => (e0.bs b o e).1
  have lim : s.heap.NoLimit := e0.mod.nolimit.keeps fun b o e => (e0.bs b o e).1
  have kinds : ∀ y ∈ ps.zip us, scope.names.lookup y.1 = some .local ∨ (scope.names.lookup y.1 = some .cell ∧ ((cellsFrom (s.heap.objs.size + 1) scope.names []).lookup y.1).isSome = true) := fun ⟨n, v⟩ hy => by
    rcases S.par n (List.of_mem_zip hy).1 with q | q
    · exact .inl q
    · exact .inr ⟨q, PySem.W.cellsFrom_some _ _ _ (.inl q)⟩
  refine codeAny_call_function hr.depth (KX _ _ lk) rfl S.co S.gen rfl (PySem.W.codeRec_of KX hcd) (hb _ _ _ _ ?_)
  refine wpAny_newFunctionEnv_cells S.kind kinds fun env he s1 x => ?_
  subst he
  refine ⟨lim.keeps x.toInCall.keep, codeAny_func ?_⟩
  obtain ⟨t, ht, hq⟩ := hbody A outer s H vs Q E (hr.deeper _) hg hsp
  have I : Inv (cxOf (CX P w) P w K mg base N qual scope f cdv A outer s H E) [] (start N vs) H s1 := inv_start S hr.hd e0 hl r x
  refine wpAny_mono (ht.run [] s1 (start N vs) H _ I hq) (fun fl s' hs => ?_) fun e s' hs => hs
  have fin : ∀ {σ' : L2.St} {H' : Hp} {v : V} {u : Value}, Inv (cxOf (CX P w) P w K mg base N qual scope f cdv A outer s H E) [] σ' H' s' → RelV v u → Q v H' → CE outer P w H s Q u s' :=
    fun {σ' H' v u} J rv q => ⟨v, H', J.os, J.bare, J.base, J.hok, rv, q⟩
  cases fl with
  | ret u =>
    obtain ⟨v, σ', H', J, rv, q⟩ := hs
    exact fin J rv q
  | next =>
    obtain ⟨σ', H', J, q⟩ := hs
    exact fin (v := V.non) (u := Value.none) J rfl q
  | brk =>
    obtain ⟨_, _, _, q⟩ := hs
    exact False.elim q
  | cont =>
    obtain ⟨_, _, _, q⟩ := hs
    exact False.elim q
end
section
variable {X : Cx} {k : Nat} {f C : Addr} {fd : FuncData} {ps : List Str} {sp : Sp} {nm m : Str} {p pos apos : Pos} {e o : PySem.Expr} {es : List PySem.Expr} {ta : TE} {t : TA} {W : WX}
/-- the callee runs -/
theorem run_fnE {pins : List (Addr × Obj)} {σ : L2.St} {H : Hp} {s : Shared} {Q : VK} {us : List Value} {vs : List V} (F : FnE X.prog X.w X.K X.mg X.base k f fd ps sp) (hr : Room k X.A) (hg : X.A.guards = some []) (hb : Binds X.K fd ps []) (tk : Takes X W)
    (I : Inv X pins σ H s) (r : Vals vs us) (h : sp vs H Q (fun c d H' => W c d σ H')) : wpAny (model X.prog X.w) X.A (call (.ref f) us) (EP X pins σ Q) X.xe s := by
  have hl : (us ++ []).length = ps.length := by rw [List.append_nil, ← r.length]; exact F.len _ _ _ _ h
  have hb2 := hb s us I.kIn hl
  rw [List.append_nil] at hb2
  refine wpAny_call (codeAny_mono (F.run X.A X.stack s H ⟨us, []⟩ us vs Q _ hr hg I.env0 hb2 r h) fun r s' hq => ?_)
  cases r with
  | error e => exact tk e s' (XE.of_call I (fun _ _ _ h => h) hq)
  | ok fl =>
    cases fl with
    | ret u => exact I.after hq
    | next => exact False.elim hq
    | brk => exact False.elim hq
    | cont => exact False.elim hq
def tCallE (W : WX) (sp : Sp) (t : TA) : TE := fun σ H Q => t σ H fun vs H1 => sp vs H1 Q (fun c d H' => W c d σ H')
theorem pe_callE (F : FnE X.prog X.w X.K X.mg X.base k f fd ps sp) (hr : Room k X.A) (hgd : X.A.guards = some []) (hg : Gl X nm) (hm : X.mg nm = some (.ref f)) (hk : PySem.W.keepIn X.K (.ref f) = true) (hb : Binds X.K fd ps []) (tk : Takes X W)
    (hp : (e :: es).all pl = true) (ha : PA X (e :: es) t) (hdb : (nm == ("__debug__" : Str)) = false) : PE X (.Call (.Name nm p) (e :: es) [] pos) (tCallE W sp t) := by
  have hp2 := and2.mp (show (pl e && es.all pl) = true from hp)
  refine ⟨fun pins s σ H Q I h => ?_⟩
  refine wpAny_Call_Name_kw (ld_glob I hg hm ?_ hdb)
  refine PySem.W.callWith_K (h₀ := X.base) I.ok.mod.kin hk (thn (ha.run pos pins s σ H _ I h) fun us s1 ⟨vs, H1, I1, r, q⟩ => ⟨I1.kIn, ?_⟩) (star_pl hp2.1 _ _) (back_all hp2.2)
  exact run_fnE F hr hgd hb tk I1 r q
theorem pe_callE0 (F : FnE X.prog X.w X.K X.mg X.base k f fd ps sp) (hr : Room k X.A) (hgd : X.A.guards = some []) (hg : Gl X nm) (hm : X.mg nm = some (.ref f)) (hk : PySem.W.keepIn X.K (.ref f) = true) (hb : Binds X.K fd ps []) (tk : Takes X W)
    (hdb : (nm == ("__debug__" : Str)) = false) : PE X (.Call (.Name nm p) [] [] pos) (tCallE W sp tNil) := by
  refine ⟨fun pins s σ H Q I h => ?_⟩
  refine wpAny_Call_Name_kw (ld_glob I hg hm ?_ hdb)
  exact PySem.W.callWith_K0 I.kIn hk (run_fnE (us := []) F hr hgd hb tk I .nil h)
end
/-! ### what a function's run tells -/
def PostF (G : Gx) (Bs : Gd) (F : Hp) (κ : Nat → Addr) (n : Nat) (Q : VK) (E : XK) : RF → Prop
  | .val d S' => ∀ F' κ' v H', Ext F κ n F' κ' → n ≤ S'.length → Rel G F' κ' Bs S' H' → Rep G F' κ' S'.length v d → Q v H'
  | .fresh c S' => ∀ F' κ' p o H', Ext F κ n F' κ' → n ≤ S'.length → Rel G F' κ' Bs S' H' → H' p = some o → F' p = none → (∀ i, i < S'.length → κ' i ≠ p) → (∀ q ∈ Bs.pr, q.1 ≠ p) → Cont G F' κ' S'.length o c → Q (.ref p) H'
  | .ex c fs S' => ∀ F' κ' d H', G.xk c = true → Ext F κ n F' κ' → n ≤ S'.length → Rel G F' κ' Bs S' H' → XD G F' κ' S'.length d fs → E (.ref (G.cm c)) d H'
  | .stuck => False
def spF (G : Gx) (run : Nat → List D → Sto → RF) : Sp := fun vs H Q E => ∃ F κ Bs bs S ds, Rel G F κ Bs S H ∧ RepA G F κ S.length vs ds ∧ (∀ b ∈ Bs.bs, b ≤ bs) ∧ PostF G Bs F κ S.length Q E (run bs ds S)
/-- an object of the caller's own: a cell, or data -/
theorem post_fresh {J : Jx} {F F' : Hp} {κ κ' : Nat → Addr} {n : Nat} {σ : L2.St} {Q : VK} {b : Bool} {c : D} {S : Sto} {p : Addr} {o : HO} {H : Hp} (h : Post J (Rep J.G) F κ n σ Q (mkF b c S)) (e : Ext F κ n F' κ') (hn : n ≤ S.length) (R : Rel J.G F' κ' J.Bs S H) (hp : H p = some o) (hF : F' p = none)
    (hk : ∀ i, i < S.length → κ' i ≠ p) (hq : ∀ q ∈ J.Bs.pr, q.1 ≠ p) (x : Cont J.G F' κ' S.length o c) : Q (.ref p) H := by
  cases b with
  | false =>
    obtain ⟨R2, e2⟩ := R.freeze hp hF hk hq
    exact h _ κ' _ _ (e.trans e2 hn) hn R2 ((x.mono e2 (Nat.le_refl _)).rep upd_same)
  | true =>
    obtain ⟨κ2, hk2, e2, R2⟩ := R.adopt hp hF hk hq x
    have len : (S ++ [c]).length = S.length + 1 := by simp
    refine h F' κ2 _ _ (e.trans e2 hn) (by rw [len]; omega) R2 ?_
    rw [← hk2]
    exact .cell (by rw [len]; omega)
theorem post_rfE {J : Jx} {F : Hp} {κ : Nat → Addr} {n : Nat} {σ : L2.St} {Q : VK} {b : Bool} {r : RF} (h : Post J (Rep J.G) F κ n σ Q (rfE b r)) : PostF J.G J.Bs F κ n Q (fun c d H' => J.W c d σ H') r := by
  cases r with
  | val d S => exact h
  | fresh c S => exact fun F' κ' p o H' e hn R hp hF hk hq x => post_fresh h e hn R hp hF hk hq x
  | ex c fs S => exact h
  | stuck => exact h
section
variable {X : Cx} {J : Jx} {pos p1 p2 apos cpos : Pos} {a b c e o : PySem.Expr} {x y z w : Ex} {es : List PySem.Expr} {xs : List Ex} {nm : Str}
theorem je_call {k : Nat} {kb : Bool} {fi : Nat} {f : Addr} {fd : FuncData} {ps : List Str} (F : FnE X.prog X.w X.K X.mg X.base k f fd ps (spF J.G (J.C.pg.fn fi))) (hr : Room k X.A) (hgd : X.A.guards = some []) (hg : Gl X nm) (hm : X.mg nm = some (.ref f)) (hk : PySem.W.keepIn X.K (.ref f) = true) (hb : Binds X.K fd ps [])
    (tk : Takes X J.W) (hp : (e :: es).all pl = true) (ha : JA X J (e :: es) xs) (hdb : (nm == ("__debug__" : Str)) = false) : JE X J (.Call (.Name nm p1) (e :: es) [] pos) (.call kb fi xs) := by
  refine PE.imp (pe_callE F hr hgd hg hm hk hb tk hp ha hdb) fun σ H Q ⟨F, κ, l, S, s, p⟩ => ?_
  refine Can.mono (s.bind (mf := evEs J.C xs) p) fun vs H1 ⟨F1, κ1, S1, ds, _, _, s1, r1, p1⟩ => ?_
  exact ⟨F1, κ1, J.Bs, J.C.bs, S1, ds, s1.rel, r1, J.bs, post_rfE p1⟩
theorem je_call0 {k : Nat} {kb : Bool} {fi : Nat} {f : Addr} {fd : FuncData} {ps : List Str} (F : FnE X.prog X.w X.K X.mg X.base k f fd ps (spF J.G (J.C.pg.fn fi))) (hr : Room k X.A) (hgd : X.A.guards = some []) (hg : Gl X nm) (hm : X.mg nm = some (.ref f)) (hk : PySem.W.keepIn X.K (.ref f) = true) (hb : Binds X.K fd ps [])
    (tk : Takes X J.W) (hdb : (nm == ("__debug__" : Str)) = false) : JE X J (.Call (.Name nm p1) [] [] pos) (.call kb fi []) := by
  refine PE.imp (pe_callE0 F hr hgd hg hm hk hb tk hdb) fun σ H Q ⟨F, κ, l, S, s, p⟩ => ?_
  exact ⟨F, κ, J.Bs, J.C.bs, S, [], s.rel, .nil, J.bs, post_rfE p⟩
end
end EL

/-! ELq: a function's end: its cells go. -/
namespace EL
open PySem L2 PySem.Spec PyProof.Rows
section
variable {G : Gx} {F : Hp} {κ : Nat → Addr} {n n0 : Nat} {f : Nat → Option D}
theorem map_some {α β : Type} {o : Option α} {g : α → β} {b : β} (h : o.map g = some b) : ∃ a, o = some a ∧ g a = b := Option.map_eq_some_iff.mp h
mutual
theorem resW_ok (hf : ∀ i d', n0 ≤ i → i < n → f i = some d' → Rep G F κ n0 (.ref (κ i)) d') : ∀ {v : V} {d d' : D}, Rep G F κ n v d → resW n0 f d = some d' → Rep G F κ n0 v d'
  | _, _, _, .non, h => by
    cases h
    exact .non
  | _, _, _, .bl b, h => by
    cases h
    exact .bl b
  | _, _, _, .int b, h => by
    cases h
    exact .int b
  | _, _, _, .str b, h => by
    cases h
    exact .str b
  | _, .tup xs, _, .tup s r, h => by
    obtain ⟨ys, h1, h2⟩ := map_some (show (resWs n0 f xs).map D.tup = some _ from h)
    subst h2
    exact .tup s (resWs_ok hf r h1)
  | _, .lst xs, _, .lst s r, h => by
    obtain ⟨ys, h1, h2⟩ := map_some (show (resWs n0 f xs).map D.lst = some _ from h)
    subst h2
    exact .lst s (resWs_ok hf r h1)
  | _, .scr xs, _, .scr s r, h => by
    obtain ⟨ys, h1, h2⟩ := map_some (show (resWs n0 f xs).map D.scr = some _ from h)
    subst h2
    exact .scr s (resWs_ok hf r h1)
  | _, .dK xs, _, .dK s r, h => by
    obtain ⟨ys, h1, h2⟩ := map_some (show (resWK n0 f xs).map D.dK = some _ from h)
    subst h2
    exact .dK s (resWK_ok hf r h1)
  | _, .dT xs, _, .dT s r, h => by
    obtain ⟨ys, h1, h2⟩ := map_some (show (resWT n0 f xs).map D.dT = some _ from h)
    subst h2
    exact .dT s (resWT_ok hf r h1)
  | _, .obj c xs, _, .obj lt s r, h => by
    obtain ⟨ys, h1, h2⟩ := map_some (show (resWF n0 f xs).map (D.obj c) = some _ from h)
    subst h2
    exact .obj lt s (resWF_ok hf r h1)
  | _, .cell i, _, .cell l, h => by
    have h2 : (if i < n0 then some (D.cell i) else f i) = some _ := h
    by_cases hi : i < n0
    · rw [if_pos hi] at h2
      cases h2
      exact .cell hi
    · rw [if_neg hi] at h2
      exact hf i _ (Nat.le_of_not_lt hi) l h2
theorem resWs_ok (hf : ∀ i d', n0 ≤ i → i < n → f i = some d' → Rep G F κ n0 (.ref (κ i)) d') : ∀ {v : List V} {d d' : List D}, RepA G F κ n v d → resWs n0 f d = some d' → RepA G F κ n0 v d'
  | _, _, _, .nil, h => by
    cases h
    exact .nil
  | _, x :: xs, _, .cons r s, h => by
    have h2 : (match resW n0 f x, resWs n0 f xs with
      | some a, some b => some (a :: b)
      | _, _ => none) = some _ := h
    split at h2
    · rename_i a b ha hb
      cases h2
      exact .cons (resW_ok hf r ha) (resWs_ok hf s hb)
    · cases h2
theorem resWK_ok (hf : ∀ i d', n0 ≤ i → i < n → f i = some d' → Rep G F κ n0 (.ref (κ i)) d') : ∀ {v : List (Key × V)} {d d' : List (Ky × D)}, RepK G F κ n v d → resWK n0 f d = some d' → RepK G F κ n0 v d'
  | _, _, _, .nil, h => by
    cases h
    exact .nil
  | _, (k, x) :: xs, _, .cons r s, h => by
    have h2 : (match resW n0 f x, resWK n0 f xs with
      | some a, some b => some ((k, a) :: b)
      | _, _ => none) = some _ := h
    split at h2
    · rename_i a b ha hb
      cases h2
      exact .cons (resW_ok hf r ha) (resWK_ok hf s hb)
    · cases h2
theorem resWT_ok (hf : ∀ i d', n0 ≤ i → i < n → f i = some d' → Rep G F κ n0 (.ref (κ i)) d') : ∀ {v : List (List Key × V)} {d d' : List (List Ky × D)}, RepT G F κ n v d → resWT n0 f d = some d' → RepT G F κ n0 v d'
  | _, _, _, .nil, h => by
    cases h
    exact .nil
  | _, (k, x) :: xs, _, .cons r s, h => by
    have h2 : (match resW n0 f x, resWT n0 f xs with
      | some a, some b => some ((k, a) :: b)
      | _, _ => none) = some _ := h
    split at h2
    · rename_i a b ha hb
      cases h2
      exact .cons (resW_ok hf r ha) (resWT_ok hf s hb)
    · cases h2
theorem resWF_ok (hf : ∀ i d', n0 ≤ i → i < n → f i = some d' → Rep G F κ n0 (.ref (κ i)) d') : ∀ {v : List (Str × V)} {d d' : Fds}, RepF G F κ n v d → resWF n0 f d = some d' → RepF G F κ n0 v d'
  | _, _, _, .nil, h => by
    cases h
    exact .nil
  | _, (k, x) :: xs, _, .cons l r s, h => by
    have h2 : (match resW n0 f x, resWF n0 f xs with
      | some a, some b => some ((k, a) :: b)
      | _, _ => none) = some _ := h
    split at h2
    · rename_i a b ha hb
      cases h2
      exact .cons l (resW_ok hf r ha) (resWF_ok hf s hb)
    · cases h2
end
theorem resC_ok {o : HO} {c c' : D} (hf : ∀ i d', n0 ≤ i → i < n → f i = some d' → Rep G F κ n0 (.ref (κ i)) d') (x : Cont G F κ n o c) (h : resW n0 f c = some c') : Cont G F κ n0 o c' := by
  cases x with
  | @lst vs ds r =>
    obtain ⟨ys, h1, h2⟩ := map_some (show (resWs n0 f ds).map D.lst = some _ from h)
    subst h2
    exact .lst (resWs_ok hf r h1)
  | @dK vs ds r =>
    obtain ⟨ys, h1, h2⟩ := map_some (show (resWK n0 f ds).map D.dK = some _ from h)
    subst h2
    exact .dK (resWK_ok hf r h1)
  | @dT vs ds r =>
    obtain ⟨ys, h1, h2⟩ := map_some (show (resWT n0 f ds).map D.dT = some _ from h)
    subst h2
    exact .dT (resWT_ok hf r h1)
  | @obj c dx vs ds lt r =>
    obtain ⟨ys, h1, h2⟩ := map_some (show (resWF n0 f ds).map (D.obj c) = some _ from h)
    subst h2
    exact .obj lt (resWF_ok hf r h1)
def resF (n0 : Nat) (S : Sto) (h : Nat) : Nat → Option D := fun n => match S[n]? with
  | some c => if isCont c then res n0 S h c else none
  | none => none
theorem resF_ok {S : Sto} (hc : ∀ i c, S[i]? = some c → isCont c = true → n0 ≤ i → i < n → Rep G F κ n (.ref (κ i)) c) : ∀ h i d', n0 ≤ i → i < n → resF n0 S h i = some d' → Rep G F κ n0 (.ref (κ i)) d'
  | h, i, d', h1, h2, e => by
    unfold resF at e
    split at e
    · rename_i c hS
      split at e
      · rename_i hC
        have r := hc i c hS hC h1 h2
        cases h with
        | zero => exact resW_ok (fun _ _ _ _ z => by cases z) r e
        | succ h => exact resW_ok (resF_ok hc h) r e
      · cases e
    · cases e
theorem res_ok {S : Sto} (hc : ∀ i c, S[i]? = some c → isCont c = true → n0 ≤ i → i < n → Rep G F κ n (.ref (κ i)) c) {h : Nat} {v : V} {d d' : D} (r : Rep G F κ n v d) (e : res n0 S h d = some d') : Rep G F κ n0 v d' := by
  cases h with
  | zero => exact resW_ok (fun _ _ _ _ z => by cases z) r e
  | succ h => exact resW_ok (resF_ok hc h) r e
theorem resCont_ok {S : Sto} (hc : ∀ i c, S[i]? = some c → isCont c = true → n0 ≤ i → i < n → Rep G F κ n (.ref (κ i)) c) {h : Nat} {o : HO} {d d' : D} (r : Cont G F κ n o d) (e : res n0 S h d = some d') : Cont G F κ n0 o d' := by
  cases h with
  | zero => exact resC_ok (fun _ _ _ _ z => by cases z) r e
  | succ h => exact resC_ok (resF_ok hc h) r e
end
section
variable {G : Gx} {F : Hp} {κ : Nat → Addr} {S : Sto} {H : Hp} {n0 : Nat} {bs : List Nat} {pr : List (Addr × HO)}
open Classical in
/-- the cells from n0 on are frozen, but x -/
theorem Rel.cut (R : Rel G F κ ⟨n0 :: bs, pr⟩ S H) (hb : ∀ b ∈ bs, b ≤ n0) (x : Option Nat) :
    ∃ F2, Ext F κ S.length F2 κ ∧ Rel G F2 κ ⟨bs, pr⟩ (S.take n0) H ∧ (∀ i c, n0 ≤ i → S[i]? = some c → x ≠ some i → Rep G F2 κ S.length (.ref (κ i)) c) ∧ ∀ i, x = some i → i < S.length → F2 (κ i) = none := by
  have hn : n0 ≤ S.length := (R.low n0 List.mem_cons_self).1
  obtain ⟨F2, hF2⟩ : ∃ F2 : Hp, F2 = fun a => if ∃ i, n0 ≤ i ∧ i < S.length ∧ x ≠ some i ∧ κ i = a then H a else F a := ⟨_, rfl⟩
  have yes : ∀ i, n0 ≤ i → i < S.length → x ≠ some i → F2 (κ i) = H (κ i) := fun i h1 h2 h3 => by
    rw [hF2]
    exact if_pos ⟨i, h1, h2, h3, rfl⟩
  have no : ∀ a, (∀ i, n0 ≤ i → i < S.length → x ≠ some i → κ i ≠ a) → F2 a = F a := fun a h => by
    rw [hF2]
    exact if_neg fun ⟨i, h1, h2, h3, h4⟩ => h i h1 h2 h3 h4
  have cellF : ∀ i, i < S.length → F (κ i) = none := fun i hi => (R.cells i S[i] (List.getElem?_eq_getElem hi)).1
  have fr : ∀ a u, F a = some u → F2 a = some u := fun a u e => by
    rw [no a fun i _ h2 _ h4 => by rw [← h4, cellF i h2] at e; cases e]
    exact e
  have ex : Ext F κ S.length F2 κ := ⟨fr, fun _ _ => rfl⟩
  have len : (S.take n0).length = n0 := by rw [List.length_take]; omega
  refine ⟨F2, ex, ⟨fun a u e => ?_, fun i c e => ?_, fun i j hi hj e => ?_, fun b hbm => ?_, fun q hq => ?_⟩, fun i c h1 h2 h3 => ?_, fun i h1 h2 => ?_⟩
  · by_cases h : ∃ i, n0 ≤ i ∧ i < S.length ∧ x ≠ some i ∧ κ i = a
    · obtain ⟨i, h1, h2, h3, h4⟩ := h
      subst h4
      rw [yes i h1 h2 h3] at e
      exact .inl e
    · rw [no a fun i h1 h2 h3 h4 => h ⟨i, h1, h2, h3, h4⟩] at e
      exact R.sub a u e
  · have hi : i < n0 := by
      have := ix_lt e
      rw [len] at this
      exact this
    rw [List.getElem?_take, if_pos hi] at e
    obtain ⟨f, o, h1, h2⟩ := R.cells i c e
    refine ⟨?_, o, h1, ?_⟩
    · rw [no _ fun j h1 h2 _ h4 => by
        have := R.inj j i h2 (ix_lt e) h4
        omega]
      exact f
    · rw [len]
      exact (h2.low ((R.low n0 List.mem_cons_self).2 i c hi e)).mono ⟨fr, fun _ _ => rfl⟩ (Nat.le_refl _)
  · rw [len] at hi hj
    exact R.inj i j (by omega) (by omega) e
  · obtain ⟨l1, l2⟩ := R.low b (List.mem_cons_of_mem _ hbm)
    refine ⟨by rw [len]; exact hb b hbm, fun i c hi e => l2 i c hi ?_⟩
    have : i < n0 := by
      have := hb b hbm
      omega
    rw [List.getElem?_take, if_pos this] at e
    exact e
  · obtain ⟨q1, q2, q3⟩ := R.prot q hq
    refine ⟨q1, ?_, fun i hi => q3 i (by rw [len] at hi; omega)⟩
    rw [no _ fun i _ h2 _ h4 => q3 i h2 h4]
    exact q2
  · obtain ⟨f, o, h4, h5⟩ := R.cells i c h2
    have e := yes i h1 (ix_lt h2) h3
    rw [h4] at e
    exact (h5.mono ex (Nat.le_refl _)).rep e
  · rw [no _ fun j h3 h4 h5 h6 => by
      have := R.inj j i h4 h2 h6
      subst this
      exact h5 h1]
    exact cellF i h2
theorem take_len {n : Nat} {S : Sto} (h : n ≤ S.length) : (S.take n).length = n := by
  rw [List.length_take]
  omega
/-- the base of a function's own -/
def inner (keep : Bool) (n0 : Nat) (Bs : Gd) : Gd := if keep then Bs else ⟨n0 :: Bs.bs, Bs.pr⟩
variable {Bs : Gd} {F0 : Hp} {κ0 : Nat → Addr} {Q : VK} {E : XK} {keep : Bool}
theorem exitV_ok {d : D} {v : V} (p : PostF G Bs F0 κ0 n0 Q E (exitV n0 keep d S)) (e : Ext F0 κ0 n0 F κ) (hn : n0 ≤ S.length) (R : Rel G F κ (inner keep n0 Bs) S H) (hb : ∀ b ∈ Bs.bs, b ≤ n0) (r : Rep G F κ S.length v d) : Q v H := by
  cases keep with
  | true => exact (show PostF G Bs F0 κ0 n0 Q E (.val d S) from p) F κ v H e hn R r
  | false =>
    have R : Rel G F κ ⟨n0 :: Bs.bs, Bs.pr⟩ S H := R
    have tl := take_len hn
    by_cases hcell : ∃ i, d = .cell i
    · obtain ⟨i, rfl⟩ := hcell
      obtain ⟨rfl, hi⟩ := rep_cell r
      have p : PostF G Bs F0 κ0 n0 Q E (if i < n0 then .val (.cell i) (S.take n0) else match S[i]? with
        | some c => if isCont c then (match res n0 (S.set i .non) hops c with
          | some c' => .fresh c' (S.take n0)
          | none => .stuck) else .stuck
        | none => .stuck) := p
      by_cases h : i < n0
      · rw [if_pos h] at p
        obtain ⟨F2, e2, R2, _, _⟩ := R.cut hb none
        exact p F2 κ _ H (e.trans e2 hn) (by rw [tl]; exact Nat.le_refl _) R2 (.cell (by rw [tl]; exact h))
      · rw [if_neg h] at p
        split at p
        · rename_i c hc
          split at p
          · split at p
            · rename_i c' hres
              obtain ⟨F2, e2, R2, fz, nx⟩ := R.cut hb (some i)
              obtain ⟨_, o, ho, co⟩ := R.cells i c hc
              have p2 : PostF G Bs F0 κ0 n0 Q E (.fresh c' (S.take n0)) := p
              refine p2 F2 κ (κ i) o H (e.trans e2 hn) (by rw [tl]; exact Nat.le_refl _) R2 ho (nx i rfl hi) (fun j hj z => ?_) (fun q hq z => ?_) ?_
              · rw [tl] at hj
                have := R.inj j i (by omega) hi z
                omega
              · exact (R.prot q hq).2.2 i hi z.symm
              · rw [tl]
                refine resCont_ok (fun j cj hj hC h1 h2 => ?_) (co.mono e2 (Nat.le_refl _)) hres
                by_cases hji : j = i
                · subst hji
                  rw [List.getElem?_set_self hi] at hj
                  cases hj
                  cases hC
                · rw [List.getElem?_set_ne (Ne.symm hji)] at hj
                  exact fz j cj h1 hj (fun z => hji (Option.some.inj z).symm)
            · exact p.elim
          · exact p.elim
        · exact p.elim
    · have p : PostF G Bs F0 κ0 n0 Q E (match res n0 S hops d with
        | some d' => .val d' (S.take n0)
        | none => .stuck) := by
        cases d with
        | cell i => exact absurd ⟨i, rfl⟩ hcell
        | _ => exact p
      split at p
      · rename_i d' hres
        obtain ⟨F2, e2, R2, fz, _⟩ := R.cut hb none
        refine p F2 κ v H (e.trans e2 hn) (by rw [tl]; exact Nat.le_refl _) R2 ?_
        rw [tl]
        exact res_ok (fun j cj hj hC h1 h2 => fz j cj h1 hj (by intro z; cases z)) (r.mono e2 (Nat.le_refl _)) hres
      · exact p.elim
theorem fget_res {n0 : Nat} {f : Nat → Option D} {g : Nat} {x' : D} : ∀ {fs fs' : Fds}, resWF n0 f fs = some fs' → fget g fs' = some x' → ∃ x, fget g fs = some x ∧ resW n0 f x = some x'
  | [], _, h, h2 => by
    cases h
    cases h2
  | (k, x) :: xs, _, h, h2 => by
    have h3 : (match resW n0 f x, resWF n0 f xs with
      | some a, some b => some ((k, a) :: b)
      | _, _ => none) = some _ := h
    split at h3
    · rename_i a b ha hb
      cases h3
      unfold fget at h2 ⊢
      by_cases e : k = g
      · rw [if_pos e] at h2 ⊢
        cases h2
        exact ⟨x, rfl, ha⟩
      · rw [if_neg e] at h2 ⊢
        exact fget_res hb h2
    · cases h3
theorem exitX_ok {c : Nat} {fs : Fds} {d : Option Addr} (p : PostF G Bs F0 κ0 n0 Q E (exitX n0 keep c fs S)) (hx : G.xk c = true) (e : Ext F0 κ0 n0 F κ) (hn : n0 ≤ S.length) (R : Rel G F κ (inner keep n0 Bs) S H) (hb : ∀ b ∈ Bs.bs, b ≤ n0) (r : XD G F κ S.length d fs) : E (.ref (G.cm c)) d H := by
  cases keep with
  | true => exact (show PostF G Bs F0 κ0 n0 Q E (.ex c fs S) from p) F κ d H hx e hn R r
  | false =>
    have R : Rel G F κ ⟨n0 :: Bs.bs, Bs.pr⟩ S H := R
    have tl := take_len hn
    have p : PostF G Bs F0 κ0 n0 Q E (match resWF n0 (resF n0 S hops) fs with
      | some fs' => .ex c fs' (S.take n0)
      | none => .stuck) := p
    split at p
    · rename_i fs' hres
      obtain ⟨F2, e2, R2, fz, _⟩ := R.cut hb none
      refine p F2 κ d H hx (e.trans e2 hn) (by rw [tl]; exact Nat.le_refl _) R2 ?_
      rcases r with r | ⟨dd, vs, h1, h2, h3⟩
      · subst r
        cases hres
        exact .inl rfl
      · refine .inr ⟨dd, vs, h1, e2.fr _ _ h2, fun g x' hg => ?_⟩
        obtain ⟨x, h4, h5⟩ := fget_res hres hg
        obtain ⟨u, h6, h7⟩ := h3 g x h4
        refine ⟨u, h6, ?_⟩
        rw [tl]
        exact resW_ok (resF_ok (fun j cj hj hC h1 h2 => fz j cj h1 hj (by intro z; cases z)) hops) (h7.mono e2 (Nat.le_refl _)) h5
    · exact p.elim
end
end EL

/-! ELe: slices stored, written dicts. -/
namespace EL
open PySem L2 PySem.Spec PyProof.Rows
section
variable {prog : Program} {w : World} {A : Around} {E : Value → Shared → Prop} {s : Shared}
theorem bounds_cut {a c n : Nat} (hac : a ≤ c) : sliceBounds (some (a : Int)) (some (c : Int)) none n = (((min a n : Nat) : Int), ((min c n : Nat) : Int), 1) := by
  simp only [sliceBounds, Option.getD_none]
  have h1 : ¬ ((a : Int) < 0) := by omega
  have h2 : ¬ ((c : Int) < 0) := by omega
  simp only [h1, h2, if_false, show (1 : Int) > 0 by decide, if_true]
  congr 1
  · omega
  · congr 1; omega
open HT in
set_option maxRecDepth 100000 in
theorem setItem_cut {l b sl : Addr} {items new : Array Value} {n n2 : Nat} {vl vu : Value} {a c : Nat} {Q : Unit → Shared → Prop}
    (e : s.heap.get? l = some { cls := .type "list", data := .seq items n }) (e2 : s.heap.get? b = some { cls := .type "list", data := .seq new n2 }) (hne : l ≠ b)
    (hs : s.heap.IsSliceOf sl vl vu .none) (pl : IsPart vl (some (a : Int))) (pu : IsPart vu (some (c : Int))) (hac : a ≤ c)
    (hsz : items.size + new.size ≤ sizeLine) (h : Q () { s with heap := s.heap.update l (Obj.mapSeq fun xs => xs.extract 0 (min a items.size) ++ new ++ xs.extract (min c items.size) xs.size) }) :
    wpAny (model prog w) A (setItem (.ref l) (.ref sl) (.ref b)) Q E s := by
  have hl : s.heap.IsList l items := PySem.IsL.isList e
  have hb : s.heap.IsList b new := PySem.IsL.isList e2
  obtain ⟨os, hos, hcs, hds⟩ := id hs
  have hTs : s.TypeIs (.ref sl) "slice" := ⟨os, hos, hcs⟩
  have hstep : ¬ ((rawPart none == rawInt 0) = true) := Bool.false_ne_true
  have hsame : Builtin.List.listSameRef (.ref l) (.ref b) = false := by
    unfold Builtin.List.listSameRef
    exact beq_eq_false_iff_ne.mpr hne
  have hmax : (max ((min a items.size : Nat) : Int) ((min c items.size : Nat) : Int)).toNat = min c items.size := by omega
  have hz' : ((fun xs : Array Value => xs.extract 0 (min a items.size) ++ new ++ xs.extract (min c items.size) xs.size) items).size ≤ sizeLine + 1 := by
    simp only [Array.size_append, Array.size_extract]
    omega
  unfold setItem
  try with_reducible refine wpAny_holding ?_
  first | refine wpAny_bind (wpAny_pure ?_) | skip
  refine wpAny_bind (wpAny_sequenceKey hl.typeIs (by decide) ?_)
  refine wpAny_bind (wpAny_callSpecial?_slot (name := Str.ofString "__setitem__") hl.typeIs slot_list_setitem
    (wpAny_call_entry slot_list_setitem hl.typeIs entry_list_setitem ?_ (args_list_setitem _ _ _)))
  show wpAny _ _ (Builtin.List.listSubscript? (.ref sl) >>= _) _ _ s
  refine wpAny_bind ?_
  unfold Builtin.List.listSubscript?
  refine wpAny_bind (wpAny_specialOf hTs slice_no_index ?_)
  simp only [Option.isNone_none, if_true]
  refine wpAny_pure ?_
  show wpAny _ _ (typeOf (.ref sl) >>= _) _ _ s
  refine wpAny_bind (wpAny_typeOf hTs ?_)
  first
    | rw [if_neg (by decide)]
    | refine PySem.W.KFB.if_not (by decide) ?_
  rw [listSliceParts_eq]
  refine wpAny_bind (wpAny_bind (wpAny_field hos hds (x := .none) rfl (wpAny_bind (wpAny_listPart .none ?_))))
  rw [if_neg hstep]
  refine wpAny_bind (wpAny_field hos hds (x := vl) rfl (wpAny_bind (wpAny_listPart pl ?_)))
  refine wpAny_bind (wpAny_field hos hds (x := vu) rfl (wpAny_bind (wpAny_listPart pu (wpAny_pure ?_))))
  first
    | simp only [hsame, Bool.false_eq_true, if_false]
    | refine PySem.W.KFB.if_not hsame ?_
    | (dsimp only
       rw [if_neg (by rw [hsame]; exact Bool.false_ne_true)])
  refine wpAny_bind (m := Builtin.List.listAllItems (.ref b) "must assign iterable to extended slice") ?_
  unfold Builtin.List.listAllItems
  refine wpAny_bind (wpAny_typeOf hb.typeIs ?_)
  first
    | refine PySem.W.KFB.if_so (by decide) ?_
    | rw [if_pos (by decide)]
    | simp only [beq_self_eq_true, Bool.true_or, if_true]
  unfold Builtin.List.listItems
  refine wpAny_bind (wpAny_seqItems e2 rfl (wpAny_pure ?_))
  refine wpAny_bind (wpAny_bind (wpAny_seqItems e rfl (wpAny_pure ?_)))
  refine wpAny_bind (wpAny_of_eq ((sliceIndices_raw (some (a : Int)) (some (c : Int)) none items.size (by simp)).trans (congrArg (pure : Int × Int × Int → Sem (Int × Int × Int)) (bounds_cut hac))) ?_)
  show wpAny _ _ (if ((1 : Int) == 1) = true then _ else _) _ _ s
  rw [if_pos (by decide)]
  refine wpAny_bind (wpAny_rule ?_)
  first
    | simp only [notLongL hsz, Bool.false_eq_true, if_false]
    | refine PySem.W.KFB.if_not (notLongL hsz) ?_
  first | refine wpAny_bind (wpAny_pure ?_) | skip
  show wpAny _ _ (updateSeq l (fun xs => xs.extract 0 (((min a items.size : Nat) : Int)).toNat ++ new ++ xs.extract (max ((min a items.size : Nat) : Int) ((min c items.size : Nat) : Int)).toNat xs.size) >>= _) _ _ s
  rw [hmax, Int.toNat_natCast]
  refine wpAny_bind (wpAny_updateSeq (hz := Nat.le_trans (Nat.le_add_right _ _) hsz) (_hz' := hz') e rfl ?_)
  refine wpAny_bind (wpAny_letGo ?_)
  first
    | exact wpAny_bind (wpAny_pure (wpAny_pure ⟨.none, rfl, wpAny_pure h⟩))
    | exact wpAny_pure ⟨.none, rfl, wpAny_pure h⟩
end
section
variable {X : Cx}
theorem set_cut {pins : List (Addr × Obj)} {s : Shared} {σ : L2.St} {H : Hp} {l b sl : Addr} {xs ys : List V} {a c : Nat} {vl vu : Value} {Q : Unit → Shared → Prop} (I : Inv X pins σ H s)
    (hH : H l = some (.lst xs)) (hB : H b = some (.lst ys)) (hne : l ≠ b) (hs : s.heap.IsSliceOf sl vl vu .none) (pl : IsPart vl (some (a : Int))) (pu : IsPart vu (some (c : Int))) (hac : a ≤ c)
    (hz : xs.length + ys.length ≤ sizeLine) (h : ∀ s', Inv X pins σ (upd H l (.lst (xs.take a ++ ys ++ xs.drop c))) s' → Q () s') :
    wpAny (model X.prog X.w) X.A (setItem (.ref l) (.ref sl) (.ref b)) Q X.xe s := by
  obtain ⟨z, its, n, r, hl, e⟩ := I.lstM hH
  obtain ⟨z2, its2, n2, r2, hl2, e2⟩ := I.lstM hB
  refine setItem_cut (a := a) (c := c) e e2 hne hs pl pu hac (by rw [List.size_toArray, List.size_toArray]; omega) (h _ ?_)
  have t1 : its.take (min a its.length) = its.take a := by
    rcases Nat.le_total a its.length with q | q
    · rw [Nat.min_eq_left q]
    · rw [Nat.min_eq_right q, List.take_length, List.take_of_length_le q]
  have t2 : its.drop (min c its.length) = its.drop c := by
    rcases Nat.le_total c its.length with q | q
    · rw [Nat.min_eq_left q]
    · rw [Nat.min_eq_right q, List.drop_length, List.drop_eq_nil_of_le q]
  refine I.lset (its' := its.take a ++ its2 ++ its.drop c) (t' := s.toks) hH e ?_ (Vals.append (Vals.append (r.take _) r2) (r.drop _)) ?_
  · have := splice_eq its its2 (min a its.length) (min c its.length)
    rw [t1, t2] at this
    exact this
  · rw [List.length_append, List.length_append, List.length_take, List.length_drop]
    omega
variable {J : Jx} {pos p1 p2 spos : Pos} {o e lo hi : PySem.Expr} {x y z w : Ex}
theorem pg_cut {to : TE} {tl th : TO} (ho : PE X o to) (hl : PO X (some lo) tl) (hu : PO X (some hi) th) : PG X (.Subscript o (.Slice (some lo) (some hi) none p2) pos) (fun v σ H Q => to σ H fun x H1 => tl σ H1 fun l H2 => th σ H2 fun u H3 =>
    ∃ (p b : Addr) (xs ys : List V) (a c : Nat), x = .ref p ∧ v = .ref b ∧ p ≠ b ∧ H3 p = some (.lst xs) ∧ H3 b = some (.lst ys) ∧ l = some (a : Int) ∧ u = some (c : Int) ∧ a ≤ c ∧ xs.length + ys.length ≤ sizeLine ∧ Q σ (upd H3 p (.lst (xs.take a ++ ys ++ xs.drop c)))) := by
  refine ⟨fun pins s σ H v u Q I r h => ?_⟩
  have ha : assign (.Subscript o (.Slice (some lo) (some hi) none p2) pos) X.env u = (do
      let ov ← holding [u] (eval o X.env)
      let iv ← holding [u, ov] (eval (.Slice (some lo) (some hi) none p2) X.env)
      standAt pos
      holding [u, ov, iv] (setItem ov iv u)
      release [iv, u, ov] []) := rfl
  rw [ha]
  refine wpAny_bind (wpAny_holding (thn (ho.run pins s σ H _ I h) fun ov s1 ⟨x, H1, I1, r1, q1⟩ => ?_))
  refine wpAny_bind (wpAny_holding ?_)
  refine wpAny_Slice (thn (hl.run pins s1 σ H1 _ I1 q1) fun vl s2 ⟨l, H2, I2, pl, q2⟩ => thn (hu.run pins s2 σ H2 _ I2 q2) fun vu s3 ⟨uu, H3, I3, pu, q3⟩ => ?_)
  rw [evalPart_none]
  refine wpAny_pure ?_
  have I4 : Inv X pins σ H3 { s3 with heap := s3.heap.push { cls := .type "slice", data := .fields #[vl, vu, .none] } } := I3.kept (t' := s3.toks) fun b ob q => Heap.get?_push_of_some _ q
  obtain ⟨p, b, xs, ys, a, c, rfl, rfl, hne, h1, h2, rfl, rfl, hac, hz, q⟩ := q3
  cases r1
  cases r
  refine wpAny_bind (wpAny_standAt (wpAny_bind (wpAny_holding (set_cut I4 h1 h2 hne (Heap.IsSliceOf.new ..) pl pu hac hz fun s' I' => ?_))))
  exact wpAny_release ⟨σ, _, I', q⟩
theorem js_slc (he : JE X J e x) (ho : JE X J o y) (hl : JE X J lo z) (hh : JE X J hi w) : JS X J (.Assign [.Subscript o (.Slice (some lo) (some hi) none p2) p1] e spos) (.slcS y z w x) := by
  refine PS.imp (ps_asg he (pg_cut ho (jo_some hl) (jo_some hh)) (sw_sub (o := o) (i := .Slice (some lo) (some hi) none p2) (pos := p1) e spos.line X.env) rfl rfl) fun D σ H ⟨F, κ, l, S, s, p⟩ => ?_
  refine Can.mono (s.bindS (mf := evE J.C x) p) fun u H1 ⟨F1, κ1, S1, du, e1, n1, s1, r1, p1⟩ => ?_
  refine Can.mono (s1.bindS (mf := evE J.C y) p1) fun v H2 ⟨F2, κ2, S2, dv, e2, n2, s2, r2, p2⟩ => ?_
  refine Can.mono (s2.bindS (mf := evO J.C (some z)) p2) fun va H3 ⟨F3, κ3, S3, da, e3, n3, s3, r3, p3⟩ => ?_
  refine Can.mono (s3.bindS (mf := evO J.C (some w)) p3) fun vb H4 ⟨F4, κ4, S4, db, e4, n4, s4, r4, p4⟩ => ?_
  cases r3
  cases r4
  cases va with
  | none => exact p4.elim
  | some ia =>
    cases vb with
    | none => exact p4.elim
    | some ib =>
      have p4 : PostS J D F4 κ4 S4.length (optS (slsD J.C.bs dv ia ib du S4) l) := p4
      have r1' := ((r1.mono e2 n2).mono e3 n3).mono e4 n4
      have r2' := (r2.mono e3 n3).mono e4 n4
      cases eo : slsD J.C.bs dv ia ib du S4 with
      | none =>
        rw [eo] at p4
        exact p4.elim
      | some S5 =>
        rw [eo] at p4
        have p5 : PostS J D F4 κ4 S4.length (.nx l S5) := p4
        unfold slsD at eo
        cases dv with
        | cell cn =>
          dsimp only at eo
          obtain ⟨rfl, hn⟩ := rep_cell r2'
          split at eo
          · rename_i cx cy hx hy
            split at eo
            · rename_i hm
              cases eo
              obtain ⟨ws, h1, h2, h3⟩ := s4.cellL hx
              obtain ⟨b, us, rfl, h4, h5⟩ := s4.rel.gLst r1' hy
              obtain ⟨⟨m1, m2⟩, m3, m4, m5⟩ := hm
              have hne : κ4 cn ≠ b := fun z => by
                cases r1' with
                | @cell cj hi =>
                  have := s4.rel.inj cn cj hn hi z
                  subst this
                  have : isCell cn (.cell cn) = true := decide_eq_true rfl
                  rw [this] at m5
                  cases m5
                | lst f _ =>
                  rw [← z, (s4.rel.cells cn _ hx).1] at f
                  cases f
                | tup _ _ => cases hy
                | scr _ _ => cases hy
                | dK _ _ => cases hy
                | dT _ _ => cases hy
                | obj _ _ _ => cases hy
              refine ⟨κ4 cn, b, ws, us, ia.toNat, ib.toNat, rfl, rfl, hne, h1, h4, ?_, ?_, by omega, ?_, ?_⟩
              · rw [Int.toNat_of_nonneg m1]
              · rw [Int.toNat_of_nonneg (by omega)]
              · rw [h2.len, h5.len]
                exact Nat.le_of_lt (big_lt m3)
              · refine p5 F4 κ4 σ _ .refl (by unfold setC; simp) (s4.putC hn (.lst (((h2.take _).app h5).app (h2.drop _))) fun bb hb hb2 => ?_)
                have l1 := bnds_all.mp (h3 bb hb hb2)
                refine bnds_all.mpr fun q hq => ?_
                rcases List.mem_append.mp hq with hq | hq
                · rcases List.mem_append.mp hq with hq | hq
                  · exact l1 q (List.mem_of_mem_take hq)
                  · rw [Bool.or_eq_true, decide_eq_true_eq] at m4
                    rcases m4 with m4 | m4
                    · have := J.bs bb hb
                      omega
                    · exact bnds_all.mp (bnds_nc m4) q hq
                · exact l1 q (List.mem_of_mem_drop hq)
            · cases eo
          · cases eo
        | _ => cases eo
/-! ### written dicts -/
def Jx.gp (J : Jx) (pr : List (Addr × HO)) : Jx := { J with Bs := ⟨J.Bs.bs, pr⟩, bs := J.bs }
def trsOf (J : Jx) : List Ex → List (TE × TE)
  | x :: y :: r => ((fun σ H Q => ∃ pr, Can (J.gp pr) (Rep J.G) (evE J.C x) σ H Q), (fun σ H Q => ∃ pr, Can (J.gp pr) (Rep J.G) (evE J.C y) σ H Q)) :: trsOf J r
  | _ => []
inductive JPs (X : Cx) (J : Jx) : List (Option PySem.Expr) → List PySem.Expr → List Ex → Prop
  | nil : JPs X J [] [] []
  | cons {k v : PySem.Expr} {x y : Ex} {ks : List (Option PySem.Expr)} {vs : List PySem.Expr} {r : List Ex} : (∀ pr, JE X (J.gp pr) k x) → (∀ pr, JE X (J.gp pr) v y) → JPs X J ks vs r → JPs X J (some k :: ks) (v :: vs) (x :: y :: r)
theorem JPs.pps {ks : List (Option PySem.Expr)} {vs : List PySem.Expr} {r : List Ex} (h : JPs X J ks vs r) : PPs X pos ks vs (trsOf J r) := by
  induction h with
  | nil => exact pps_nil
  | cons hk hv _ ih => exact pps_cons (PE.ex fun pr => hk pr) (PE.ex fun pr => hv pr) ih
theorem JPs.some {ks : List (Option PySem.Expr)} {vs : List PySem.Expr} {r : List Ex} (h : JPs X J ks vs r) : ks.all (·.isSome) = true ∧ ks.length = vs.length := by
  induction h with
  | nil => exact ⟨rfl, rfl⟩
  | cons _ _ _ ih => exact ⟨and2.mpr ⟨rfl, ih.1⟩, by simp [ih.2]⟩
theorem rbind_assoc {α β γ : Type} (r : EL.R α) (f : α → Sto → EL.R β) (g : β → Sto → EL.R γ) : (r.bind f).bind g = r.bind fun a S => (f a S).bind g := by
  cases r <;> rfl
def flatV : List (V × V) → List V
  | [] => []
  | (x, y) :: r => x :: y :: flatV r
theorem tp_can {pr : List (Addr × HO)} : ∀ {ks : List (Option PySem.Expr)} {vs : List PySem.Expr} {r : List Ex}, JPs X J ks vs r → ∀ {σ : L2.St} {H : Hp} {Q : List (V × V) → Hp → Prop},
    Can (J.gp pr) (RepA J.G) (evEs J.C r) σ H (fun ws H' => ∀ ps, ws = flatV ps → Q ps H') → tPairs (trsOf J r) σ H Q
  | _, _, _, .nil, σ, H, Q, ⟨F, κ, l, S, s, p⟩ => p F κ [] H .refl (Nat.le_refl _) s.rel .nil [] rfl
  | _, _, _, .cons (x := x) (y := y) (r := r) hk hv h, σ, H, Q, ⟨F, κ, l, S, s, p⟩ => by
    refine ⟨pr, Can.mono (s.bind (mf := evE J.C x) p) fun u H1 ⟨F1, κ1, S1, du, _, _, s1, r1, p1⟩ => ?_⟩
    have p1 : Post (J.gp pr) (RepA J.G) F1 κ1 S1.length σ (fun ws H' => ∀ ps, ws = flatV ps → Q ps H') (((evE J.C y l S1).bind fun d S2 => (evEs J.C r l S2).bind fun ds S3 => .ok (d :: ds) S3).bind fun ds S2 => .ok (du :: ds) S2) := p1
    rw [rbind_assoc] at p1
    refine ⟨pr, Can.mono (s1.bind (mf := evE J.C y) p1) fun v H2 ⟨F2, κ2, S2, dv, e2, n2, s2, r2, p2⟩ => ?_⟩
    dsimp only at p2
    rw [rbind_assoc] at p2
    refine tp_can (pr := pr) h (Can.mono (s2.bind (mf := evEs J.C r) p2) fun ws H3 ⟨F3, κ3, S3, ds, e3, n3, s3, r3, p3⟩ => fun ps hps => ?_)
    refine p3 F3 κ3 (u :: v :: ws) H3 .refl (Nat.le_refl _) s3.rel (.cons ((r1.mono e2 n2).mono e3 n3) (.cons (r2.mono e3 n3) r3)) ((u, v) :: ps) ?_
    rw [hps]
    rfl
theorem pair_ok {F : Hp} {κ : Nat → Addr} {n : Nat} : ∀ {ds : List D} {ws : List V} {kvs : List (Ky × D)}, pairD ds = some kvs → RepA J.G F κ n ws ds → ∃ ps : List (Key × V), ws = flatV (ps.map fun kv => (kV kv.1, kv.2)) ∧ RepK J.G F κ n ps kvs
  | [], _, _, h, .nil => by
    cases h
    exact ⟨[], rfl, .nil⟩
  | [_], _, _, h, _ => by cases h
  | k :: d :: r, _, kvs, h, .cons r1 (.cons r2 r3) => by
    have h2 : (match kyOf k, pairD r with
      | some k, some r => some ((k, d) :: r)
      | _, _ => none) = some kvs := h
    split at h2
    · rename_i ky rs hk hr
      cases h2
      obtain ⟨ps, h3, h4⟩ := pair_ok hr r3
      refine ⟨(ky.key, _) :: ps, ?_, .cons r2 h4⟩
      rw [ky_of r1 hk, h3]
      rfl
    · cases h2
theorem merge_ok {F : Hp} {κ : Nat → Addr} {n : Nat} : ∀ {more : List (Key × V)} {md : List (Ky × D)} {vs : List (Key × V)} {ds : List (Ky × D)}, RepK J.G F κ n more md → RepK J.G F κ n vs ds → RepK J.G F κ n (mergeK vs more) (mergeD ds md)
  | _, _, _, _, .nil, q => q
  | _, _, vs, ds, .cons (k := k) (v := v) (d := d) (vs := vs') (ds := ds') r s, q => by
    have := merge_ok (vs := putK vs k.key v) (ds := dput k d ds) s (dput_ok k r q)
    exact this
theorem je_dic {k : Bool} {ks : List (Option PySem.Expr)} {vs : List PySem.Expr} {r : List Ex} (h : JPs X J ks vs r) (h0 : ks ≠ []) (h15 : ks.length ≤ 15) : JE X J (.Dict ks vs pos) (.dic k r []) := by
  refine PE.imp (pe_disp h.pps h.some.1 h.some.2 h0 h15) fun σ H Q ⟨F, κ, l, S, s, p⟩ => ?_
  intro q hq
  have sg : Stt (J.gp ((q, .dK []) :: J.Bs.pr)) F κ l S σ (upd H q (.dK [])) := ⟨s.rel.guard hq, s.lo, s.hx, s.hn⟩
  refine tp_can (pr := (q, .dK []) :: J.Bs.pr) h ⟨F, κ, l, S, sg, ?_⟩
  have dq := s.rel.pne hq
  have p : Post J (Rep J.G) F κ S.length σ Q ((evEs J.C r l S).bind fun ds S1 => match pairD ds with
    | some kvs => if kvs.length ≤ 15 then mkF k (.dK (mergeD [] kvs)) S1 else .stuck
    | none => .stuck) := p
  cases e0 : evEs J.C r l S with
  | stuck =>
    rw [e0] at p
    exact p.elim
  | ex c fs S1 =>
    rw [e0] at p
    exact fun F1 κ1 d H1 e0 e1 e2 e3 e4 => (show Post J (Rep J.G) F κ S.length σ Q (.ex c fs S1) from p) F1 κ1 d H1 e0 e1 e2 (Rel.unguard e3) e4
  | ok ds S1 =>
    rw [e0] at p
    intro F1 κ1 ws H1 e1 n1 R1 ra ps hps
    have p2 : Post J (Rep J.G) F κ S.length σ Q (match pairD ds with
      | some kvs => if kvs.length ≤ 15 then mkF k (.dK (mergeD [] kvs)) S1 else .stuck
      | none => .stuck) := p
    split at p2
    · rename_i kvs hk
      split at p2
      · rename_i hl
        obtain ⟨hd, hF, hn⟩ := R1.prot (q, .dK []) List.mem_cons_self
        obtain ⟨ps2, h3, h4⟩ := pair_ok hk ra
        have inj : ∀ {a b : List (V × V)}, flatV a = flatV b → a = b := by
          intro a
          induction a with
          | nil =>
            intro b h
            cases b with
            | nil => rfl
            | cons p b => obtain ⟨x, y⟩ := p; cases h
          | cons p a ih =>
            intro b h
            obtain ⟨x, y⟩ := p
            cases b with
            | nil => cases h
            | cons p b =>
              obtain ⟨x', y'⟩ := p
              have h2 : x :: y :: flatV a = x' :: y' :: flatV b := h
              injection h2 with e1 h2
              injection h2 with e2 h2
              rw [e1, e2, ih h2]
        refine ⟨hd, ps2, inj (hps.symm.trans h3), by rw [h4.len]; exact hl, ?_⟩
        have R2 := (Rel.reguard (o' := .dK (mergeK [] ps2)) R1 dq).unguard
        have cc : Cont J.G F1 κ1 S1.length (.dK (mergeK [] ps2)) (.dK (mergeD [] kvs)) := .dK (merge_ok h4 .nil)
        exact post_fresh (p2.step e1 n1) .refl (Nat.le_refl _) R2 upd_same hF hn dq cc
      · exact p2.elim
    · exact p2.elim
end
end EL

/-! ELg: comparisons as tests; what a checker looks at beside the tree. -/
namespace EL
open PySem L2 PySem.Spec PyProof.Rows
section
variable {X : Cx} {J : Jx} {pos p1 p2 apos cpos : Pos} {a b c e : PySem.Expr} {x y z w : Ex} {es : List PySem.Expr} {xs : List Ex} {tx ty : Tx}
theorem canB {σ : L2.St} {H : Hp} {Q : Bool → Hp → Prop} (h : Can J RB (evT J.C (.b z)) σ H Q) : Can J (Rep J.G) (evE J.C z) σ H (fun v H1 => ∃ k, v = .bl k ∧ Q k H1) := by
  obtain ⟨F, κ, l, S, s, p⟩ := h
  have p : Post J RB F κ S.length σ Q (asB (evE J.C z l S)) := p
  rw [asB_bind] at p
  refine Can.mono (s.bind (mf := evE J.C z) p) fun u H1 ⟨F1, κ1, S1, du, _, _, s1, r1, p1⟩ => ?_
  cases du with
  | bl k => exact ⟨k, rep_bl r1, s1.retB p1⟩
  | _ => exact p1.elim
theorem cmp_imp {o : Cop} {op : CmpOp} {r : R2} (h2 : ∀ F κ l S σ H (Q : VK) u v du dv b, Stt J F κ l S σ H → Rep J.G F κ S.length u du → Rep J.G F κ S.length v dv → cmpD o S du dv = some b → Q (.bl b) H → r u v H Q)
    {σ : L2.St} {H : Hp} {Q : VK} (h : Can J (Rep J.G) (evE J.C (.cmp o x y)) σ H Q) : tOp r (Can J (Rep J.G) (evE J.C x)) (Can J (Rep J.G) (evE J.C y)) σ H Q := by
  obtain ⟨F, κ, l, S, s, p⟩ := h
  refine Can.mono (s.bind (mf := evE J.C x) p) fun u H1 ⟨F1, κ1, S1, du, _, _, s1, r1, p1⟩ => ?_
  refine Can.mono (s1.bind (mf := evE J.C y) p1) fun v H2 ⟨F2, κ2, S2, dv, e2, n2, s2, r2, p2⟩ => ?_
  obtain ⟨b, e, q⟩ := optB s2 p2
  exact h2 _ _ _ _ _ _ _ _ _ _ _ b s2 (r1.mono e2 n2) r2 e q
theorem jt_cmp {o : Cop} {op : CmpOp} (h : CmpR X J o op) (ha : JE X J a x) (hb : JE X J b y) (hm : behindInMarks op b = false) : JT X J (.Compare a [op] [b] pos) (.b (.cmp o x y)) := by
  obtain ⟨r, h1, h2⟩ := h
  exact PT.imp (pt_cmpR h1 ha hb hm) fun σ H Q q => cmp_imp (op := op) h2 (canB q)
theorem chain_imp {o o' : Cop} {r r' : R2} (h2 : ∀ F κ l S σ H (Q : VK) u v du dv b, Stt J F κ l S σ H → Rep J.G F κ S.length u du → Rep J.G F κ S.length v dv → cmpD o S du dv = some b → Q (.bl b) H → r u v H Q)
    (h2' : ∀ F κ l S σ H (Q : VK) u v du dv b, Stt J F κ l S σ H → Rep J.G F κ S.length u du → Rep J.G F κ S.length v dv → cmpD o' S du dv = some b → Q (.bl b) H → r' u v H Q)
    {σ : L2.St} {H : Hp} {Q : VK} (h : Can J (Rep J.G) (evE J.C (.chain o o' x y z)) σ H Q) : tChain r r' (Can J (Rep J.G) (evE J.C x)) (Can J (Rep J.G) (evE J.C y)) (Can J (Rep J.G) (evE J.C z)) σ H Q := by
  obtain ⟨F, κ, l, S, s, p⟩ := h
  refine Can.mono (s.bind (mf := evE J.C x) p) fun u H1 ⟨F1, κ1, S1, du, _, _, s1, r1, p1⟩ => ?_
  refine Can.mono (s1.bind (mf := evE J.C y) p1) fun v H2 ⟨F2, κ2, S2, dv, e2, n2, s2, r2, p2⟩ => ?_
  dsimp only at p2
  cases hc1 : cmpD o S2 du dv with
  | none =>
    rw [hc1] at p2
    exact p2.elim
  | some k =>
    rw [hc1] at p2
    refine h2 _ _ _ _ _ _ _ _ _ _ _ k s2 (r1.mono e2 n2) r2 hc1 ⟨k, rfl, ?_⟩
    cases k with
    | false =>
      rw [if_neg (by decide)]
      exact s2.ret p2 (.bl false)
    | true =>
      rw [if_pos rfl]
      refine Can.mono (s2.bind (mf := evE J.C z) p2) fun v3 H3 ⟨F3, κ3, S3, dw, e3, n3, s3, r3, p3⟩ => ?_
      obtain ⟨b, e, q⟩ := optB s3 p3
      exact h2' _ _ _ _ _ _ _ _ _ _ _ b s3 (r2.mono e3 n3) r3 e q
theorem jt_chain {o o' : Cop} {op op' : CmpOp} (h : CmpR X J o op) (h' : CmpR X J o' op') (ha : JE X J a x) (hb : JE X J b y) (hc : JE X J c z) (hm : lastMarks [op, op'] [b, c] = false) : JT X J (.Compare a [op, op'] [b, c] pos) (.b (.chain o o' x y z)) := by
  obtain ⟨r, h1, h2⟩ := h
  obtain ⟨r', h1', h2'⟩ := h'
  exact PT.imp (pt_chain h1 h1' ha hb hc hm) fun σ H Q q => chain_imp h2 h2' (canB q)
theorem jt_isN {j : Nat} (ha : JE X J a x) : JT X J (.Compare a [.Is] [.Constant .none j p1] pos) (.b (.isN x)) := by
  refine PT.imp (pt_cmp (pc_isN ha)) fun σ H Q q => ?_
  obtain ⟨F, κ, l, S, s, p⟩ := canB q
  refine Can.mono (s.bind (mf := evE J.C x) p) fun u H1 ⟨F1, κ1, S1, du, _, _, s1, r1, p1⟩ => ?_
  show ∃ c, V.bl (decide (u = .non)) = .bl c ∧ Q c H1
  rw [decide_non r1]
  exact s1.ret p1 (.bl _)
theorem jt_notN {j : Nat} (ha : JE X J a x) : JT X J (.Compare a [.IsNot] [.Constant .none j p1] pos) (.b (.notN x)) := by
  refine PT.imp (pt_cmp (pc_notN ha)) fun σ H Q q => ?_
  obtain ⟨F, κ, l, S, s, p⟩ := canB q
  refine Can.mono (s.bind (mf := evE J.C x) p) fun u H1 ⟨F1, κ1, S1, du, _, _, s1, r1, p1⟩ => ?_
  show ∃ c, V.bl (!decide (u = .non)) = .bl c ∧ Q c H1
  rw [decide_non r1]
  exact s1.ret p1 (.bl _)
theorem jt_isB {j : Nat} {k : Bool} (ha : JE X J a x) : JT X J (.Compare a [.Is] [.Constant (.bool k) j p1] pos) (.b (.isB k x)) := by
  refine PT.imp (pt_cmpR (op_isK (k := k)) ha pe_bl rfl) fun σ H Q q => ?_
  obtain ⟨F, κ, l, S, s, p⟩ := canB q
  refine Can.mono (s.bind (mf := evE J.C x) p) fun u H1 ⟨F1, κ1, S1, du, _, _, s1, r1, p1⟩ => ?_
  obtain ⟨b, e, q⟩ := optB s1 p1
  exact isK_of (neg := false) (Q := fun v H1 => ∃ k, v = .bl k ∧ Q k H1) r1 e (by cases b <;> exact q)
theorem jt_notB {j : Nat} {k : Bool} (ha : JE X J a x) : JT X J (.Compare a [.IsNot] [.Constant (.bool k) j p1] pos) (.b (.notB k x)) := by
  refine PT.imp (pt_cmpR (op_notK (k := k)) ha pe_bl rfl) fun σ H Q q => ?_
  obtain ⟨F, κ, l, S, s, p⟩ := canB q
  refine Can.mono (s.bind (mf := evE J.C x) p) fun u H1 ⟨F1, κ1, S1, du, _, _, s1, r1, p1⟩ => ?_
  have p2 : Post J (Rep J.G) F1 κ1 S1.length σ (fun v H1 => ∃ k, v = .bl k ∧ Q k H1) (optR (((isBl k du).map (!·)).map .bl) S1) := by
    rw [Option.map_map]
    exact p1
  obtain ⟨b, e, q⟩ := optB s1 p2
  cases e3 : isBl k du with
  | none =>
    rw [e3] at e
    cases e
  | some c =>
    rw [e3] at e
    cases e
    exact isK_of (neg := true) (Q := fun v H1 => ∃ k, v = .bl k ∧ Q k H1) r1 e3 (by cases c <;> exact q)
/-! ### expressions whose test is their value's truth -/
def plainT : PySem.Expr → Bool
  | .UnaryOp .Not _ _ => false
  | .BoolOp _ _ _ => false
  | .IfExp _ _ _ _ => false
  | .Compare _ _ _ _ => false
  | _ => true
theorem true_pl {e : PySem.Expr} (h : plainT e = true) (env : Env) (whole : Sem Value) : isTrue e env whole = (do let v ← whole; standAt e.pos; holding [v] (truthy v)) := by
  cases e with
  | UnaryOp op a p => cases op <;> first | rfl | cases h
  | BoolOp _ _ _ => cases h
  | IfExp _ _ _ _ => cases h
  | Compare _ _ _ _ => cases h
  | _ => rfl
theorem jt_bp (ha : JE X J a x) (hp : plainT a = true) : JT X J a (.b x) := jt_b ha fun t h => pt_val h (true_pl hp _)
theorem jt_vp (hK : J.G.K = X.K) (ha : JE X J a x) (hp : plainT a = true) : JT X J a (.v x) := jt_v hK ha (true_pl hp _)
/-! ### a, b = x, y: stored from the right -/
theorem sw_par2 {env : Env} {nx ny : Str} {px py pt : Pos} {kt k2 : Nat} {pt2 : Pos} (hk : env.scope.kind = .function) (hx : env.scope.names.lookup nx = some .local) (hy : env.scope.names.lookup ny = some .local) (hn : (nx == ny) = false) (hl : (py.line == px.line) = true)
    (ha : pl a = true) (hb : pl b = true) (hf : [a, b].all (foldedForSure 8) = false) (hc : [a, b].all (constantsAlone 8) = false) :
    swappedStores [.Tuple [.Name nx px, .Name ny py] kt pt] (.Tuple [a, b] k2 pt2) env = pure (some [nx, ny]) := by
  have kx : env.kindOf nx = some .local := hx
  have ky : env.kindOf ny = some .local := hy
  have hb2 : env.blockKind = .function := by unfold Env.blockKind; rw [hk]; rfl
  have hpx : (PySem.Expr.Name nx px).pos.line = px.line := rfl
  have ed : [nx, ny].eraseDups = [nx, ny] := by
    have hn2 : (ny == nx) = false := by
      rw [beq_eq_false_iff_ne] at hn ⊢
      exact fun z => hn z.symm
    simp [List.eraseDups_cons, hn2]
  unfold swappedStores
  simp only [hb2, kx, ky, hf, hc, List.head?_cons, Option.map_some, Option.getD_some, hpx, hl, List.filterMap_cons, List.filterMap_nil, beq_self_eq_true, Bool.and_self, if_true, List.length_cons, List.length_nil, ed]
  refine (if_neg (by decide)).trans ((if_neg fun h => ?_).trans ((if_neg (by decide)).trans ((if_neg Bool.false_ne_true).trans (if_neg Bool.false_ne_true))))
  rw [List.any_eq_true] at h
  obtain ⟨z, hz, h2⟩ := h
  have hzp : pl z = true := by
    rcases List.mem_cons.mp hz with hz | hz
    · rw [hz]; exact ha
    · rw [List.mem_singleton.mp hz]; exact hb
  cases z <;> first | (cases h2; done) | (cases hzp; done)
theorem sw_par3 {env : Env} {nx ny nz : Str} {px py pz pt : Pos} {kt k2 : Nat} {pt2 : Pos} (hk : env.scope.kind = .function) (hx : env.scope.names.lookup nx = some .local) (hy : env.scope.names.lookup ny = some .local) (hz : env.scope.names.lookup nz = some .local)
    (hn : (nx == ny) = false) (hn2 : (nx == nz) = false) (hn3 : (ny == nz) = false) (hl : (py.line == px.line) = true) (hl2 : (pz.line == px.line) = true)
    (ha : pl a = true) (hb : pl b = true) (hd : pl c = true) (hf : [a, b, c].all (foldedForSure 8) = false) (hc : [a, b, c].all (constantsAlone 8) = false) :
    swappedStores [.Tuple [.Name nx px, .Name ny py, .Name nz pz] kt pt] (.Tuple [a, b, c] k2 pt2) env = pure (some [nx, ny, nz]) := by
  have kx : env.kindOf nx = some .local := hx
  have ky : env.kindOf ny = some .local := hy
  have kz : env.kindOf nz = some .local := hz
  have hb2 : env.blockKind = .function := by unfold Env.blockKind; rw [hk]; rfl
  have hpx : (PySem.Expr.Name nx px).pos.line = px.line := rfl
  have sym : ∀ {a b : Str}, (a == b) = false → (b == a) = false := fun {a b} h => by
    rw [beq_eq_false_iff_ne] at h ⊢
    exact fun z => h z.symm
  have ed : [nx, ny, nz].eraseDups = [nx, ny, nz] := by
    simp [List.eraseDups_cons, sym hn, sym hn2, sym hn3]
  unfold swappedStores
  simp only [hb2, kx, ky, kz, hf, hc, List.head?_cons, Option.map_some, Option.getD_some, hpx, hl, hl2, List.filterMap_cons, List.filterMap_nil, beq_self_eq_true, Bool.and_self, if_true, List.length_cons, List.length_nil, ed]
  refine (if_neg (by decide)).trans ((if_neg fun h => ?_).trans ((if_neg (by decide)).trans ((if_neg Bool.false_ne_true).trans (if_neg Bool.false_ne_true))))
  rw [List.any_eq_true] at h
  obtain ⟨z, hz, h2⟩ := h
  have hzp : pl z = true := by
    rcases List.mem_cons.mp hz with hz | hz
    · rw [hz]; exact ha
    · rcases List.mem_cons.mp hz with hz | hz
      · rw [hz]; exact hb
      · rw [List.mem_singleton.mp hz]; exact hd
  cases z <;> first | (cases h2; done) | (cases hzp; done)
end
end EL

/-! ELt1: several except clauses, with names or without. -/
namespace EL
open PySem L2 PySem.Spec PyProof.Rows
/-- what a clause's suite answers: a the exception, cls its class, d its dict -/
abbrev SuT := Addr → Value → Option Addr → TS
/-- the ends of a suite whose clause has a name -/
def Ends.gone (D : Ends) : Option Nat → Ends
  | none => D
  | some i => { nx := fun σ H => D.nx (σ.set i none) H, rt := D.rt, bk := fun σ H => D.bk (σ.set i none) H, ct := fun σ H => D.ct (σ.set i none) H }
def named (σ : L2.St) (a : Addr) : Option Nat → L2.St
  | none => σ
  | some i => σ.set i (some (.ref a))
/-- clause by clause -/
def wCl (K : PySem.W.Frag) (W0 : WX) (D : Ends) : List (Value × Option Nat × SuT) → WX
  | [] => W0
  | (c, i, ts) :: r => fun cls d σ H => ∃ b, PySem.W.exmOne K cls c = some b ∧ (b = true → ∀ a, H a = none → ts a cls d (Ends.gone D i) (named σ a i) H) ∧ (b = false → wCl K W0 D r cls d σ H)
/-- a clause's name -/
def NmOk (X : Cx) : Option Str → Option Nat → Prop
  | none, none => True
  | some n, some i => X.N[i]? = some n ∧ X.env.kindOf n = some .local
  | _, _ => False
inductive Cls3 (X : Cx) : List ExceptHandler → List (Value × Option Nat × SuT) → Prop
  | nil : Cls3 X [] []
  | cons {x : Str} {nm : Option Str} {i : Option Nat} {c : Value} {ts : SuT} {b0 : PySem.Stmt} {sts : List PySem.Stmt} {np pos : Pos} {hds : List ExceptHandler} {l : List (Value × Option Nat × SuT)} (hc : Names X x c) (hn : NmOk X nm i)
      (hb : ∀ (a : Addr) (oe : Obj) (cls : Value) (d : Option Addr) (pn : List (Addr × Obj)), Zc cls d oe → (∃ vs, oe.data = .fields vs) → PSs (X.suite a ((a, oe) :: pn)) (b0 :: sts) (ts a cls d)) (r : Cls3 X hds l) :
      Cls3 X (.ExceptHandler (some (.Name x np)) nm (b0 :: sts) pos :: hds) ((c, i, ts) :: l)
/-- an exception that has come to a try's clauses -/
structure Hot (X : Cx) (pins : List (Addr × Obj)) (a : Addr) (B : Heap) (cls : Value) (d : Option Addr) (σ : L2.St) (H : Hp) (sI s : Shared) : Prop where
  inv : Inv X pins σ H sI
  old : ∀ b o, sI.heap.get? b = some o → b ∉ frs X.stack → B.get? b = some o
  up : sI.heap.UpToSlots s.heap
  fly : HandSPX.FlyingZ B (X.env :: X.outer) a (Zc cls d) s.heap
  na : H a = none
  os : s.os = sI.os
  bare : AllBare s.gens
section
variable {X : Cx} {pins : List (Addr × Obj)} {a : Addr} {B : Heap} {cls : Value} {d : Option Addr} {σ : L2.St} {H : Hp} {sI s : Shared}
theorem Hot.here (h : Hot X pins a B cls d σ H sI s) : Inv X pins σ H s := h.inv.landed h.old h.fly.1 h.up h.os h.bare
/-- it is no frame -/
theorem Hot.nfr (h : Hot X pins a B cls d σ H sI s) : a ∉ frs (X.env :: X.outer) := fun hm => by
  obtain ⟨oe, vs, e1, _, e2⟩ := h.fly.there
  obtain ⟨_, o, e3, nf⟩ := h.fly.2.2.1.mem hm
  rw [e1] at e3
  cases e3
  exact nf _ e2
theorem Hot.nloc (h : Hot X pins a B cls d σ H sI s) (hf : X.env.frame = some X.env.locals) : a ≠ X.env.locals := fun e =>
  h.nfr (List.mem_filterMap.mpr ⟨X.env, List.mem_cons_self, by rw [hf, e]⟩)
theorem Hot.nout (h : Hot X pins a B cls d σ H sI s) : a ∉ X.fs := fun hm => by
  obtain ⟨e, h1, h2⟩ := List.mem_filterMap.mp hm
  exact h.nfr (List.mem_filterMap.mpr ⟨e, List.mem_cons_of_mem _ h1, h2⟩)
/-- within a suite -/
theorem Hot.inside (h : Hot X pins a B cls d σ H sI s) (hf : X.env.frame = some X.env.locals) :
    ∃ oe, Zc cls d oe ∧ (∃ vs, oe.data = .fields vs) ∧ s.heap.get? a = some oe ∧ Inv (X.suite a ((a, oe) :: (X.pn ++ pins))) [] σ H s := by
  obtain ⟨oe, vs, e1, hz, e2⟩ := h.fly.there
  exact ⟨oe, hz, ⟨vs, e2⟩, e1, h.here.suite e1 e2 h.na (h.nloc hf) h.nout⟩
theorem Hot.again {M : Model} {A : Around} {E : Value → Shared → Prop} {Q : Unit → Shared → Prop} (h : Hot X pins a B cls d σ H sI s) (k : ∀ s', Hot X pins a B cls d σ H sI s' → Q () s') : wpAny M A (setFlight (.ref a) none) Q E s :=
  HandSPX.lands_againZ h.fly fun h' fl up => k _ ⟨h.inv, h.old, h.up.trans up, fl, h.na, h.os, h.bare⟩
/-- no clause takes it -/
theorem Hot.on {W0 : WX} {Q : Flow → Shared → Prop} {w : String} (hs : X.stack = X.env :: X.outer) (hf : X.env.frame = some X.env.locals) (tk : Takes X W0) (h : Hot X pins a B cls d σ H sI s) (hw : W0 cls d σ H) :
    wpAny (model X.prog X.w) X.A (PySem.passOn w (.ref a) X.env : Sem Flow) Q X.xe s := by
  obtain ⟨_, _, _, oe, vs, T, _, _, e1, _, e2, e3, _⟩ := id h.fly
  have go : wpAny (model X.prog X.w) X.A (setFlight (.ref a) X.env.frame) (fun _ s4 => wpAny (model X.prog X.w) X.A (throw (.ref a) : Sem Flow) Q X.xe s4) X.xe s := by
    rw [hf]
    refine HandSPX.setFlight_upZ h.fly fun h4 hl up4 => wpAny_throw (tk _ _ ⟨a, B, sI, pins, σ, H, cls, d, rfl, h.inv, h.old, h.up.trans up4, ?_, h.na, h.os, h.bare, hw⟩)
    rw [hs]
    exact .inr (.inr hl)
  have nn : ¬ ((Value.ref T == Value.none) = true) := by simp
  unfold PySem.passOn
  refine wpAny_bind (wpAny_field e1 e2 e3 ?_)
  rw [if_neg nn]
  first
    | exact wpAny_bind (wpAny_pure (wpAny_bind go))
    | exact wpAny_bind go
/-- a suite's end -/
theorem suite_out {q : Addr × Obj} {D : Ends} {f : Flow} {i : Option Nat} {n : Option Str} {pos : Pos} (ok : X.Ok) (hN : X.N.Nodup) (hn : NmOk X n i) (h : SP (X.suite a (q :: (X.pn ++ pins))) [] (Ends.gone D i) f s) : match n with
    | none => SP X pins D f s
    | some n => wpAny (model X.prog X.w) X.A (do bindName X.env n .none; unbindBehindTheSuite X.env n pos) (fun _ s3 => SP X pins D f s3) X.xe s := by
  cases n with
  | none =>
    cases i with
    | some i => exact hn.elim
    | none =>
      cases f with
      | next => obtain ⟨σ', H', J, q⟩ := h; exact ⟨_, _, J.unsuite ok, q⟩
      | brk => obtain ⟨σ', H', J, q⟩ := h; exact ⟨_, _, J.unsuite ok, q⟩
      | cont => obtain ⟨σ', H', J, q⟩ := h; exact ⟨_, _, J.unsuite ok, q⟩
      | ret u => obtain ⟨v, σ', H', J, r, q⟩ := h; exact ⟨_, _, _, J.unsuite ok, r, q⟩
  | some n =>
    cases i with
    | none => exact hn.elim
    | some i =>
      obtain ⟨hi, hl⟩ := hn
      cases f with
      | next => obtain ⟨σ', H', J, q⟩ := h; exact gone_ok (J.unsuite ok) hN hi hl fun s7 J7 => ⟨_, _, J7, q⟩
      | brk => obtain ⟨σ', H', J, q⟩ := h; exact gone_ok (J.unsuite ok) hN hi hl fun s7 J7 => ⟨_, _, J7, q⟩
      | cont => obtain ⟨σ', H', J, q⟩ := h; exact gone_ok (J.unsuite ok) hN hi hl fun s7 J7 => ⟨_, _, J7, q⟩
      | ret u => obtain ⟨v, σ', H', J, r, q⟩ := h; exact gone_ok (J.unsuite ok) hN hi hl fun s7 J7 => ⟨_, _, _, J7, r, q⟩
/-- the clauses, one after the other -/
theorem clauses_ok {W0 : WX} {D : Ends} (hs : X.stack = X.env :: X.outer) (hf : X.env.frame = some X.env.locals) (hN : X.N.Nodup) (tk : Takes X W0) (h : Hot X pins a B cls d σ H sI s) {hds : List ExceptHandler} {l : List (Value × Option Nat × SuT)} (hk : Cls3 X hds l) :
    wCl X.K W0 D l cls d σ H → wpAny (model X.prog X.w) X.A (handleBy (.ref a) X.env hds) (SP X pins D) X.xe s := by
  induction hk with
  | nil => exact fun w => wpAny_handleBy_nil (h.on hs hf tk w)
  | @cons x nm i c ts b0 sts np pos hds2 l2 hc hn hb r ih =>
    intro ⟨b, e1, yes, no⟩
    obtain ⟨oe, hz, hfd, ea, S⟩ := h.inside hf
    have ok := h.inv.ok
    refine wpAny_handleBy_cons (codeAny_handlers_test ?_) (by intro q; cases q)
    have isC : PySem.W.Looks (model X.prog X.w) s.heap (typeOf (.ref a)) cls := fun A Q E s' k q => wpAny_typeOf_ref (k _ _ ea) (by rw [hz.1]; exact q)
    have ask := PySem.W.exm_one (M := model X.prog X.w) h.here.kIn isC e1
    have read : ∀ {Q E : Value → Shared → Prop}, Q c s → wpAny (model X.prog X.w) (X.A.mark (some (.ref a))) (eval (.Name x np) X.env) Q E s := fun {Q E} q => by
      obtain ⟨hg, hd, hm | ⟨hm, hv, hnn⟩⟩ := hc
      · exact ld_glob (X := X.suite a ((a, oe) :: (X.pn ++ pins))) S hg hm q hd
      · exact ld_blt (X := X.suite a ((a, oe) :: (X.pn ++ pins))) S hg hm hv q hnn hd
    refine read (ask.here ?_)
    cases b with
    | false => exact ih (no rfl)
    | true =>
      have w := yes rfl a h.na
      cases nm with
      | none =>
        cases i with
        | some i => exact hn.elim
        | none =>
          refine codeAny_handlers_suite (h.again fun s4 h4 => ?_)
          obtain ⟨oe4, hz4, hfd4, _, S4⟩ := h4.inside hf
          exact wpAny_mono ((hb a oe4 cls d _ hz4 hfd4).run [] _ _ H _ S4 w) (fun f s6 q => suite_out (n := none) (i := none) (pos := pos) ok hN trivial q) fun _ _ z => False.elim z
      | some n =>
        cases i with
        | none => exact hn.elim
        | some i =>
          refine codeAny_handlers_suite_as (h.again fun s4 h4 => ?_)
          obtain ⟨oe4, hz4, hfd4, _, S4⟩ := h4.inside hf
          refine store_ok (X := X.suite a ((a, oe4) :: (X.pn ++ pins))) (v := .ref a) S4 hN hn.1 (.inl hn.2) rfl (fun s5 S5 => ?_) (.inr hn.2)
          exact wpAny_mono ((hb a oe4 cls d _ hz4 hfd4).run [] s5 _ H _ S5 w) (fun f s6 q => suite_out (n := some n) (i := some i) (pos := pos) ok hN hn q) fun _ _ z => False.elim z
end
theorem ps_clauses {X : Cx} {body : List PySem.Stmt} {h0 : ExceptHandler} {hds : List ExceptHandler} {l : List (Value × Option Nat × SuT)} {pos : Pos} {tb : WX → TS} {W0 : WX} (hs : X.stack = X.env :: X.outer) (hf : X.env.frame = some X.env.locals) (hN : X.N.Nodup) (tk : Takes X W0)
    (hb : ∀ (W : WX) (pn : List (Addr × Obj)) (xe : Value → Shared → Prop), Takes (X.tr pn xe) W → PassesOwn (model X.prog X.w) X.A X.env xe → PSs (X.tr pn xe) body (tb W)) (hh : Cls3 X (h0 :: hds) l) :
    PS X (.Try body (h0 :: hds) [] [] pos) (fun D σ H => tb (fun c d σ H => σ.length = X.N.length → wCl X.K W0 D l c d σ H) D σ H) := by
  refine ⟨fun pins s σ H D I w => ?_⟩
  have ok := I.ok
  have hfr : X.A.frames = some (X.env :: X.outer) := by rw [ok.frames, hs]
  refine wpAny_Try_except (wpAny_mono ((hb (fun c d σ H => σ.length = X.N.length → wCl X.K W0 D l c d σ H) (X.pn ++ pins) _ (fun u s1 x => ?_) PassesOwn.looking).run [] s σ H D (I.toTry _) w) (fun f s1 q => ?_) fun e s1 z => z)
  · obtain ⟨a, B, sI, p2, σ1, H1, cls, d, rfl, J, nb, up, sky, na, os, ag, w1⟩ := x
    have J := J.ofTry ok
    have sky : Sky B (X.env :: X.outer) a (Zc cls d) X.env.locals s1.heap := by rw [← hs]; exact sky
    refine Sky.land Zc.steady hfr hf sky fun h3 fl up3 => ?_
    exact clauses_ok (s := { s1 with heap := h3 }) hs hf hN tk ⟨J, nb, up.trans up3, fl, na, os, ag⟩ hh (w1 J.len)
  · cases f with
    | next => obtain ⟨σ1, H1, J, q⟩ := q; exact wpAny_execs_nil ⟨σ1, H1, J.ofTry ok, q⟩
    | brk => obtain ⟨σ1, H1, J, q⟩ := q; exact ⟨σ1, H1, J.ofTry ok, q⟩
    | cont => obtain ⟨σ1, H1, J, q⟩ := q; exact ⟨σ1, H1, J.ofTry ok, q⟩
    | ret u => obtain ⟨v, σ1, H1, J, r, q⟩ := q; exact ⟨v, σ1, H1, J.ofTry ok, r, q⟩
/-- .. and an else -/
theorem ps_clausesE {X : Cx} {orelse : List PySem.Stmt} {u : TS} {body : List PySem.Stmt} {h0 : ExceptHandler} {hds : List ExceptHandler} {l : List (Value × Option Nat × SuT)} {pos : Pos} {tb : WX → TS} {W0 : WX} (ho : PSs X orelse u) (hs : X.stack = X.env :: X.outer) (hf : X.env.frame = some X.env.locals) (hN : X.N.Nodup) (tk : Takes X W0)
    (hb : ∀ (W : WX) (pn : List (Addr × Obj)) (xe : Value → Shared → Prop), Takes (X.tr pn xe) W → PassesOwn (model X.prog X.w) X.A X.env xe → PSs (X.tr pn xe) body (tb W)) (hh : Cls3 X (h0 :: hds) l) :
    PS X (.Try body (h0 :: hds) orelse [] pos) (fun D σ H => tb (fun c d σ H => σ.length = X.N.length → wCl X.K W0 D l c d σ H) { D with nx := u D } σ H) := by
  refine ⟨fun pins s σ H D I w => ?_⟩
  have ok := I.ok
  have hfr : X.A.frames = some (X.env :: X.outer) := by rw [ok.frames, hs]
  refine wpAny_Try_except (wpAny_mono ((hb (fun c d σ H => σ.length = X.N.length → wCl X.K W0 D l c d σ H) (X.pn ++ pins) _ (fun u s1 x => ?_) PassesOwn.looking).run [] s σ H { D with nx := u D } (I.toTry _) w) (fun f s1 q => ?_) fun e s1 z => z)
  · obtain ⟨a, B, sI, p2, σ1, H1, cls, d, rfl, J, nb, up, sky, na, os, ag, w1⟩ := x
    have J := J.ofTry ok
    have sky : Sky B (X.env :: X.outer) a (Zc cls d) X.env.locals s1.heap := by rw [← hs]; exact sky
    refine Sky.land Zc.steady hfr hf sky fun h3 fl up3 => ?_
    exact clauses_ok (s := { s1 with heap := h3 }) hs hf hN tk ⟨J, nb, up.trans up3, fl, na, os, ag⟩ hh (w1 J.len)
  · cases f with
    | next => obtain ⟨σ1, H1, J, q⟩ := q; exact ho.run pins s1 σ1 H1 D (J.ofTry ok) q
    | brk => obtain ⟨σ1, H1, J, q⟩ := q; exact ⟨σ1, H1, J.ofTry ok, q⟩
    | cont => obtain ⟨σ1, H1, J, q⟩ := q; exact ⟨σ1, H1, J.ofTry ok, q⟩
    | ret u => obtain ⟨v, σ1, H1, J, r, q⟩ := q; exact ⟨v, σ1, H1, J.ofTry ok, r, q⟩
end EL

/-! ELh: the checker: a def of the text against its code. -/
namespace EL
open PySem L2 PySem.Spec PyProof.Rows
inductive GV where
  | int (i : Int) | str (x : List Nat)
def isTup : PySem.Expr → Bool
  | .Tuple _ _ _ => true
  | _ => false
theorem sw_none {tge e : PySem.Expr} {env : Env} (h : (isTup tge && isTup e) = false) (hp : plT tge = true) : swappedStores [tge] e env = pure none := by
  cases tge <;> first | (cases hp; done) | skip
  · rfl
  · cases e <;> first | (cases h; done) | rfl
/-- a class: its name, whether of exceptions, where its __init__ stands, the fields of an exception, its methods, the classes above it -/
structure ClT where
  nm : Str
  exc : Bool
  ini : Option Nat
  ifs : List Nat
  mts : List (Nat × Nat)
  sup : List Nat
/-- the program's tables: where functions stand, their levels, names, how many parameters; the module's constants -/
structure Tb where
  fat : List (Str × Option Str)
  lv : List Nat
  N : List (List Str)
  gls : List (Str × GV)
  cls : List ClT := []
  fld : List Str := []
  mnm : List Str := []
structure Ck where
  K : PySem.W.Frag
  t : Tb
  me : Nat
  ml : Nat
  calm : Bool
  top : Bool
  N : List Str
  sc : Scope
  /-- the name of the exception that is handled -/
  hd : Option Nat
def Tb.lvl (t : Tb) (f : Nat) : Nat := t.lv.getD f 1000
def Tb.pl (t : Tb) (f : Nat) : Str × Option Str := t.fat.getD f (Str.empty, none)
def glD (t : Tb) (g : Nat) : D := match t.gls[g]? with
  | some (_, .int i) => .int i
  | some (_, .str x) => .str x
  | none => .non
def pgOf (t : Tb) (fn : Nat → Nat → List D → Sto → RF) : Pg where
  fn := fn
  mth := fun c m => (t.cls[c]?).bind fun cl => cl.mts.lookup m
  ini := fun c => (t.cls[c]?).bind (·.ini)
  sub := fun j k => match t.cls[j]? with
    | some cl => cl.sup.contains k
    | none => false
  exf := fun c => match t.cls[c]? with
    | some cl => cl.ifs
    | none => []
  gls := glD t
def gxOf (K : PySem.W.Frag) (t : Tb) : Gx where
  K := K
  cm := fun c => match t.cls[c]? with
    | some cl => He.ga K cl.nm
    | none => 0
  nk := (t.cls.filter fun cl => !cl.exc).length
  xk := fun c => match t.cls[c]? with
    | some cl => cl.exc
    | none => false
  nf := if t.fld.Nodup then t.fld.length else 0
  fm := fun f => t.fld.getD f Str.empty
  finj := fun f g hf hg e => by
    by_cases nd : t.fld.Nodup
    · rw [if_pos nd] at hf hg
      rw [List.getD_eq_getElem?_getD, List.getD_eq_getElem?_getD, List.getElem?_eq_getElem hf, List.getElem?_eq_getElem hg] at e
      have e : t.fld[f] = t.fld[g] := e
      exact nodup_ix nd (List.getElem?_eq_getElem hf) (by rw [e]; exact List.getElem?_eq_getElem hg)
    · rw [if_neg nd] at hf
      exact absurd hf (Nat.not_lt_zero f)
def isGl (sc : Scope) (n : Str) : Bool := match sc.names.lookup n with
  | some .globalImplicit => true
  | _ => false
def isLoc (sc : Scope) (n : Str) : Bool := match sc.names.lookup n with
  | some .local => true
  | _ => false
def isVis (sc : Scope) (n : Str) : Bool := match sc.names.lookup n with
  | some .local => true
  | some .cell => true
  | some .free => true
  | _ => false
def isLC (sc : Scope) (n : Str) : Bool := match sc.names.lookup n with
  | some .local => true
  | some .cell => true
  | _ => false
def free (K : PySem.W.Frag) (n : Str) : Bool := match PySem.W.nsIn K mainGlobals n with
  | some none => true
  | _ => false
def noDbg (n : Str) : Bool := !(n == ("__debug__" : Str)) && !(n == ("__classdict__" : Str))
def chOp : Op → Operator → Bool
  | .add, .Add => true
  | .sub, .Sub => true
  | .mul, .Mult => true
  | .mod, .Mod => true
  | .fdiv, .FloorDiv => true
  | .pow, .Pow => true
  | _, _ => false
def chCop : Cop → CmpOp → Bool
  | .eq, .Eq => true
  | .ne, .NotEq => true
  | .lt, .Lt => true
  | .le, .LtE => true
  | .gt, .Gt => true
  | .ge, .GtE => true
  | .in_, .In => true
  | .nin, .NotIn => true
  | _, _ => false
def chBf (calm : Bool) : Bf → Str → Bool
  | .len, n => n == "len"
  | .str, n => n == "str"
  | .int, n => n == "int"
  | .repr, n => n == "repr"
  | .max, n => n == "max" && calm
  | .min, n => n == "min" && calm
  | .sum, n => n == "sum" && calm
  | .all, n => n == "all" && calm
  | .any, n => n == "any" && calm
  | .abs, n => n == "abs"
  | .divmod, n => n == "divmod"
  | .list, n => n == "list"
  | .tuple, n => n == "tuple"
  | .sorted, n => n == "sorted"
  | .dict, n => n == "dict" && calm
def chBm : Bm → Nat → Str → Bool
  | .join, 1, n => n == "join"
  | .find, 1, n => n == "find"
  | .split, 1, n => n == "split"
  | .get, 1, n => n == "get"
  | .get2, 2, n => n == "get"
  | .index, 1, n => n == "index"
  | .upper, 0, n => n == "upper"
  | _, _, _ => false
def chMm : Mm → Nat → Str → Bool
  | .append, 1, n => n == "append"
  | .pop, 0, n => n == "pop"
  | .popAt, 1, n => n == "pop"
  | .reverse, 0, n => n == "reverse"
  | .clear, 0, n => n == "clear"
  | .extend, 1, n => n == "extend"
  | _, _, _ => false
def chTy (c : Ck) : Ty → PySem.Expr → Bool
  | .int, .Name n _ => n == "int" && isGl c.sc n && free c.K n
  | .bool, .Name n _ => n == "bool" && isGl c.sc n && free c.K n
  | .str, .Name n _ => n == "str" && isGl c.sc n && free c.K n
  | .list, .Name n _ => n == "list" && isGl c.sc n && free c.K n
  | .tuple, .Name n _ => n == "tuple" && isGl c.sc n && free c.K n
  | .dict, .Name n _ => n == "dict" && isGl c.sc n && free c.K n
  | .cls k, .Name n _ => isGl c.sc n && noDbg n && decide (k < (gxOf c.K c.t).nk) && (match c.t.cls[k]? with
    | some cl => cl.nm == n
    | none => false)
  | _, _ => false
def chGl (c : Ck) (g : Nat) (n : Str) : Bool := isGl c.sc n && noDbg n && match c.t.gls[g]? with
  | some (m, .int i) => m == n && (match PySem.W.nsIn c.K mainGlobals n with
    | some (some (.int j _)) => decide (i = j)
    | _ => false)
  | some (m, .str x) => m == n && (match PySem.W.nsIn c.K mainGlobals n with
    | some (some (.str y _)) => decide (y = ⟨x.toArray⟩)
    | _ => false)
  | none => false
/-- a global function of the text -/
def chFn (c : Ck) (f : Nat) (n : Str) : Bool := c.calm && isGl c.sc n && noDbg n && decide (f < c.me) && decide (c.t.lvl f < c.ml) && (match c.t.pl f with
  | (m, none) => m == n
  | _ => false) && (match PySem.W.nsIn c.K mainGlobals n with
  | some (some (.ref a)) => a == He.ga c.K n && PySem.W.keepIn c.K (.ref a)
  | _ => false)
def scOk (N P : List Str) (sc : Scope) : Bool := (match sc.kind with
  | .function => true
  | _ => false) && !sc.isCoroutine && !sc.isGenerator && decide N.Nodup && decide (N.take P.length = P) && (P.all fun x => isLC sc x) && sc.names.all fun y => match y.2 with
  | .free => false
  | _ => true
def isNo : Value → Bool
  | .none => true
  | _ => false
def okNm (K : PySem.W.Frag) (nm : Str) : Bool := match PySem.W.nsIn K mainGlobals nm with
  | some (some (.ref a)) => a == He.ga K nm
  | _ => false
/-- a class of exceptions (OexC) -/
def isXc (K : PySem.W.Frag) (C : Addr) : Bool := (match K.lookup C with
  | some ⟨.type ty, dd, .cls ⟨nm, bs, .ref C2 :: bm, N, q, true, sn, sub, ab, col, false⟩, ⟨[k0, k1, k2, k3, some (.builtin nw), k5]⟩⟩ => ty == "type" && C2 == C && nw == "ValueError.__new__" && PySem.HandSPX.refsVE bm
  | _ => false) && decide (PySem.W.findIn K (.ref C) "__setattr__" = some (some (.builtin "object.__setattr__"))) && decide (PySem.W.subIn K (.ref C) (.type "BaseException") = some true) && decide (PySem.W.typeIn K (.ref C) = some (.type "type")) && PySem.W.keepIn K (.ref C)
def chIni (sc : Scope) (N : List Str) : Nat → List PySem.Stmt → List Str → Bool
  | _, [], [] => true
  | k, st :: sts, f :: fs => (match st with
    | .Assign [.Attribute (.Name s _) g _] (.Name p _) _ => g == f && decide (N[0]? = some s) && decide (N[k]? = some p) && isVis sc s && isVis sc p && noDbg s && noDbg p
    | _ => false) && chIni sc N (k + 1) sts fs
  | _, _, _ => false
/-- its __init__ -/
def chXb (ns : List Str) (sc : Scope) : Arguments → FuncBody → Bool
  | ⟨[], as, none, [], [], none, []⟩, .stmts body => scOk (as.map (·.arg)) (as.map (·.arg)) sc && decide (as.length = ns.length + 1) && chIni sc (as.map (·.arg)) 1 body ns
  | _, _ => false
def chXi (K : PySem.W.Frag) (C : Addr) (ns : List Str) : Bool := decide (ns.Nodup) && decide (ns.length ≤ 900) && !ns.isEmpty && (match PySem.W.findIn K (.ref C) "__init__" with
  | some (some (.ref fI)) => decide (PySem.W.typeIn K (.ref fI) = some (.type "function")) && (match K.lookup fI with
    | some ⟨_, _, .func f, _⟩ => f.globals == mainGlobals && f.closure.isEmpty && isNo f.defaults && f.builtins == builtinsNs && PySem.W.codeIn K f.code f.qualname && chXb ns f.scope f.params f.body
    | _ => false)
  | _ => false)
/-- a class of the table, of exceptions -/
def chXc (t : Tb) (K : PySem.W.Frag) (cl : ClT) : Bool := okNm K cl.nm && xfB K (He.ga K cl.nm) && (t.fld.all fun f => decide (PySem.W.findIn K (.ref (He.ga K cl.nm)) f = some none)) &&
  (cl.ifs.isEmpty || (isXc K (He.ga K cl.nm) && (cl.ifs.all fun i => decide (i < t.fld.length)) && chXi K (He.ga K cl.nm) (cl.ifs.map fun f => t.fld.getD f Str.empty)))
/-- .. of objects -/
def chOc (t : Tb) (K : PySem.W.Frag) (cl : ClT) : Bool := okNm K cl.nm && PySem.W.plainGet K (He.ga K cl.nm) Str.empty && PySem.W.hasDictIn K (He.ga K cl.nm) && PySem.W.plainOver K (He.ga K cl.nm) &&
  decide (PySem.W.findIn K (.ref (He.ga K cl.nm)) "__setattr__" = some (some (.builtin "object.__setattr__"))) && (t.fld.all fun f => decide (PySem.W.findIn K (.ref (He.ga K cl.nm)) f = some none)) &&
  decide (PySem.W.findIn K (.ref (He.ga K cl.nm)) "__class__" = some (some (.builtin "object.__class__"))) && decide (PySem.W.mroIn K (He.ga K cl.nm) (.type "object") = some true) &&
  (match cl.ini with
    | none => true
    | some i => PySem.W.makesIn K (He.ga K cl.nm) && decide (PySem.W.findIn K (.ref (He.ga K cl.nm)) "__init__" = some (some (.ref (He.fAd K (t.pl i))))) && PySem.W.isFn K (.ref (He.fAd K (t.pl i))) && PySem.W.keepIn K (.ref (He.ga K cl.nm))) &&
  cl.mts.all fun m => decide (PySem.W.findIn K (.ref (He.ga K cl.nm)) (t.mnm.getD m.1 Str.empty) = some (some (.ref (He.fAd K (t.pl m.2))))) && PySem.W.isFn K (.ref (He.fAd K (t.pl m.2))) && PySem.W.keepIn K (.ref (He.fAd K (t.pl m.2)))
def allTk (t : Tb) (K : PySem.W.Frag) : List Tk := [.none, .bool, .int, .str, .list, .tuple, .dict] ++ (List.range (gxOf K t).nk).map .cls
def allTy (t : Tb) (K : PySem.W.Frag) : List Ty := [.int, .bool, .str, .list, .tuple, .dict] ++ (List.range (gxOf K t).nk).map .cls
/-- what isinstance answers -/
def chKit (t : Tb) (K : PySem.W.Frag) : Bool := decide (PySem.W.specialIn K (.builtin "object.__class__") "__get__" = some (some (.builtin "getset_descriptor.__get__"))) && decide (PySem.W.takesIn K (.builtin "object.__class__") = some true) &&
  (allTy t K).all fun ty => (allTk t K).all fun k => decide (PySem.W.kitOne K (tkV (gxOf K t) k) (tyVal (gxOf K t) ty) = some (tkB (pgOf t fun _ _ _ _ => .stuck).sub ty k))
def tyOk (t : Tb) (K : PySem.W.Frag) : Ty → Bool
  | .cls c => decide (c < (gxOf K t).nk)
  | _ => true
theorem tk_all {t : Tb} {K : PySem.W.Frag} {k : Tk} (h : tkOk (gxOf K t).nk k) : k ∈ allTk t K := by
  cases k with
  | cls c => exact List.mem_append_right _ (List.mem_map.mpr ⟨c, List.mem_range.mpr h, rfl⟩)
  | _ => exact List.mem_append_left _ (by simp)
theorem ty_all {t : Tb} {K : PySem.W.Frag} {k : Ty} (h : tyOk t K k = true) : k ∈ allTy t K := by
  cases k with
  | cls c => exact List.mem_append_right _ (List.mem_map.mpr ⟨c, List.mem_range.mpr (of_decide_eq_true h), rfl⟩)
  | _ => exact List.mem_append_left _ (by simp)
theorem kit_ok {t : Tb} {K : PySem.W.Frag} (h : chKit t K = true) {ty : Ty} (ht : tyOk t K ty = true) (fn : Nat → Nat → List D → Sto → RF) : KitF K (gxOf K t) (pgOf t fn).sub ty := fun k hk =>
  of_decide_eq_true (List.all_eq_true.mp (List.all_eq_true.mp (and2.mp h).2 ty (ty_all ht)) k (tk_all hk))
def chCl (t : Tb) (K : PySem.W.Frag) : Bool := decide t.fld.Nodup && (t.fld.all fun f => !(f == "__class__") && !(f == "__dict__")) && (t.cls.all fun cl => if cl.exc then chXc t K cl else chOc t K cl) && ((List.range (gxOf K t).nk).all fun k => match t.cls[k]? with
  | some cl => !cl.exc
  | none => false) &&
  (List.range t.cls.length).all fun j => (List.range t.cls.length).all fun k => !((gxOf K t).xk j && (gxOf K t).xk k) || decide (PySem.W.exmOne K (.ref ((gxOf K t).cm j)) (.ref ((gxOf K t).cm k)) = some ((pgOf t fun _ _ _ _ => .stuck).sub j k))
mutual
def chTg (c : Ck) : Tg → PySem.Expr → Bool
  | .v i, e => match e with
    | .Name n _ => c.calm && decide (c.N[i]? = some n) && isLC c.sc n && (c.top || isLoc c.sc n)
    | _ => false
  | .t ts, e => match e with
    | .Tuple es _ _ => c.calm && es.all plT && decide (es.length = ts.length) && chTgs c ts es
    | _ => false
def chTgs (c : Ck) : List Tg → List PySem.Expr → Bool
  | [], [] => true
  | t :: ts, e :: es => chTg c t e && chTgs c ts es
  | _, _ => false
end
def ownOf (N : List Str) (tg : Tg) : List (Str × Nat) := (tgs tg).map fun i => (N.getD i Str.empty, i)
/-- within a comprehension -/
def Ck.blk (c : Ck) (scope : Scope) : Ck := { c with sc := relS scope c.sc, top := false, hd := none }
/-- the class of an object that is made -/
def chMk (c : Ck) (k : Nat) (n : Str) : Bool := c.calm && isGl c.sc n && noDbg n && decide (k < (gxOf c.K c.t).nk) && (match c.t.cls[k]? with
  | some cl => cl.nm == n && (match cl.ini with
    | some fi => decide (fi < c.me) && decide (c.t.lvl fi < c.ml)
    | none => false)
  | none => false)
/-- a method, of whatever class -/
def chMt (c : Ck) (m : Nat) (n : Str) : Bool := c.calm && n == c.t.mnm.getD m Str.empty && (c.t.fld.all fun f => !(f == n)) && c.t.cls.all fun cl => match cl.mts.lookup m with
  | some fi => decide (fi < c.me) && decide (c.t.lvl fi < c.ml)
  | none => true
def chFl (c : Ck) (f : Nat) (n : Str) : Bool := decide (f < c.t.fld.length) && c.t.fld.getD f Str.empty == n
def isCmp : Ex → Bool
  | .cmp _ _ _ => true
  | .chain _ _ _ _ _ => true
  | .isN _ => true
  | .notN _ => true
  | .isB _ _ => true
  | .notB _ _ => true
  | _ => false
/-- the parts of an f'..' -/
def unF : PySem.Expr → PySem.Expr
  | .FormattedValue a _ _ _ => a
  | e => e
def isStr : Ex → Bool
  | .str _ => true
  | _ => false
def fsk : List Ex → List PySem.Expr → Bool
  | [], [] => true
  | x :: xs, e :: es => (match e with
    | .FormattedValue _ k none _ => decide (k = -1)
    | .Constant (.str _) _ _ => isStr x
    | _ => false) && fsk xs es
  | _, _ => false
mutual
def chE (c : Ck) : Ex → PySem.Expr → Bool
  | .var i, e => match e with
    | .Name n _ => decide (c.N[i]? = some n) && isVis c.sc n && noDbg n
    | _ => false
  | .non, e => match e with
    | .Constant .none _ _ => true
    | _ => false
  | .bl b, e => match e with
    | .Constant (.bool b') _ _ => b == b'
    | _ => false
  | .int i, e => match e with
    | .Constant (.int j) _ _ => decide (i = j)
    | _ => false
  | .str x, e => match e with
    | .Constant (.str y) _ _ => decide (y.cps.toList = x)
    | _ => false
  | .gl g, e => match e with
    | .Name n _ => chGl c g n
    | _ => false
  | .bin _ o x y, e => match e with
    | .BinOp a op b _ => chOp o op && chE c x a && chE c y b
    | _ => false
  | .neg x, e => match e with
    | .UnaryOp .USub a _ => chE c x a
    | _ => false
  | .cmp o x y, e => match e with
    | .Compare a [op] [b] _ => chCop o op && pl b && chE c x a && chE c y b
    | _ => false
  | .chain o o' x y z, e => match e with
    | .Compare a [op, op'] [b, d] _ => chCop o op && chCop o' op' && !(lastMarks [op, op'] [b, d]) && chE c x a && chE c y b && chE c z d
    | _ => false
  | .isN x, e => match e with
    | .Compare a [.Is] [.Constant .none _ _] _ => chE c x a
    | _ => false
  | .notN x, e => match e with
    | .Compare a [.IsNot] [.Constant .none _ _] _ => chE c x a
    | _ => false
  | .isB k x, e => match e with
    | .Compare a [.Is] [.Constant (.bool k') _ _] _ => k == k' && chE c x a
    | _ => false
  | .notB k x, e => match e with
    | .Compare a [.IsNot] [.Constant (.bool k') _ _] _ => k == k' && chE c x a
    | _ => false
  | .rev _ x, e => match e with
    | .Subscript a (.Slice none none (some (.UnaryOp .USub (.Constant (.int 1) _ _) _)) _) _ => chE c x a
    | _ => false
  | .and x y, e => match e with
    | .BoolOp .And [a, b] _ => chE c x a && chE c y b
    | .BoolOp .And (a :: b :: d :: r) p => chE c x a && chE c y (.BoolOp .And (b :: d :: r) p)
    | _ => false
  | .or x y, e => match e with
    | .BoolOp .Or [a, b] _ => chE c x a && chE c y b
    | .BoolOp .Or (a :: b :: d :: r) p => chE c x a && chE c y (.BoolOp .Or (b :: d :: r) p)
    | _ => false
  | .not x, e => match e with
    | .UnaryOp .Not a _ => chE c x a
    | _ => false
  | .ite t x y, e => match e with
    | .IfExp q a b _ => chT c t q && chE c x a && chE c y b
    | _ => false
  | .call _ f as, e => match e with
    | .Call (.Name n _) es [] _ => chFn c f n && es.all pl && chEs c as es
    | _ => false
  | .tup as, e => match e with
    | .Tuple es _ _ => decide (as.length ≤ 1000) && chEs c as es
    | _ => false
  | .lst _ as, e => match e with
    | .List es _ => decide (as.length ≤ 1000) && chEs c as es
    | _ => false
  | .dic _ ks vs, e => match e with
    | .Dict keys values _ => vs.isEmpty && (match keys with
      | [] => ks.isEmpty && values.isEmpty
      | k :: r => decide ((k :: r).length ≤ 15) && chPs c ks (k :: r) values)
    | _ => false
  | .idx x i, e => match e with
    | .Subscript a b _ => pl b && chE c x a && chE c i b
    | _ => false
  | .slc _ x lo hi, e => match e with
    | .Subscript a (.Slice l h none _) _ => chE c x a && chO c lo l && chO c hi h
    | _ => false
  | .fld x f, e => match e with
    | .Attribute a n _ => notSuper a && chFl c f n && chE c x a
    | _ => false
  | .exf i f, e => match e with
    | .Attribute (.Name n _) m _ => decide (c.hd = some i) && decide (c.N[i]? = some n) && isVis c.sc n && noDbg n && chFl c f m
    | _ => false
  | .meth _ m x as, e => match e with
    | .Call (.Attribute o n apos) es [] pos => chMt c m n && notSuper o && (apos.endLine == pos.line) && es.all pl && decide (es.length < 30) && chE c x o && chEs c as es
    | _ => false
  | .make _ k as, e => match e with
    | .Call (.Name n _) es [] _ => chMk c k n && es.all pl && chEs c as es
    | _ => false
  | .bf _ f as, e => match e with
    | .Call (.Name n _) (a :: r) [] _ => chBf c.calm f n && isGl c.sc n && free c.K n && (a :: r).all pl && chEs c as (a :: r)
    | _ => false
  | .bm _ m x as, e => match e with
    | .Call (.Attribute o n apos) es [] pos => chBm m es.length n && notSuper o && (apos.endLine == pos.line) && es.all pl && decide (es.length < 30) && chE c x o && chEs c as es
    | _ => false
  | .mm m x as, e => match e with
    | .Call (.Attribute o n apos) es [] pos => chMm m es.length n && notSuper o && (apos.endLine == pos.line) && es.all pl && decide (es.length < 30) && chE c x o && chEs c as es
    | _ => false
  | .isi x ts, e => match e with
    | .Call (.Name n _) [a, te] [] _ => n == "isinstance" && isGl c.sc n && free c.K n && pl a && chE c x a && (match ts with
      | [t] => chTy c t te
      | [t1, t2] => (match te with
        | .Tuple [e1, e2] _ _ => chTy c t1 e1 && chTy c t2 e2
        | _ => false)
      | _ => false)
    | _ => false
  | .fst as, e => match e with
    | .JoinedStr (e1 :: e2 :: r) _ => fsk as (e1 :: e2 :: r) && chEs c as ((e1 :: e2 :: r).map unF)
    | _ => false
  | .comp _ tg how it cs x, e => match e with
    | .ListComp elt [⟨tge, iter, ifs, 0⟩] scope _ => c.calm && blkC c.N c.sc scope (ownOf c.N tg) && pl iter && chTg (c.blk scope) tg tge && chTs (c.blk scope) cs ifs && chE (c.blk scope) x elt && (match how, iter with
      | 0, _ => (match it with
        | [i] => chE c i iter
        | _ => false)
      | 1, .Call (.Name n _) [a] [] _ => n == "range" && isGl c.sc n && free c.K n && pl a && chEs c it [a]
      | 2, .Call (.Name n _) [a, b] [] _ => n == "range" && isGl c.sc n && free c.K n && pl a && pl b && chEs c it [a, b]
      | 3, .Call (.Name n _) [a] [] _ => isTup tge && n == "enumerate" && isGl c.sc n && free c.K n && pl a && chEs c it [a]
      | 4, .Call (.Name n _) [a, b] [] _ => isTup tge && n == "zip" && isGl c.sc n && free c.K n && pl a && pl b && chEs c it [a, b]
      | _, _ => false)
    | _ => false
  | _, _ => false
def chT (c : Ck) : Tx → PySem.Expr → Bool
  | .v x, e => plainT e && chE c x e
  | .b x, e => chE c x e && (plainT e || isCmp x)
  | .not x, e => match e with
    | .UnaryOp .Not a _ => chT c x a
    | _ => false
  | .and x y, e => match e with
    | .BoolOp .And [a, b] _ => chT c x a && chT c y b
    | .BoolOp .And (a :: b :: d :: r) p => chT c x a && chT c y (.BoolOp .And (b :: d :: r) p)
    | _ => false
  | .or x y, e => match e with
    | .BoolOp .Or [a, b] _ => chT c x a && chT c y b
    | .BoolOp .Or (a :: b :: d :: r) p => chT c x a && chT c y (.BoolOp .Or (b :: d :: r) p)
    | _ => false
def chEs (c : Ck) : List Ex → List PySem.Expr → Bool
  | [], [] => true
  | x :: xs, e :: es => pl e && chE c x e && chEs c xs es
  | _, _ => false
def chO (c : Ck) : Option Ex → Option PySem.Expr → Bool
  | none, none => true
  | some x, some e => chE c x e
  | _, _ => false
def chTs (c : Ck) : List Tx → List PySem.Expr → Bool
  | [], [] => true
  | [t], [e] => chT c t e
  | _, _ => false
def chPs (c : Ck) : List Ex → List (Option PySem.Expr) → List PySem.Expr → Bool
  | [], [], [] => true
  | x :: y :: r, some k :: ks, v :: vs => chE c x k && chE c y v && chPs c r ks vs
  | _, _, _ => false
end
theorem dbg {n : Str} (h : noDbg n = true) : (n == ("__debug__" : Str)) = false ∧ (n == ("__classdict__" : Str)) = false := by
  unfold noDbg at h
  obtain ⟨h1, h2⟩ := and2.mp h
  exact ⟨by simpa using h1, by simpa using h2⟩
end EL

/-! ELk6: get of dicts, index of lists, capital letters, sorted, dict(..), f'..'. -/
namespace EL
open PySem L2 PySem.Spec PyProof.Rows
/-- expressions one by one -/
inductive JL (X : Cx) (J : Jx) : List PySem.Expr → List Ex → Prop
  | nil : JL X J [] []
  | cons {e : PySem.Expr} {x : Ex} {es : List PySem.Expr} {xs : List Ex} : pl e = true → JE X J e x → JL X J es xs → JL X J (e :: es) (x :: xs)
theorem JL.ja {X : Cx} {J : Jx} {es : List PySem.Expr} {xs : List Ex} (h : JL X J es xs) : JA X J es xs := by
  induction h with
  | nil => exact ja_nil
  | cons p j _ ih => exact ja_cons p j ih
section
variable {X : Cx} {J : Jx} {pos p1 p2 apos cpos : Pos} {a b c e o : PySem.Expr} {x y z w : Ex} {es : List PySem.Expr} {xs : List Ex} {nm : Str}
theorem ev1 {α : Type} (C : Cn) (y : Ex) (l : EL.Loc) (S : Sto) (f : List D → Sto → EL.R α) : (evEs C [y] l S).bind f = (evE C y l S).bind fun d S2 => f [d] S2 := by
  show ((evE C y l S).bind fun d S1 => (R.ok [] S1).bind fun ds S2 => .ok (d :: ds) S2).bind f = _
  cases evE C y l S <;> rfl
theorem ev2 {α : Type} (C : Cn) (y z : Ex) (l : EL.Loc) (S : Sto) (f : List D → Sto → EL.R α) : (evEs C [y, z] l S).bind f = (evE C y l S).bind fun d S2 => (evE C z l S2).bind fun d' S3 => f [d, d'] S3 := by
  show ((evE C y l S).bind fun d S1 => (evEs C [z] l S1).bind fun ds S2 => .ok (d :: ds) S2).bind f = _
  cases evE C y l S with
  | ok d S1 =>
    show ((evEs C [z] l S1).bind fun ds S2 => .ok (d :: ds) S2).bind f = _
    rw [ev1]
    show _ = (evE C z l S1).bind fun d' S3 => f [d, d'] S3
    cases evE C z l S1 <;> rfl
  | ex _ _ _ => rfl
  | stuck => rfl
theorem rcv_dict {m : Bm} {d : D} (hm : m = .get ∨ m = .get2) (h : rcv m d = true) : ∃ z, d = .dK z := by
  rcases hm with rfl | rfl <;> (cases d <;> first | exact ⟨_, rfl⟩ | cases h)
theorem dg_fin {F : Hp} {κ : Nat → Addr} {l : EL.Loc} {S : Sto} {σ : L2.St} {H : Hp} {Q : VK} {u v w : V} {du dk dd : D} (s : Stt J F κ l S σ H) (ru : Rep J.G F κ S.length u du) (rk : Rep J.G F κ S.length v dk) (rw' : Rep J.G F κ S.length w dd)
    (p : Post J (Rep J.G) F κ S.length σ Q (dgD S du dk dd)) {a : Addr} (ea : u = .ref a) : ∃ o, DGet H a v o ∧ Q (o.getD w) H := by
  unfold dgD at p
  split at p
  · rename_i kvs hg
    split at p
    · rename_i q hq
      obtain ⟨a', vs, e2, h3, h4⟩ := s.rel.gDK ru hg
      rw [ea] at e2
      cases e2
      have hk := ky_of rk hq
      have hg2 := h4.get q
      refine ⟨valV vs q.key, .inl ⟨vs, q.key, h3, hk, rfl⟩, ?_⟩
      cases hd : dget q kvs with
      | some d =>
        rw [hd] at hg2 p
        obtain ⟨t, e5, r5⟩ := hg2
        rw [e5]
        exact s.ret p r5
      | none =>
        rw [hd] at hg2 p
        have hg2 : valV vs q.key = none := hg2
        rw [hg2]
        exact s.ret p rw'
    · exact p.elim
  · exact p.elim
theorem je_get {k : Bool} (hu : X.A.units + 64 < cLine) (hb : notSuper o = true) (hl : (apos.endLine == cpos.line) = true) (hp : [e].all pl = true) (ho : JE X J o x) (he : JE X J e y) : JE X J (.Call (.Attribute o "get" apos) [e] [] cpos) (.bm k .get x [y]) := by
  have hs := star_all X.env hp
  refine PE.imp (pe_dget1 (by omega) ho he ⟨attr_base hb _ _ _, few_all hp (by show 1 < 30; decide), hl, by rw [hs]; rfl⟩) fun σ H Q ⟨F, κ, l, S, s, p⟩ => ?_
  refine Can.mono (s.bind (mf := evE J.C x) p) fun u H1 ⟨F1, κ1, S1, du, _, _, s1, r1, p1⟩ => ?_
  dsimp only at p1
  split at p1
  · rename_i hr
    obtain ⟨kvs, hy⟩ := rcv_dict (.inl rfl) hr
    obtain ⟨a, vs, rfl, h1, h2⟩ := s1.rel.gDK r1 hy
    rw [ev1] at p1
    refine ⟨a, rfl, .inl ⟨vs, h1⟩, ?_⟩
    refine Can.mono (s1.bind (mf := evE J.C y) p1) fun v H2 ⟨F2, κ2, S2, dk, e2, n2, s2, r2, p2⟩ => ?_
    exact dg_fin s2 (r1.mono e2 n2) r2 .non p2 rfl
  · exact p1.elim
theorem je_get2 {k : Bool} {e' : PySem.Expr} (hu : X.A.units + 64 < cLine) (hb : notSuper o = true) (hl : (apos.endLine == cpos.line) = true) (hp : [e, e'].all pl = true) (ho : JE X J o x) (he : JE X J e y) (he' : JE X J e' z) : JE X J (.Call (.Attribute o "get" apos) [e, e'] [] cpos) (.bm k .get2 x [y, z]) := by
  have hs := star_all X.env hp
  refine PE.imp (pe_dget2 (by omega) ho he he' ⟨attr_base hb _ _ _, few_all hp (by show 2 < 30; decide), hl, by rw [hs]; rfl⟩) fun σ H Q ⟨F, κ, l, S, s, p⟩ => ?_
  refine Can.mono (s.bind (mf := evE J.C x) p) fun u H1 ⟨F1, κ1, S1, du, _, _, s1, r1, p1⟩ => ?_
  dsimp only at p1
  split at p1
  · rename_i hr
    obtain ⟨kvs, hy⟩ := rcv_dict (.inr rfl) hr
    obtain ⟨a, vs, rfl, h1, h2⟩ := s1.rel.gDK r1 hy
    rw [ev2] at p1
    refine ⟨a, rfl, .inl ⟨vs, h1⟩, ?_⟩
    refine Can.mono (s1.bind (mf := evE J.C y) p1) fun v H2 ⟨F2, κ2, S2, dk, e2, n2, s2, r2, p2⟩ => ?_
    refine Can.mono (s2.bind (mf := evE J.C z) p2) fun w H3 ⟨F3, κ3, S3, dd, e3, n3, s3, r3, p3⟩ => ?_
    exact dg_fin s3 ((r1.mono e2 n2).mono e3 n3) (r2.mono e3 n3) r3 p3 rfl
  · exact p1.elim
/-! ### index -/
theorem flatV_of {F : Hp} {κ : Nat → Addr} {n : Nat} {v : V} {d : D} (r : Rep J.G F κ n v d) (h : flatD d = true) : L2.flatV v = true := by
  cases r <;> first | rfl | cases h
theorem eqV_of {F : Hp} {κ : Nat → Addr} {n : Nat} {v u : V} {d f : D} (r : Rep J.G F κ n v d) (r2 : Rep J.G F κ n u f) (h : flatD d = true) (h2 : flatD f = true) : L2.eqV v u = eqF d f := by
  cases r <;> first | (cases h; done) | skip
  all_goals (cases r2 <;> first | (cases h2; done) | skip)
  all_goals first | rfl | skip
  rename_i i j
  show ((⟨i.toArray⟩ : Str) == ⟨j.toArray⟩) = decide (i = j)
  rw [Bool.eq_iff_iff, beq_iff_eq, decide_eq_true_eq]
  exact ⟨fun z => str_inj z, fun z => by rw [z]⟩
theorem ixF_ok {y : D} : ∀ {ds : List D} {i j : Nat}, ixF y i ds = some j → ∃ k d, j = i + k ∧ ds[k]? = some d ∧ eqF d y = true ∧ ∀ m d', m < k → ds[m]? = some d' → eqF d' y = false
  | [], _, _, h => by cases h
  | d :: r, i, j, h => by
    unfold ixF at h
    split at h
    · rename_i hd
      cases h
      exact ⟨0, d, rfl, rfl, hd, fun m d' hm => absurd hm (Nat.not_lt_zero m)⟩
    · rename_i hd
      obtain ⟨k, d2, e, h1, h2, h3⟩ := ixF_ok h
      refine ⟨k + 1, d2, by omega, by simpa using h1, h2, fun m d' hm hd' => ?_⟩
      cases m with
      | zero =>
        simp at hd'
        subst hd'
        simpa using hd
      | succ m => exact h3 m d' (by omega) (by simpa using hd')
theorem flat_all {F : Hp} {κ : Nat → Addr} {n : Nat} : ∀ {vs : List V} {ds : List D}, RepA J.G F κ n vs ds → ds.all flatD = true → vs.all L2.flatV = true
  | _, _, .nil, _ => rfl
  | _, _, .cons r s, h => by
    have h2 := and2.mp (show (flatD _ && List.all _ flatD) = true from h)
    exact and2.mpr ⟨flatV_of r h2.1, flat_all s h2.2⟩
theorem je_index {k : Bool} (hK : J.G.K = X.K) (hb : notSuper o = true) (hl : (apos.endLine == cpos.line) = true) (hp : pl e = true) (ho : JE X J o x) (ha : JA X J [e] xs) : JE X J (.Call (.Attribute o "index" apos) [e] [] cpos) (.bm k .index x xs) := by
  have hp1 : [e].all pl = true := and2.mpr ⟨hp, rfl⟩
  refine PE.imp (pe_bm PySem.F.plainAttrs_list PySem.F.slot_list_index PySem.F.type_list_index mt_index ho ha (attr_base hb _ _ _) (few_all hp1 (by show 1 < 30; decide)) hl (star_pl hp _ _) (back_all rfl)) fun σ H Q ⟨F, κ, l, S, s, p⟩ => ?_
  refine Can.mono (s.bind (mf := evE J.C x) p) fun u H1 ⟨F1, κ1, S1, du, _, _, s1, r1, p1⟩ => ?_
  dsimp only at p1
  split at p1
  · rename_i hr
    obtain ⟨ys, hy⟩ : ∃ ys, get S1 du = .lst ys := by
      generalize get S1 du = q at hr
      cases q <;> first | exact ⟨_, rfl⟩ | cases hr
    refine ⟨gcell s1 r1 hy, ?_⟩
    refine Can.mono (s1.bind (mf := evEs J.C xs) p1) fun us H2 ⟨F2, κ2, S2, ds, e2, n2, s2, r2, p2⟩ => ?_
    have r1' := r1.mono e2 n2
    cases r2 with
    | nil => exact p2.elim
    | cons r3 r4 =>
      cases r4 with
      | cons _ _ => exact p2.elim
      | nil =>
        have p3 : Post J (Rep J.G) F2 κ2 S2.length σ Q (ixD S2 du _) := p2
        unfold ixD at p3
        split at p3
        · rename_i zs hz
          split at p3
          · rename_i hf
            split at p3
            · rename_i j hj
              obtain ⟨f1, f2⟩ := and2.mp hf
              obtain ⟨a, vs, rfl, h1, h2⟩ := s2.rel.gLst r1' hz
              obtain ⟨m, d, e5, h5, h6, h7⟩ := ixF_ok hj
              obtain ⟨t, h8, h9⟩ := h2.at h5
              have fl : ∀ {m : Nat} {d : D}, zs[m]? = some d → flatD d = true := fun h => List.all_eq_true.mp f2 _ (List.mem_of_getElem? h)
              refine ⟨a, vs, _, m, t, rfl, rfl, SqL.of h1, flatV_of r3 f1, flat_all h2 f2, h8, by rw [eqV_of h9 r3 (fl h5) f1]; exact h6, fun m' z' hm hz' => ?_, ?_⟩
              · obtain ⟨d', g1, g2⟩ := h2.atV hz'
                rw [eqV_of g2 r3 (fl g1) f1]
                exact h7 m' d' hm g1
              · have e6 : j = m := by omega
                subst e6
                exact s2.ret p3 (.int _)
            · exact p3.elim
          · exact p3.elim
        · exact p3.elim
  · exact p1.elim
/-! ### capital letters -/
theorem je_upper {k : Bool} (hb : notSuper o = true) (hl : (apos.endLine == cpos.line) = true) (ho : JE X J o x) : JE X J (.Call (.Attribute o "upper" apos) [] [] cpos) (.bm k .upper x []) := by
  refine PE.imp (pe_bm0 PySem.F.plainAttrs_str PySem.F.slot_str_upper PySem.F.type_str_upper mt_upper ho (attr_base hb _ _ _) hl) fun σ H Q ⟨F, κ, l, S, s, p⟩ => ?_
  refine Can.mono (s.bind (mf := evE J.C x) p) fun u H1 ⟨F1, κ1, S1, du, _, _, s1, r1, p1⟩ => ?_
  dsimp only at p1
  split at p1
  · rename_i hr
    obtain ⟨z, hz⟩ := rcv_text (m := .upper) rfl hr
    have ez := get_str s1.rel r1 hz
    subst ez
    have p2 : Post J (Rep J.G) F1 κ1 S1.length σ Q (if z.length ≤ big ∧ (z.all fun c => decide (c < 128)) = true then .ok (.str (z.map upC)) S1 else .stuck) := p1
    split at p2
    · rename_i hc
      refine ⟨by rw [rep_str r1]; rfl, ⟨z.toArray⟩, rep_str r1, rfl, by rw [str_len]; have := hc.1; unfold big at this; omega, ?_⟩
      have e : Txt.upper ⟨z.toArray⟩ = ⟨(z.map upC).toArray⟩ := by
        rw [upper_ascii (x := ⟨z.toArray⟩) fun c hc2 => of_decide_eq_true (List.all_eq_true.mp hc.2 c (by simpa using hc2))]
        show (⟨z.toArray.map up1⟩ : Str) = _
        rw [List.map_toArray]
        rfl
      rw [e]
      exact s1.ret p2 (.str _)
    · exact p2.elim
  · exact p1.elim
end
/-! ### sorted -/
theorem insI_perm (i : Int) : ∀ l : List Int, (insI i l).Perm (i :: l)
  | [] => .refl _
  | j :: r => by
    unfold insI
    split
    · exact .refl _
    · exact (List.Perm.cons j (insI_perm i r)).trans (.swap i j r)
theorem sortI_perm : ∀ l : List Int, (sortI l).Perm l
  | [] => .refl _
  | i :: r => (insI_perm i _).trans (.cons i (sortI_perm r))
theorem insI_srt (i : Int) : ∀ {l : List Int}, l.Pairwise (· ≤ ·) → (insI i l).Pairwise (· ≤ ·)
  | [], _ => by simp [insI]
  | j :: r, h => by
    rw [List.pairwise_cons] at h
    unfold insI
    split
    · rename_i hij
      rw [List.pairwise_cons, List.pairwise_cons]
      refine ⟨fun k hk => ?_, h⟩
      rcases List.mem_cons.mp hk with rfl | hk
      · exact hij
      · exact Int.le_trans hij (h.1 k hk)
    · rename_i hij
      rw [List.pairwise_cons]
      refine ⟨fun k hk => ?_, insI_srt i h.2⟩
      rcases List.mem_cons.mp ((insI_perm i r).mem_iff.mp hk) with rfl | hk
      · omega
      · exact h.1 k hk
theorem sortI_srt : ∀ l : List Int, (sortI l).Pairwise (· ≤ ·)
  | [] => .nil
  | i :: r => insI_srt i (sortI_srt r)
theorem srt_uniq : ∀ {l m : List Int}, l.Perm m → l.Pairwise (· ≤ ·) → m.Pairwise (· ≤ ·) → l = m
  | [], m, p, _, _ => (List.nil_perm.mp p).symm
  | i :: l, [], p, _, _ => by simp at p
  | i :: l, j :: m, p, h1, h2 => by
    rw [List.pairwise_cons] at h1 h2
    have e : i = j := by
      have a1 : i ∈ j :: m := p.mem_iff.mp List.mem_cons_self
      have a2 : j ∈ i :: l := p.mem_iff.mpr List.mem_cons_self
      have b1 : j ≤ i := by
        rcases List.mem_cons.mp a1 with e | e
        · omega
        · exact h2.1 i e
      have b2 : i ≤ j := by
        rcases List.mem_cons.mp a2 with e | e
        · omega
        · exact h1.1 j e
      omega
    subst e
    rw [srt_uniq (List.perm_cons i |>.mp p) h1.2 h2.2]
section
variable {X : Cx} {J : Jx}
theorem ints_rep {F : Hp} {κ : Nat → Addr} {n : Nat} : ∀ ns : List Int, RepA J.G F κ n (ns.map V.int) (ns.map D.int)
  | [] => .nil
  | i :: r => .cons (.int i) (ints_rep r)
theorem bf_sorted {k : Bool} : BfR X J k .sorted (.builtin "sorted") := by
  refine ⟨_, cr_sorted, fun F κ l S σ H Q vs ds s r0 p0 => ?_⟩
  obtain ⟨d, rfl, p⟩ := bf1 (fun x => srtD k S x) (fun _ => rfl) rfl (fun _ _ _ => rfl) p0
  obtain ⟨v, rfl, r⟩ := repA1 r0
  unfold srtD at p
  split at p
  · rename_i zs hg
    split at p
    · rename_i ns hn
      split at p
      · rename_i hl
        obtain ⟨a, ws, rfl, h1, h2⟩ := s.rel.gLst r hg
        rw [allI_ok h2 hn] at h1
        refine ⟨a, ns, rfl, SqL.of h1, hl, fun ns' q hp hs hq => ?_⟩
        rw [srt_uniq (hp.trans (sortI_perm ns).symm) hs (sortI_srt ns)]
        exact s.mkC hq p (.lst (ints_rep _))
      · exact p.elim
    · exact p.elim
  · exact p.elim
/-! ### dict(..) -/
theorem pairT_ok (hK : J.G.K = X.K) {F : Hp} {κ : Nat → Addr} {S : Sto} {H : Hp} {Bs : Gd} (R : Rel J.G F κ Bs S H) : ∀ {vs : List V} {ds : List D} {kvs : List (Ky × D)}, RepA J.G F κ S.length vs ds → pairT ds = some kvs →
    ∃ (ps : List Addr) (ws : List (Key × V)), vs = ps.map V.ref ∧ Paired (fun p kv => SqT X.K H p [kV kv.1, kv.2]) ps ws ∧ RepK J.G F κ S.length ws kvs
  | _, [], kvs, .nil, h => by
    cases h
    exact ⟨[], [], rfl, .nil, .nil⟩
  | v :: vs, d :: ds, kvs, .cons r s, h => by
    unfold pairT at h
    split at h
    · rename_i e; cases e
    · rename_i k d2 rr e
      cases e
      split at h
      · rename_i q kvs2 hq hr
        cases h
        obtain ⟨ps, ws, rfl, h1, h2⟩ := pairT_ok hK R s hr
        obtain ⟨a, us, rfl, h3, h4⟩ := R.gTup r (show get S (.tup [k, d2]) = .tup [k, d2] from rfl)
        obtain ⟨u1, u2, rfl, r1, r2⟩ := repA2 h4
        refine ⟨a :: ps, (q.key, u2) :: ws, rfl, .cons ?_ h1, .cons r2 h2⟩
        rw [ky_of r1 hq] at h3
        exact hK ▸ h3
      · cases h
    · cases h
theorem bf_dict {k : Bool} (hc : X.calm = true) (hK : J.G.K = X.K) : BfR X J k .dict (.type "dict") := by
  refine ⟨_, call_or call_dictD (call_dictP hc), fun F κ l S σ H Q vs ds s r0 p0 => ?_⟩
  obtain ⟨d, rfl, p⟩ := bf1 (fun x => dicC k S x) (fun _ => rfl) rfl (fun _ _ _ => rfl) p0
  obtain ⟨v, rfl, r⟩ := repA1 r0
  unfold dicC at p
  split at p
  · rename_i kvs hg
    obtain ⟨a, ws, rfl, h1, h2⟩ := s.rel.gDK r hg
    exact .inl ⟨a, ws, rfl, h1, fun q hq => s.mkC hq p (.dK h2)⟩
  · rename_i zs hg
    split at p
    · rename_i kvs hk
      obtain ⟨a, ws, rfl, h1, h2⟩ := s.rel.gLst r hg
      obtain ⟨ps, us, rfl, h3, h4⟩ := pairT_ok (X := X) hK s.rel h2 hk
      exact .inr ⟨a, ps, us, rfl, SqL.of h1, h3, fun q hq => s.mkC hq p (.dK (merge_ok h4 .nil))⟩
    · exact p.elim
  · exact p.elim
/-! ### f'..' -/
/-- the parts of an f'..' -/
def FsOk (J : Jx) (xs : List Ex) (ts : List TE) : Prop := ∀ (acc : List Nat) (F : Hp) (κ : Nat → Addr) (l : EL.Loc) (S : Sto) (σ : L2.St) (H : Hp) (Q : VK), Stt J F κ l S σ H → Post J (Rep J.G) F κ S.length σ Q (evFs J.C xs acc l S) →
  tJs ts ⟨acc.toArray⟩ σ H fun out H1 => Q (.str out) H1
theorem fs_nil : FsOk J [] [] := fun acc F κ l S σ H Q s p => s.ret (show Post J (Rep J.G) F κ S.length σ Q (.ok (.str acc) S) from p) (.str acc)
theorem fs_cons {x : Ex} {xs : List Ex} {ts : List TE} (ih : FsOk J xs ts) : FsOk J (x :: xs) (tFmt (Can J (Rep J.G) (evE J.C x)) :: ts) := fun acc F κ l S σ H Q s p => by
  refine Can.mono (s.bind (mf := evE J.C x) p) fun v H1 ⟨F1, κ1, S1, d, _, _, s1, r, p1⟩ => ?_
  dsimp only at p1
  split at p1
  · rename_i y hy
    split at p1
    · rename_i hl
      have hl2 : ((⟨acc.toArray⟩ : Str) ++ ⟨y.toArray⟩).length ≤ sizeLine := by rw [str_app, str_len, List.length_append]; exact big_line hl
      have fin : tJs ts ((⟨acc.toArray⟩ : Str) ++ ⟨y.toArray⟩) σ H1 fun out H1 => Q (.str out) H1 := by
        rw [str_app]
        exact ih _ _ _ _ _ _ _ _ s1 p1
      cases d with
      | str z =>
        have hy : (if z.length ≤ big then some z else none) = some y := hy
        split at hy
        · rename_i hz
          cases hy
          exact .inl ⟨_, rep_str r, by rw [str_len]; exact big_line hz, _, rfl, hl2, fin⟩
        · cases hy
      | int i =>
        have hy : (if small i then some (dec i) else none) = some y := hy
        split at hy
        · rename_i hz
          cases hy
          have e : (⟨(dec i).toArray⟩ : Str) = (toString i : String) := by unfold dec; rw [str_eta]
          rw [e] at hl2 fin
          exact .inr ⟨i, rep_int r, small_log hz, _, rfl, hl2, fin⟩
        · cases hy
      | _ => cases hy
    · exact p1.elim
  · exact p1.elim
theorem fs_const {z : List Nat} {xs : List Ex} {ts : List TE} (ih : FsOk J xs ts) : FsOk J (.str z :: xs) (Can J (Rep J.G) (evE J.C (.str z)) :: ts) := fun acc F κ l S σ H Q s p => by
  refine Can.mono (s.bindE (mf := evE J.C (.str z)) p) fun v H1 ⟨F1, κ1, S1, d, he, _, _, s1, r, p1⟩ => ?_
  cases he
  split at p1
  · rename_i y hy
    have hy : (if z.length ≤ big then some z else none) = some y := hy
    split at hy
    · cases hy
      split at p1
      · rename_i hl
        refine ⟨_, rep_str r, by rw [str_app, str_len, List.length_append]; exact big_line hl, ?_⟩
        rw [str_app]
        exact ih _ _ _ _ _ _ _ _ s1 p1
      · exact p1.elim
    · cases hy
  · exact p1.elim
theorem fs_all {X : Cx} : ∀ {xs : List Ex} {es : List PySem.Expr}, fsk xs es = true → JL X J (es.map unF) xs → ∃ ts, PJ X es ts ∧ FsOk J xs ts
  | [], [], _, _ => ⟨[], .nil, fs_nil⟩
  | x :: xs, e :: es, h, j => by
    unfold fsk at h
    obtain ⟨h1, h2⟩ := and2.mp h
    have j : JL X J (unF e :: es.map unF) (x :: xs) := j
    cases j with
    | cons jp j1 j2 =>
      obtain ⟨ts, h3, h4⟩ := fs_all h2 j2
      split at h1
      · rename_i a k p
        cases of_decide_eq_true h1
        exact ⟨_, .cons (pe_fmt j1) h3, fs_cons h4⟩
      · rename_i y k p
        unfold isStr at h1
        split at h1
        · exact ⟨_, .cons j1 h3, fs_const h4⟩
        · cases h1
      · cases h1
  | [], _ :: _, h, _ => by cases h
  | _ :: _, [], h, _ => by cases h
end
end EL

/-! ELt2: exceptions: made, raised, caught, their fields. -/
namespace EL
open PySem L2 PySem.Spec PyProof.Rows
/-! ### the __init__ of an exception: each parameter is stored as a field -/
def tIn (K : PySem.W.Frag) : Nat → List Str → TS
  | _, [] => tNext
  | k, f :: r => tSeq (tOst K f (tVar 0) (tVar k)) (tIn K (k + 1) r)
theorem tIn_go {K : PySem.W.Frag} {C a d : Addr} (T : OexC K C) : ∀ (ns : List Str) (ws : List V) (k : Nat) (acc : List (Str × V)) (σ : L2.St) (H : Hp) (D : Ends), (∀ f ∈ ns, PySem.W.findIn K (.ref C) f = some none) → σ[0]? = some (some (.ref a)) →
    (∀ i w, ws[i]? = some w → σ[k + i]? = some (some w)) → ws.length = ns.length → acc.length + ns.length ≤ 900 → H a = some (exo a C (some d)) → H d = some (exd d acc) → d ≠ a →
    (∀ H2 : Hp, (∀ b, b ≠ a → b ≠ d → H2 b = H b) → H2 a = some (exo a C (some d)) → H2 d = some (exd d ((ns.zip ws).reverse ++ acc)) → D.nx σ H2) → tIn K k ns D σ H := by
  intro ns
  induction ns with
  | nil =>
    intro ws k acc σ H D _ _ _ hl _ ea ed _ q
    cases ws with
    | nil => exact q H (fun _ _ _ => rfl) ea ed
    | cons w ws => simp at hl
  | cons f ns ih =>
    intro ws k acc σ H D hno h0 hw hl hn ea ed ne q
    cases ws with
    | nil => simp at hl
    | cons w ws =>
      simp only [List.length_cons] at hl hn
      refine ⟨w, by simpa using hw 0 w rfl, .ref a, h0, a, C, rfl, T, hno f List.mem_cons_self, .inr ⟨d, acc, ea, ed, by omega, ?_⟩⟩
      refine ih ws (k + 1) ((f, w) :: acc) σ _ D (fun g hg => hno g (List.mem_cons_of_mem _ hg)) h0 (fun i u hu => ?_) (by omega) (by simp only [List.length_cons]; omega) (by rw [upd_ne (Ne.symm ne)]; exact ea) upd_same ne (fun H2 h1 h2 h3 => ?_)
      · have := hw (i + 1) u (by simpa using hu)
        rwa [show k + (i + 1) = k + 1 + i by omega] at this
      · refine q H2 (fun b hb hb2 => by rw [h1 b hb hb2, upd_ne hb2]) h2 ?_
        rw [h3]
        simp
theorem tIn_ok {K : PySem.W.Frag} {C a : Addr} (T : OexC K C) {ns : List Str} {ws : List V} {σ : L2.St} {H : Hp} {D : Ends} (hn0 : ns ≠ []) (hno : ∀ f ∈ ns, PySem.W.findIn K (.ref C) f = some none) (h0 : σ[0]? = some (some (.ref a)))
    (hw : ∀ i w, ws[i]? = some w → σ[1 + i]? = some (some w)) (hl : ws.length = ns.length) (hn : ns.length ≤ 900) (ea : H a = some (exo a C none))
    (q : ∀ (d : Addr) (H2 : Hp), H d = none → d ≠ a → (∀ b, b ≠ a → b ≠ d → H2 b = H b) → H2 a = some (exo a C (some d)) → H2 d = some (exd d (ns.zip ws).reverse) → D.nx σ H2) : tIn K 1 ns D σ H := by
  cases ns with
  | nil => exact absurd rfl hn0
  | cons f ns =>
    cases ws with
    | nil => simp at hl
    | cons w ws =>
      simp only [List.length_cons] at hl hn
      refine ⟨w, by simpa using hw 0 w rfl, .ref a, h0, a, C, rfl, T, hno f List.mem_cons_self, .inl ⟨ea, fun d hd ne => ?_⟩⟩
      refine tIn_go (a := a) (d := d) T ns ws 2 [(f, w)] σ _ D (fun g hg => hno g (List.mem_cons_of_mem _ hg)) h0 (fun i u hu => ?_) (by omega) (by simp only [List.length_cons, List.length_nil]; omega) upd_same (by rw [upd_ne ne]; exact upd_same) ne (fun H2 h1 h2 h3 => ?_)
      · have := hw (i + 1) u (by simpa using hu)
        rwa [show 1 + (i + 1) = 2 + i by omega] at this
      · refine q d H2 hd ne (fun b hb hb2 => by rw [h1 b hb hb2, upd_ne hb, upd_ne hb2]) h2 ?_
        rw [h3]
        simp
/-- the promise -/
def spIni (C : Addr) (ns : List Str) : Sp := fun vs H Q _ => ∃ (a : Addr) (ws : List V), vs = .ref a :: ws ∧ ws.length = ns.length ∧ H a = some (exo a C none) ∧
  ∀ (d : Addr) (H2 : Hp), H d = none → d ≠ a → (∀ b, b ≠ a → b ≠ d → H2 b = H b) → H2 a = some (exo a C (some d)) → H2 d = some (exd d (ns.zip ws).reverse) → Q .non H2
theorem ini_body {X : Cx} (hv : ∀ n, isVis X.env.scope n = true → Vis X.env.scope n) : ∀ (k : Nat) (sts : List PySem.Stmt) (fs : List Str), chIni X.env.scope X.N k sts fs = true → PSs X sts (tIn X.K k fs)
  | _, [], [], _ => pss_nil
  | k, st :: sts, f :: fs, h => by
    unfold chIni at h
    obtain ⟨h1, h2⟩ := and2.mp h
    split at h1
    · rename_i s p1 g p2 p p3 pos
      obtain ⟨h1, g7⟩ := and2.mp h1
      obtain ⟨h1, g6⟩ := and2.mp h1
      obtain ⟨h1, g5⟩ := and2.mp h1
      obtain ⟨h1, g4⟩ := and2.mp h1
      obtain ⟨h1, g3⟩ := and2.mp h1
      obtain ⟨g1, g2⟩ := and2.mp h1
      have e := eq_of_beq g1
      subst e
      have d1 := dbg g6
      have d2 := dbg g7
      exact pss_cons (ps_ost (pe_var (of_decide_eq_true g2) (hv _ g4) d1.1 d1.2) (pe_var (of_decide_eq_true g3) (hv _ g5) d2.1 d2.2) (sw_att _ _ _)) (ini_body hv (k + 1) sts fs h2)
    · cases h1
  | _, [], _ :: _, h => by cases h
  | _, _ :: _, [], h => by cases h
theorem vis_of {sc : Scope} {n : Str} (h : isVis sc n = true) : Vis sc n := by
  unfold isVis at h
  unfold Vis
  split at h
  · exact .inl (by assumption)
  · exact .inr (.inl (by assumption))
  · exact .inr (.inr (by assumption))
  · cases h
theorem start_at {N : List Str} {vs : List V} {i : Nat} {v : V} (h : vs[i]? = some v) : (L2.start N vs)[i]? = some (some v) := by
  have hi : i < vs.length := (List.getElem?_eq_some_iff.mp h).1
  unfold L2.start
  rw [List.getElem?_append_left (by rw [List.length_map]; exact hi), List.getElem?_map, h]
  rfl
theorem nb {b : Bool} (h : (!b) = true) : b = false := by simpa using h
theorem scOk_ok {N P : List Str} {sc : Scope} (h : scOk N P sc = true) : FnScope N P sc := by
  unfold scOk at h
  obtain ⟨h, h7⟩ := and2.mp h
  obtain ⟨h, h6⟩ := and2.mp h
  obtain ⟨h, h5⟩ := and2.mp h
  obtain ⟨h, h4⟩ := and2.mp h
  obtain ⟨h, h3⟩ := and2.mp h
  obtain ⟨h1, h2⟩ := and2.mp h
  refine ⟨?_, nb h2, nb h3, of_decide_eq_true h4, of_decide_eq_true h5, fun x hx => ?_, fun y hy e => ?_⟩
  · split at h1
    · assumption
    · cases h1
  · have := List.all_eq_true.mp h6 x hx
    unfold isLC at this
    split at this
    · exact .inl (by assumption)
    · exact .inr (by assumption)
    · cases this
  · have := List.all_eq_true.mp h7 y hy
    rw [e] at this
    cases this
theorem ini_fn {P : Program} {w : World} {K : PySem.W.Frag} {mg : Str → Option Value} {base : Heap} {f C : Addr} {name qual : Str} {params : Arguments} {body : List PySem.Stmt} {scope : Scope} {dV kV doc pm cdv ct oc : Value} {an od : Option Addr}
    {osl : Array (Option Value)} {N ps fs : List Str} (lk : K.lookup f = some ⟨oc, od, .func (PySem.W.fnOf name qual params body scope dV kV doc pm an cdv ct), osl⟩) (hcd : PySem.W.codeIn K cdv qual = true) (S : FnScope N ps scope)
    (hp : ps.length = fs.length + 1) (T : OexC K C) (h0 : fs ≠ []) (hno : ∀ f ∈ fs, PySem.W.findIn K (.ref C) f = some none) (hl : fs.length ≤ 900) (hb : chIni scope N 1 body fs = true) :
    FnOk P w K mg base (CX P w) 1 f (PySem.W.fnOf name qual params body scope dV kV doc pm an cdv ct) ps (spIni C fs) := by
  refine fn_of (k := 0) lk hcd S (fun vs H Q E ⟨a, ws, e, l, _⟩ => by rw [e, hp]; simp [l]) fun A outer s H vs Q E hr ⟨a, ws, e, l, ea, q⟩ => ?_
  subst e
  refine ⟨_, ini_body (fun n h => vis_of h) 1 body fs hb, tIn_ok T h0 hno (start_at rfl) (fun i u hu => start_at (by rw [Nat.add_comm]; simpa using hu)) l hl ea q⟩
/-! ### raise -/
theorem look_in {l : List (Str × V)} {k : Str} {v : V} (h : l.lookup k = some v) : (k, v) ∈ l := by
  induction l with
  | nil => cases h
  | cons x l ih =>
    obtain ⟨k2, v2⟩ := x
    rw [List.lookup_cons] at h
    by_cases e : k = k2
    · subst e
      simp at h
      rw [h]
      exact List.mem_cons_self
    · rw [show (k == k2) = false by simpa using e] at h
      exact List.mem_cons_of_mem _ (ih h)
theorem look_of {l : List (Str × V)} (nd : (l.map (·.1)).Nodup) {k : Str} {v : V} (h : (k, v) ∈ l) : l.lookup k = some v := by
  induction l with
  | nil => cases h
  | cons x l ih =>
    obtain ⟨k2, v2⟩ := x
    rw [List.map_cons, List.nodup_cons] at nd
    rw [List.lookup_cons]
    rcases List.mem_cons.mp h with e | h
    · cases e
      simp
    · have : k ≠ k2 := fun e => nd.1 (by rw [← e]; exact List.mem_map.mpr ⟨_, h, rfl⟩)
      rw [show (k == k2) = false by simpa using this]
      exact ih nd.2 h
theorem zip_fld {G : Gx} {F : Hp} {κ : Nat → Addr} {n : Nat} : ∀ {ids : List Nat} {ws : List V} {ds : List D} {f : Nat} {x : D}, RepA G F κ n ws ds → ids.length = ds.length → fget f (ids.zip ds) = some x → ∃ u, (G.fm f, u) ∈ (ids.map G.fm).zip ws ∧ Rep G F κ n u x
  | [], _, _, _, _, _, _, h => by simp [fget] at h
  | i :: ids, _, _, f, x, .nil, hl, h => by simp at hl
  | i :: ids, _, _, f, x, .cons (v := v) r rs, hl, h => by
    simp only [List.zip_cons_cons, fget] at h
    by_cases e : i = f
    · rw [if_pos e] at h
      cases h
      exact ⟨v, by rw [e]; exact List.mem_cons_self, r⟩
    · rw [if_neg e] at h
      obtain ⟨u, h1, h2⟩ := zip_fld rs (by simpa using hl) h
      exact ⟨u, List.mem_cons_of_mem _ h1, h2⟩
theorem zip_fst {α β : Type} : ∀ (a : List α) (b : List β), b.length = a.length → (a.zip b).map (·.1) = a
  | [], [], _ => rfl
  | x :: a, y :: b, h => by
    simp only [List.zip_cons_cons, List.map_cons]
    rw [zip_fst a b (by simpa using h)]
  | [], _ :: _, h => by simp at h
  | _ :: _, [], h => by simp at h
section
variable {X : Cx} {J : Jx} {pos p1 cpos apos : Pos} {e : PySem.Expr} {es : List PySem.Expr} {xs : List Ex} {nm : Str}
theorem js_raise {c : Nat} {fI : Addr} {k : Nat} {fd : FuncData} {ps ns : List Str} (hc : X.calm = true) (tk : Takes X J.W) (T : OexC X.K (J.G.cm c)) (iC : PySem.W.findIn X.K (.ref (J.G.cm c)) "__init__" = some (some (.ref fI))) (tI : PySem.W.typeIn X.K (.ref fI) = some (.type "function"))
    (F1 : FnOk X.prog X.w X.K X.mg X.base (CX X.prog X.w) k fI fd ps (spIni (J.G.cm c) ns)) (hr : Room (k + 1) X.A) (hb : Binds X.K fd ps []) (hg : Gl X nm) (hm : X.mg nm = some (.ref (J.G.cm c))) (hdb : (nm == ("__debug__" : Str)) = false) (xk : J.G.xk c = true)
    (hf : (J.C.pg.exf c).map J.G.fm = ns) (nd : ns.Nodup) (hl : ns.length ≤ 900) (hp : (e :: es).all pl = true) (ha : JA X J (e :: es) xs) : JS X J (.Raise (some (.Call (.Name nm p1) (e :: es) [] cpos)) none pos) (.raise c xs) := by
  have hp2 := and2.mp (show (pl e && es.all pl) = true from hp)
  have ps : Passes (CX X.prog X.w) X (fun _ _ _ => False) := fun pins σ H s u s' I c => takes_none5 _ _ (XE.of_call (W := fun _ _ _ _ => False) I (fun _ _ _ h => h) c)
  refine PS.imp (ps_raise hc tk (pmk_oex T iC tI F1 hr hb .nil ps hg hm ha hdb (star_pl hp2.1 _ _) (back_all hp2.2))) fun D σ H ⟨F, κ, l, S, s, p⟩ => ?_
  refine Can.mono (s.bindS (mf := evEs J.C xs) p) fun vs H1 ⟨F1, κ1, S1, ds, e1, n1, s1, r1, p1⟩ => ?_
  by_cases hd : ds.length = (J.C.pg.exf c).length
  · rw [if_pos hd] at p1
    have lv : vs.length = ns.length := by rw [r1.len, hd, ← hf, List.length_map]
    refine ⟨by omega, fun a na => ?_⟩
    refine ⟨a, vs, by rw [List.append_nil], lv, upd_same, fun d H2 hd2 ne h1 h2 h3 => ⟨rfl, d, _, h2, h3, ?_, ?_⟩⟩
    · rw [upd_ne ne] at hd2
      exact hd2
    · rw [upd_ne ne] at hd2
      have hH : upd (del H2 a) d (.xd ((ns.zip vs).reverse)) = upd H1 d (.xd ((ns.zip vs).reverse)) := by
        funext b
        by_cases hb : b = d
        · subst hb
          rw [upd_same, upd_same]
        · rw [upd_ne hb, upd_ne hb]
          by_cases ha2 : b = a
          · subst ha2
            rw [del_same, na]
          · rw [del_ne ha2, h1 b ha2 hb, upd_ne ha2]
      rw [hH]
      obtain ⟨R2, ex⟩ := s1.rel.new (o := .xd ((ns.zip vs).reverse)) hd2
      refine p1 _ κ1 (some d) σ _ xk ex (Nat.le_refl _) (s1.step ex (Nat.le_refl _) R2) (.inr ⟨d, _, rfl, upd_same, fun f x hx => ?_⟩)
      obtain ⟨u, h4, h5⟩ := zip_fld (ids := J.C.pg.exf c) r1 hd.symm hx
      rw [hf] at h4
      refine ⟨u, look_of ?_ (List.mem_reverse.mpr h4), h5.mono ex (Nat.le_refl _)⟩
      rw [List.map_reverse, zip_fst _ _ lv]
      exact List.pairwise_reverse.mpr (List.Pairwise.imp (fun h => Ne.symm h) nd)
  · rw [if_neg hd] at p1
    exact p1.elim
end
theorem and3 {a b : Bool} (h : (a && b) = true) : a = true ∧ b = true := and2.mp h
theorem isXc_ok {K : PySem.W.Frag} {C : Addr} (h : isXc K C = true) : OexC K C := by
  unfold isXc at h
  obtain ⟨h, h5⟩ := and3 h
  obtain ⟨h, h4⟩ := and3 h
  obtain ⟨h, h3⟩ := and3 h
  obtain ⟨h1, h2⟩ := and3 h
  refine ⟨?_, of_decide_eq_true h2, of_decide_eq_true h3, of_decide_eq_true h4, h5⟩
  split at h1
  · rename_i ty dd nm bs C2 bm N q sn sub ab col k0 k1 k2 k3 nw k5 lk
    obtain ⟨h1, g4⟩ := and3 h1
    obtain ⟨h1, g3⟩ := and3 h1
    obtain ⟨g1, g2⟩ := and3 h1
    have e1 : ty = "type" := eq_of_beq g1
    have e2 := eq_of_beq g2
    have e3 : nw = "ValueError.__new__" := eq_of_beq g3
    subst e1 e2 e3
    exact ⟨nm, q, N, bs, bm, sn, sub, ab, col, dd, k0, k1, k2, k3, k5, lk, g4⟩
  · cases h1
/-- what a raise of the class wants -/
structure RzOk (P : Program) (w : World) (K : PySem.W.Frag) (mg : Str → Option Value) (base : Heap) (C : Addr) (ns : List Str) : Prop where
  ox : OexC K C
  nd : ns.Nodup
  len : ns.length ≤ 900
  ini : ∃ fI fd ps, PySem.W.findIn K (.ref C) "__init__" = some (some (.ref fI)) ∧ PySem.W.typeIn K (.ref fI) = some (.type "function") ∧ FnOk P w K mg base (CX P w) 1 fI fd ps (spIni C ns) ∧ Binds K fd ps []
theorem chXi_ok {P : Program} {w : World} {K : PySem.W.Frag} {mg : Str → Option Value} {base : Heap} {C : Addr} {ns : List Str} (ox : OexC K C) (hno : ∀ f ∈ ns, PySem.W.findIn K (.ref C) f = some none) (h : chXi K C ns = true) : RzOk P w K mg base C ns := by
  unfold chXi at h
  obtain ⟨h, h4⟩ := and3 h
  obtain ⟨h, h3⟩ := and3 h
  obtain ⟨h1, h2⟩ := and3 h
  refine ⟨ox, of_decide_eq_true h1, of_decide_eq_true h2, ?_⟩
  split at h4
  · rename_i fI e
    obtain ⟨h5, h6⟩ := and3 h4
    split at h6
    · rename_i oc od f osl lk
      obtain ⟨ha, g6⟩ := and3 h6
      obtain ⟨hb, g5⟩ := and3 ha
      obtain ⟨hc, g4⟩ := and3 hb
      obtain ⟨hd, g3⟩ := and3 hc
      obtain ⟨g1, g2⟩ := and3 hd
      clear h4 h6 ha hb hc hd
      obtain ⟨n1, n2, n3, n4, n5, n6, n7, n8, n9, n10, n11, n12, n13, n14, n15⟩ := f
      dsimp only at g1 g2 g3 g4 g5 g6
      have e6 := eq_of_beq g1
      have e7 := List.isEmpty_iff.mp g2
      have e8 : n8 = .none := by
        cases n8 <;> first | rfl | cases g3
      have e15 := eq_of_beq g4
      subst e6 e7 e8 e15
      unfold chXb at g6
      split at g6
      · rename_i as body
        obtain ⟨g7, q3⟩ := and3 g6
        obtain ⟨q1, q2⟩ := and3 g7
        have S := scOk_ok q1
        have q2 := of_decide_eq_true q2
        refine ⟨fI, _, as.map (·.arg), e, of_decide_eq_true h5, ini_fn (N := as.map (·.arg)) lk g5 S (by rw [List.length_map]; exact q2) ox (fun z => by rw [z] at h3; cases h3) hno (of_decide_eq_true h2) q3, Binds.all fun us hl => bind_all rfl rfl S.nd hl⟩
      · cases g6
    · cases h6
  · cases h4
end EL

/-! ELt3: fields of the exception that is handled, try, objects made, their methods. -/
namespace EL
open PySem L2 PySem.Spec PyProof.Rows
/-- within a suite whose exception has a name: slot i -/
def HdF (X : Cx) (J : Jx) (i : Nat) : Prop := ∃ (X0 : Cx) (a : Addr) (oe : Obj) (pn : List (Addr × Obj)) (j : Nat), X = X0.suite a ((a, oe) :: pn) ∧ J.hi = some (i, a) ∧ Zc (.ref (J.G.cm j)) J.dX oe ∧ (∃ vs, oe.data = .fields vs) ∧ J.G.xk j = true
section
variable {X : Cx} {J : Jx} {pos p1 cpos apos : Pos} {e o : PySem.Expr} {es : List PySem.Expr} {xs : List Ex} {x : Ex} {nm : Str}
theorem je_exf {i f : Nat} {n : Str} (h : HdF X J i) (hx : ∀ j, J.G.xk j = true → XfC X.K (J.G.cm j) ∧ PySem.W.findIn X.K (.ref (J.G.cm j)) n = some none) (hn : J.G.fm f = n) (hN : X.N[i]? = some nm) (hv : Vis X.env.scope nm) (hd : (nm == ("__debug__" : Str)) = false) (hc : (nm == ("__classdict__" : Str)) = false) :
    JE X J (.Attribute (.Name nm p1) n pos) (.exf i f) := by
  obtain ⟨X0, a, oe, pn, j, rfl, eh, hz, hf, xk⟩ := h
  obtain ⟨T, hno⟩ := hx j xk
  have pe : PE (X0.suite a ((a, oe) :: pn)) (.Name nm p1) (tVar i) := pe_var hN hv hd hc
  have pf : PE (X0.suite a ((a, oe) :: pn)) (.Attribute (.Name nm p1) n pos) (tXf a (.ref (J.G.cm j)) J.dX (J.G.cm j) n (tVar i)) := pe_xf (X := X0) T hno hz hf pe (by rfl)
  refine PE.imp pf fun σ H Q ⟨F, κ, l, S, s, p⟩ => ?_
  have p : Post J (Rep J.G) F κ S.length σ Q (optR (fget f J.C.hx) S) := p
  cases ef : fget f J.C.hx with
  | none =>
    rw [ef] at p
    exact p.elim
  | some d =>
    rw [ef] at p
    rcases s.hx with z | ⟨dd, vs, h1, h2, h3⟩
    · rw [z] at ef
      cases ef
    · obtain ⟨u, h4, h5⟩ := h3 f d ef
      rw [hn] at h4
      exact ⟨_, s.hn i a eh, rfl, rfl, dd, vs, u, h1, s.rel.sub.plain h2 rfl, h4, s.ret p h5⟩
end
/-! ### suites -/
def Jx.out (J : Jx) : Jx := { J with hi := none }
/-- a suite's reading: from within the suite, to behind it -/
def canH (J : Jx) (mf : EL.Loc → Sto → RS) : TS := fun E σ H => ∃ F κ l S, Stt J F κ l S σ H ∧ PostS J.out E F κ S.length (mf l S)
theorem Stt.away {J : Jx} {F : Hp} {κ : Nat → Addr} {l : Loc} {S : Sto} {σ : L2.St} {H : Hp} (s : Stt J F κ l S σ H) : Stt J.out F κ l S σ H := ⟨s.rel, s.lo, s.hx, fun i a e => by cases e⟩
section
variable {X : Cx} {J : Jx} {pos p1 cpos apos spos : Pos} {e o a : PySem.Expr} {es : List PySem.Expr} {xs : List Ex} {x : Ex} {nm : Str}
theorem post_out {α β : Type} {Rl : Hp → (Nat → Addr) → Nat → β → α → Prop} {F : Hp} {κ : Nat → Addr} {n : Nat} {σ : L2.St} {Q : β → Hp → Prop} {r : EL.R α} : Post J.out Rl F κ n σ Q r = Post J Rl F κ n σ Q r := by cases r <;> rfl
theorem bindH {α β : Type} {Rl : Hp → (Nat → Addr) → Nat → β → α → Prop} {mf : EL.Loc → Sto → R α} {k : α → Sto → RS} {E : Ends} {F : Hp} {κ : Nat → Addr} {l : Loc} {S : Sto} {σ : L2.St} {H : Hp} (s : Stt J F κ l S σ H) (p : PostS J.out E F κ S.length (EL.bindS (mf l S) l k)) :
    Can J Rl mf σ H (fun v H1 => ∃ F1 κ1 S1 a, Ext F κ S.length F1 κ1 ∧ S.length ≤ S1.length ∧ Stt J F1 κ1 l S1 σ H1 ∧ Rl F1 κ1 S1.length v a ∧ PostS J.out E F1 κ1 S1.length (k a S1)) := by
  refine ⟨F, κ, l, S, s, ?_⟩
  cases e : mf l S with
  | ok a S1 =>
    rw [e] at p
    exact fun F1 κ1 v H1 e1 e2 e3 e4 => ⟨F1, κ1, S1, a, e1, e2, s.step e1 e2 e3, e4, PostS.step (show PostS J.out E F κ S.length (k a S1) from p) e1 e2⟩
  | ex c fs S1 =>
    rw [e] at p
    have p2 : PostS J.out E F κ S.length (.ex c fs l S1) := p
    exact fun F1 κ1 d H1 e0 e1 e2 e3 e4 => p2 F1 κ1 d σ H1 e0 e1 e2 (s.step e1 e2 e3).away e4
  | stuck =>
    rw [e] at p
    exact p
theorem jh_asg {j : Nat} {n : Str} (hs : swapsWith e (some (.Name n p1)) spos.line X.env = pure false) (he : JE X J e x) (hN : X.N.Nodup) (hi : X.N[j]? = some n) (hl : X.env.scope.names.lookup n = some .local) :
    PS X (.Assign [.Name n p1] e spos) (canH J (evS J.C (.asg (.v j) x))) := by
  refine PS.imp (ps_asg he (pg_name hN hi (.inl hl) (.inr hl)) hs (sw_none (by cases e <;> rfl) rfl) (by rw [asg_pl (show plT (.Name n p1) = true from rfl)]; rfl)) fun D σ H ⟨F, κ, l, S, s, p⟩ => ?_
  refine Can.mono (bindH (mf := evE J.C x) s p) fun u H1 ⟨F1, κ1, S1, du, _, _, s1, r1, p1⟩ => ?_
  exact p1 F1 κ1 _ H1 .refl (Nat.le_refl _) ⟨s1.rel, s1.lo.set j r1, s1.hx, fun i a z => by cases z⟩
theorem jh_ret (ha : JE X J a x) : PS X (.Return (some a) pos) (canH J (evS J.C (.ret x))) := by
  refine PS.imp (ps_ret ha) fun D σ H ⟨F, κ, l, S, s, p⟩ => ?_
  exact Can.mono (bindH (mf := evE J.C x) s p) fun u H1 ⟨F1, κ1, S1, du, _, _, s1, r1, p1⟩ => p1 F1 κ1 u H1 .refl (Nat.le_refl _) s1.rel r1
theorem jh_exp (ha : JE X J a x) (hn : noLc a = true) : PS X (.Expr a pos) (canH J (evS J.C (.exp x))) := by
  refine PS.imp (ps_expr ha (sw_noLc hn _ _ _)) fun D σ H ⟨F, κ, l, S, s, p⟩ => ?_
  exact Can.mono (bindH (mf := evE J.C x) s p) fun u H1 ⟨F1, κ1, S1, du, _, _, s1, r1, p1⟩ => p1 F1 κ1 _ H1 .refl (Nat.le_refl _) s1.away
theorem pss_one_can {st : PySem.Stmt} {m : Sm} (h : PS X st (canH J (evS J.C m))) : PSs X [st] (canH J (evSs J.C [m])) := by
  have e : evSs J.C [m] = evS J.C m := by
    funext l S
    show (match evS J.C m l S with
      | .nx l1 S1 => evSs J.C [] l1 S1
      | q => q) = _
    cases evS J.C m l S <;> rfl
  rw [e]
  exact pss_one h
end
/-! ### try -/
/-- the place of a suite -/
def Jx.sui (J : Jx) (i : Option Nat) (a : Addr) (d : Option Addr) (fs : Fds) : Jx := { J with W := fun _ _ _ _ => False, dX := d, C := { J.C with hx := fs }, hi := i.map fun i => (i, a) }
/-- the clauses and their codes -/
inductive HsOk (X : Cx) (J : Jx) : List ExceptHandler → List (List Sm) → List Nat → List (Option Nat) → Prop
  | nil : HsOk X J [] [] [] []
  | cons {x : Str} {nm : Option Str} {i : Option Nat} {k : Nat} {b0 : PySem.Stmt} {sts : List PySem.Stmt} {np pos : Pos} {hds : List ExceptHandler} {h : List Sm} {hs : List (List Sm)} {cs : List Nat} {is : List (Option Nat)} (hc : Names X x (.ref (J.G.cm k))) (hn : NmOk X nm i)
      (he : ∀ c, J.G.xk c = true → PySem.W.exmOne X.K (.ref (J.G.cm c)) (.ref (J.G.cm k)) = some (J.C.pg.sub c k))
      (hb : ∀ (a : Addr) (oe : Obj) (j : Nat) (d : Option Addr) (pn : List (Addr × Obj)) (fs : Fds), Zc (.ref (J.G.cm j)) d oe → (∃ vs, oe.data = .fields vs) → J.G.xk j = true → PSs (X.suite a ((a, oe) :: pn)) (b0 :: sts) (canH (J.sui i a d fs) (evSs (J.sui i a d fs).C h)))
      (r : HsOk X J hds hs cs is) : HsOk X J (.ExceptHandler (some (.Name x np)) nm (b0 :: sts) pos :: hds) (h :: hs) (k :: cs) (i :: is)
section
variable {X : Cx} {J : Jx} {pos : Pos}
/-- what each clause's suite answers -/
def hsT (J : Jx) (i : Option Nat) (h : List Sm) : SuT := fun a cls d D σ H => ∃ (j : Nat) (fs : Fds), cls = .ref (J.G.cm j) ∧ J.G.xk j = true ∧ canH (J.sui i a d fs) (evSs (J.sui i a d fs).C h) D σ H
def hsL (J : Jx) : List (List Sm) → List Nat → List (Option Nat) → List (Value × Option Nat × SuT)
  | h :: hs, k :: cs, i :: is => (.ref (J.G.cm k), i, hsT J i h) :: hsL J hs cs is
  | _, _, _ => []
theorem hs_cls {hds : List ExceptHandler} {hs : List (List Sm)} {cs : List Nat} {is : List (Option Nat)} (h : HsOk X J hds hs cs is) : Cls3 X hds (hsL J hs cs is) := by
  induction h with
  | nil => exact .nil
  | @cons x nm i k b0 sts np pos hds h hs cs is hc hn he hb r ih =>
    refine .cons hc hn (fun a oe cls d pn hz hf => ?_) ih
    refine ⟨fun pins s σ H D I ⟨j, fs, e, xk, q⟩ => ?_⟩
    subst e
    exact (hb a oe j d pn fs hz hf xk).run pins s σ H D I q
theorem lo_gone {F : Hp} {κ : Nat → Addr} {n : Nat} {l : Loc} {σ : L2.St} {G : Gx} (h : Lo G F κ n l σ) (i : Nat) (v : Option V) : Lo G F κ n (l.set i none) (σ.set i v) := by
  refine ⟨by simp [h.1], fun j d hd => ?_⟩
  by_cases e : j = i
  · subst e
    by_cases hl : j < l.length
    · rw [List.getElem?_set_self hl] at hd
      cases hd
    · rw [List.getElem?_eq_none (by simpa using hl)] at hd
      cases hd
  · rw [List.getElem?_set_ne (Ne.symm e)] at hd ⊢
    exact h.2 j d hd
theorem lo_keep {F : Hp} {κ : Nat → Addr} {n : Nat} {l : Loc} {σ : L2.St} {G : Gx} (h : Lo G F κ n l σ) (i : Nat) : Lo G F κ n (l.set i none) σ := by
  refine ⟨by simp [h.1], fun j d hd => ?_⟩
  by_cases e : j = i
  · subst e
    by_cases hl : j < l.length
    · rw [List.getElem?_set_self hl] at hd
      cases hd
    · rw [List.getElem?_eq_none (by simpa using hl)] at hd
      cases hd
  · rw [List.getElem?_set_ne (Ne.symm e)] at hd
    exact h.2 j d hd
/-- behind the suites -/
theorem hs_go {D : Ends} {F : Hp} {κ : Nat → Addr} {l : Loc} {S : Sto} {σ : L2.St} {H : Hp} {c : Nat} {fs : Fds} {d : Option Addr} (hh : J.hi = none) (xk : J.G.xk c = true) (s : Stt J F κ l S σ H) (xd : XD J.G F κ S.length d fs) {hds : List ExceptHandler} {hs : List (List Sm)} {cs : List Nat} {is : List (Option Nat)}
    (h : HsOk X J hds hs cs is) (hi : σ.length = X.N.length) (p : PostS J D F κ S.length (evHs J.C c fs l S hs cs is)) : wCl X.K J.W D (hsL J hs cs is) (.ref (J.G.cm c)) d σ H := by
  induction h with
  | nil => exact (show PostS J D F κ S.length (.ex c fs l S) from p) F κ d σ H xk .refl (Nat.le_refl _) s xd
  | @cons x nm i k b0 sts np pos hds h hs cs is hc hn he hb r ih =>
    have p2 : PostS J D F κ S.length (if J.C.pg.sub c k then suiteEnd i (evSs { J.C with hx := fs } h (gone i l) S) else evHs J.C c fs l S hs cs is) := p
    refine ⟨_, he c xk, fun hb1 a na => ?_, fun hb1 => ?_⟩
    · rw [if_pos hb1] at p2
      have st : Stt (J.sui i a d fs) F κ (gone i l) S (named σ a i) H := by
        cases i with
        | none => exact ⟨s.rel, s.lo, xd, fun i a e => by cases e⟩
        | some i =>
          refine ⟨s.rel, lo_gone s.lo i _, xd, fun j b e => ?_⟩
          have e2 : some (i, a) = some (j, b) := e
          cases e2
          cases nm with
          | none => exact hn.elim
          | some n => exact List.getElem?_set_self (by rw [hi]; exact (List.getElem?_eq_some_iff.mp hn.1).1)
      refine ⟨c, fs, rfl, xk, F, κ, gone i l, S, st, ?_⟩
      have p3 : PostS J D F κ S.length (suiteEnd i (evSs (J.sui i a d fs).C h (gone i l) S)) := p2
      revert p3
      cases evSs (J.sui i a d fs).C h (gone i l) S with
      | nx l2 S2 =>
        intro p3 F2 κ2 σ2 H2 e2 n2 s2
        have p4 : PostS J D F κ S.length (.nx (gone i l2) S2) := p3
        cases i with
        | none => exact p4 F2 κ2 σ2 H2 e2 n2 ⟨s2.rel, s2.lo, s.hx.mono e2 n2, no_hi hh⟩
        | some i => exact p4 F2 κ2 (σ2.set i none) H2 e2 n2 ⟨s2.rel, lo_gone s2.lo i none, s.hx.mono e2 n2, no_hi hh⟩
      | rt d2 S2 =>
        intro p3 F2 κ2 v H2 e2 n2 R2 r2
        have q := (show PostS J D F κ S.length (.rt d2 S2) from p3) F2 κ2 v H2 e2 n2 R2 r2
        cases i with
        | none => exact q
        | some i => exact q
      | bk l2 S2 => exact fun p3 => (show False from p3).elim
      | ct l2 S2 => exact fun p3 => (show False from p3).elim
      | ex c2 fs2 l2 S2 => exact fun p3 => (show False from p3).elim
      | stuck => exact fun p3 => (show False from p3).elim
    · rw [hb1] at p2
      exact ih p2
theorem js_try {body : List PySem.Stmt} {h0 : ExceptHandler} {hds : List ExceptHandler} {b : List Sm} {hs : List (List Sm)} {cs : List Nat} {is : List (Option Nat)} (hh : J.hi = none) (hs1 : X.stack = X.env :: X.outer) (hf : X.env.frame = some X.env.locals) (hN : X.N.Nodup) (tk : Takes X J.W)
    (hb : ∀ (W : WX) (pn : List (Addr × Obj)) (xe : Value → Shared → Prop), Takes (X.tr pn xe) W → PassesOwn (model X.prog X.w) X.A X.env xe → JSs (X.tr pn xe) { J with W := W } body b) (hk : HsOk X J (h0 :: hds) hs cs is) :
    PS X (.Try body (h0 :: hds) [] [] pos) (canS J (evS J.C (.try_ b cs is hs))) := by
  refine PS.imp (ps_clauses (tb := fun W => canS { J with W := W } (evSs J.C b)) hs1 hf hN tk hb (hs_cls hk)) fun D σ H ⟨F, κ, l, S, s, p⟩ => ?_
  refine ⟨F, κ, l, S, ⟨s.rel, s.lo, s.hx, s.hn⟩, ?_⟩
  have p2 : PostS J D F κ S.length (match evSs J.C b l S with
    | .ex c fs l1 S1 => evHs J.C c fs l1 S1 hs cs is
    | q => q) := p
  revert p2
  cases evSs J.C b l S with
  | ex c fs l1 S1 =>
    intro p2 F1 κ1 d σ1 H1 xk e1 n1 s1 xd
    intro hlen
    have s2 : Stt J F1 κ1 l1 S1 σ1 H1 := ⟨s1.rel, s1.lo, s1.hx, s1.hn⟩
    exact hs_go hh xk s2 xd hk hlen (PostS.step (show PostS J D F κ S.length (evHs J.C c fs l1 S1 hs cs is) from p2) e1 n1)
  | nx l1 S1 => exact fun p2 F1 κ1 σ1 H1 e1 n1 s1 => p2 F1 κ1 σ1 H1 e1 n1 ⟨s1.rel, s1.lo, s1.hx, s1.hn⟩
  | rt d S1 => exact fun p2 => p2
  | bk l1 S1 => exact fun p2 F1 κ1 σ1 H1 e1 n1 s1 => p2 F1 κ1 σ1 H1 e1 n1 ⟨s1.rel, s1.lo, s1.hx, s1.hn⟩
  | ct l1 S1 => exact fun p2 F1 κ1 σ1 H1 e1 n1 s1 => p2 F1 κ1 σ1 H1 e1 n1 ⟨s1.rel, s1.lo, s1.hx, s1.hn⟩
  | stuck => exact fun p2 => p2
theorem js_tryE {orelse : List PySem.Stmt} {el : List Sm} (ho : JSs X J orelse el) {body : List PySem.Stmt} {h0 : ExceptHandler} {hds : List ExceptHandler} {b : List Sm} {hs : List (List Sm)} {cs : List Nat} {is : List (Option Nat)} (hh : J.hi = none) (hs1 : X.stack = X.env :: X.outer) (hf : X.env.frame = some X.env.locals) (hN : X.N.Nodup) (tk : Takes X J.W)
    (hb : ∀ (W : WX) (pn : List (Addr × Obj)) (xe : Value → Shared → Prop), Takes (X.tr pn xe) W → PassesOwn (model X.prog X.w) X.A X.env xe → JSs (X.tr pn xe) { J with W := W } body b) (hk : HsOk X J (h0 :: hds) hs cs is) :
    PS X (.Try body (h0 :: hds) orelse [] pos) (canS J (evS J.C (.tryE b cs is hs el))) := by
  refine PS.imp (ps_clausesE (u := canS J (evSs J.C el)) ho (tb := fun W => canS { J with W := W } (evSs J.C b)) hs1 hf hN tk hb (hs_cls hk)) fun D σ H ⟨F, κ, l, S, s, p⟩ => ?_
  refine ⟨F, κ, l, S, ⟨s.rel, s.lo, s.hx, s.hn⟩, ?_⟩
  have p2 : PostS J D F κ S.length (match evSs J.C b l S with
    | .ex c fs l1 S1 => evHs J.C c fs l1 S1 hs cs is
    | .nx l1 S1 => evSs J.C el l1 S1
    | q => q) := p
  revert p2
  cases evSs J.C b l S with
  | ex c fs l1 S1 =>
    intro p2 F1 κ1 d σ1 H1 xk e1 n1 s1 xd
    intro hlen
    have s2 : Stt J F1 κ1 l1 S1 σ1 H1 := ⟨s1.rel, s1.lo, s1.hx, s1.hn⟩
    exact hs_go hh xk s2 xd hk hlen (PostS.step (show PostS J D F κ S.length (evHs J.C c fs l1 S1 hs cs is) from p2) e1 n1)
  | nx l1 S1 => exact fun p2 F1 κ1 σ1 H1 e1 n1 s1 => ⟨F1, κ1, l1, S1, ⟨s1.rel, s1.lo, s1.hx, s1.hn⟩, PostS.step (show PostS J D F κ S.length (evSs J.C el l1 S1) from p2) e1 n1⟩
  | rt d S1 => exact fun p2 => p2
  | bk l1 S1 => exact fun p2 F1 κ1 σ1 H1 e1 n1 s1 => p2 F1 κ1 σ1 H1 e1 n1 ⟨s1.rel, s1.lo, s1.hx, s1.hn⟩
  | ct l1 S1 => exact fun p2 F1 κ1 σ1 H1 e1 n1 s1 => p2 F1 κ1 σ1 H1 e1 n1 ⟨s1.rel, s1.lo, s1.hx, s1.hn⟩
  | stuck => exact fun p2 => p2
end
end EL

/-! ELt4: objects made by their classes, their methods called. -/
namespace EL
open PySem L2 PySem.Spec PyProof.Rows
section
variable {X : Cx} {k : Nat} {f C : Addr} {fd : FuncData} {ps : List Str} {sp : Sp} {nm m : Str} {p1 cpos apos : Pos} {e o : PySem.Expr} {es : List PySem.Expr} {ta : TE} {t : TA} {W : WX}
theorem run_mkE {pins : List (Addr × Obj)} {σ : L2.St} {H : Hp} {s : Shared} {Q : VK} {us : List Value} {vs : List V} (M : Mk X.K C f) (F : FnE X.prog X.w X.K X.mg X.base k f fd ps sp) (hr : Room (k + 1) X.A) (hg : X.A.guards = some []) (hb : Binds X.K fd ps []) (tk : Takes X W) (I : Inv X pins σ H s) (r : Vals vs us)
    (h : ∀ x dx, H x = none → H dx = none → dx ≠ x → sp (.ref x :: vs) (upd (upd H dx (.own x)) x (.ins C dx [])) (fun v H2 => v = .non ∧ Q (.ref x) H2) (fun c d H' => W c d σ H')) :
    wpAny (model X.prog X.w) X.A (call (.ref C) us) (EP X pins σ Q) X.xe s := by
  have q := h (s.heap.objs.size + 1) s.heap.objs.size (I.hok.fresh (Nat.le_succ _)) (I.hok.fresh (Nat.le_refl _)) (Nat.ne_of_lt (Nat.lt_succ_self _))
  have J := Inv.made (C := C) I
  have rv : Vals (V.ref (s.heap.objs.size + 1) :: vs) (Value.ref (s.heap.objs.size + 1) :: us) := .cons rfl r
  have hl : (Value.ref (s.heap.objs.size + 1) :: us ++ []).length = ps.length := by
    have z := F.len _ _ _ _ q
    rw [List.append_nil, ← rv.length]
    exact z
  have b := hb _ (Value.ref (s.heap.objs.size + 1) :: us) J.kIn hl
  rw [List.append_nil] at b
  have run := F.run _ X.stack _ _ ⟨Value.ref (s.heap.objs.size + 1) :: us, []⟩ _ _ _ (fun c d H' => W c d σ H') (hr.make C us []) (by exact hg) (J.env0.make C us []) b rv q
  refine wpAny_call (make_map (f := f) I.kIn M.makes M.init (beq_iff_eq.mp M.fn) (codeAny_mono run fun res s1 hq => ?_))
  cases res with
  | error u => exact tk u s1 (XE.of_call J (fun _ _ _ z => z) hq)
  | ok fl =>
    cases fl with
    | ret u =>
      obtain ⟨v, H3, J3, rv, ev, q3⟩ := J.after hq
      subst ev
      exact ⟨rv, V.ref (s.heap.objs.size + 1), H3, J3, rfl, q3⟩
    | next => exact False.elim hq
    | brk => exact False.elim hq
    | cont => exact False.elim hq
def tMkE (C : Addr) (W : WX) (sp : Sp) (t : TA) : TE := fun σ H Q => t σ H fun vs H1 => ∀ x dx, H1 x = none → H1 dx = none → dx ≠ x → sp (.ref x :: vs) (upd (upd H1 dx (.own x)) x (.ins C dx [])) (fun v H2 => v = .non ∧ Q (.ref x) H2) (fun c d H' => W c d σ H')
theorem pe_mkE (M : Mk X.K C f) (F : FnE X.prog X.w X.K X.mg X.base k f fd ps sp) (hr : Room (k + 1) X.A) (hgd : X.A.guards = some []) (hg : Gl X nm) (hm : X.mg nm = some (.ref C)) (hb : Binds X.K fd ps []) (tk : Takes X W)
    (hp : (e :: es).all pl = true) (ha : PA X (e :: es) t) (hdb : (nm == ("__debug__" : Str)) = false) : PE X (.Call (.Name nm p1) (e :: es) [] cpos) (tMkE C W sp t) := by
  have hp2 := and2.mp (show (pl e && es.all pl) = true from hp)
  refine ⟨fun pins s σ H Q I h => wpAny_Call_Name_kw (ld_glob I hg hm ?_ hdb)⟩
  exact PySem.W.callWith_K (h₀ := X.base) I.ok.mod.kin M.kp (thn (ha.run cpos pins s σ H _ I h) fun us s1 ⟨vs, H1, I1, r, q⟩ => ⟨I1.kIn, run_mkE M F hr hgd hb tk I1 r q⟩) (star_pl hp2.1 _ _) (back_all hp2.2)
theorem pe_mkE0 (M : Mk X.K C f) (F : FnE X.prog X.w X.K X.mg X.base k f fd ps sp) (hr : Room (k + 1) X.A) (hgd : X.A.guards = some []) (hg : Gl X nm) (hm : X.mg nm = some (.ref C)) (hb : Binds X.K fd ps []) (tk : Takes X W)
    (hdb : (nm == ("__debug__" : Str)) = false) : PE X (.Call (.Name nm p1) [] [] cpos) (tMkE C W sp tNil) := by
  refine ⟨fun pins s σ H Q I h => wpAny_Call_Name_kw (ld_glob I hg hm ?_ hdb)⟩
  exact PySem.W.callWith_K0 I.kIn M.kp (run_mkE (us := []) M F hr hgd hb tk I .nil h)
/-- o.m(..): the class is known when the object is -/
def tMtE (X : Cx) (W : WX) (m : Str) (ta : TE) (t : TA) : TE := fun σ H Q => ta σ H fun x H1 => ∃ (a C dx f : Addr) (fs : List (Str × V)) (k : Nat) (fd : FuncData) (ps : List Str) (sp : Sp), x = .ref a ∧ H1 a = some (.ins C dx fs) ∧ fs.lookup m = none ∧ Cls X.K C ∧ Meth X.K C m f ∧
  FnE X.prog X.w X.K X.mg X.base k f fd ps sp ∧ Room k X.A ∧ Binds X.K fd ps [] ∧ t σ H1 fun vs H2 => sp (x :: vs) H2 Q (fun c d H' => W c d σ H')
/-- how a method's call is read -/
theorem meth_ev {o : PySem.Expr} {m : Str} {es : List PySem.Expr} {apos pos : Pos} {env : Env} (hb : notSuper o = true) (hl : (apos.endLine == pos.line) = true)
    (hf : methodCallForm (es.length + ([] : List Keyword).length) (backTo pos (starEach es env)) (backToKw pos (keywordEach [] env)) = true) : ∃ w : Sem Bool, eval (.Call (.Attribute o m apos) es [] pos) env = (do
    let ov ← eval o env
    standAt apos.atName
    let (f, first) ← holding [ov] (getMethod ov m w)
    callWith pos f first (backTo pos (starEach es env)) (backToKw pos (keywordEach [] env))) := by
  refine ⟨do return (← importBound o env).getD true, ?_⟩
  rw [PySem.arm_eval_Call, attr_base hb]
  unfold methodCall
  rw [hf]
  unfold calleeOf methodCallPos
  simp only [hl, Bool.not_true, Bool.or_true, if_true]
  rfl
theorem pe_mtE (hr : notSuper o = true) (hl : (apos.endLine == cpos.line) = true) (hn : (e :: es).length < 30) (hgd : X.A.guards = some []) (he : PE X o ta) (tk : Takes X W) (hp : (e :: es).all pl = true) (ha : PA X (e :: es) t) : PE X (.Call (.Attribute o m apos) (e :: es) [] cpos) (tMtE X W m ta t) := by
  have hp2 := and2.mp (show (pl e && es.all pl) = true from hp)
  obtain ⟨w, hw⟩ := meth_ev (m := m) (env := X.env) hr hl (few_all hp hn)
  refine ⟨fun pins s σ H Q I h => ?_⟩
  refine PySem.W.methodCall_KW (pl := w) (thn (he.run pins s σ H _ I h) fun u s1 ⟨x, H1, I1, rx, a, C, dx, f, fs, k, fd, ps, sp, ex, ea, l, hc, hm, F, room, hb, q⟩ => ?_) hw
  subst ex
  obtain rfl : u = Value.ref a := rx
  refine getmeth_ok I1 ea hc hm l ?_
  refine PySem.W.callWith_K (first := [.ref a]) (h₀ := X.base) I.ok.mod.kin hm.kp (thn (ha.run cpos pins s1 σ H1 _ I1 q) fun us s2 ⟨vs, H2, I2, r, q2⟩ => ⟨I2.kIn, ?_⟩) (star_pl hp2.1 _ _) (back_all hp2.2)
  exact run_fnE (us := .ref a :: us) (vs := .ref a :: vs) F room hgd hb tk I2 (.cons rfl r) q2
theorem pe_mtE0 (hr : notSuper o = true) (hl : (apos.endLine == cpos.line) = true) (hgd : X.A.guards = some []) (he : PE X o ta) (tk : Takes X W) : PE X (.Call (.Attribute o m apos) [] [] cpos) (tMtE X W m ta tNil) := by
  obtain ⟨w, hw⟩ := meth_ev (m := m) (es := []) (env := X.env) hr hl rfl
  refine ⟨fun pins s σ H Q I h => ?_⟩
  refine PySem.W.methodCall_KW (pl := w) (thn (he.run pins s σ H _ I h) fun u s1 ⟨x, H1, I1, rx, a, C, dx, f, fs, k, fd, ps, sp, ex, ea, l, hc, hm, F, room, hb, q⟩ => ?_) hw
  subst ex
  obtain rfl : u = Value.ref a := rx
  refine getmeth_ok I1 ea hc hm l ?_
  exact PySem.W.callWith_K0 (first := [.ref a]) I1.kIn hm.kp (run_fnE (us := [.ref a]) (vs := [.ref a]) F room hgd hb tk I1 (.cons rfl .nil) q)
end
theorem repF_miss {G : Gx} {F : Hp} {κ : Nat → Addr} {n : Nat} {m : Str} (hm : ∀ f, f < G.nf → G.fm f ≠ m) : ∀ {vs : List (Str × V)} {ds : Fds}, RepF G F κ n vs ds → vs.lookup m = none
  | _, _, .nil => rfl
  | _, _, .cons (f := f) lt r s => by
    rw [List.lookup_cons, show (m == G.fm f) = false by simpa using fun e => hm f lt e.symm]
    exact repF_miss hm s
section
variable {X : Cx} {J : Jx} {pos p1 cpos apos : Pos} {e o : PySem.Expr} {es : List PySem.Expr} {xs : List Ex} {y : Ex} {nm m : Str}
/-- what a method's class wants -/
structure MtF (X : Cx) (J : Jx) (m : Nat) (nm : Str) (c : Nat) : Prop where
  cls : Cls X.K (J.G.cm c)
  mt : ∀ fi, J.C.pg.mth c m = some fi → ∃ k f fd ps, Meth X.K (J.G.cm c) nm f ∧ FnE X.prog X.w X.K X.mg X.base k f fd ps (spF J.G (J.C.pg.fn fi)) ∧ Room k X.A ∧ Binds X.K fd ps []
theorem je_meth_core {kb : Bool} {m : Nat} {mf : EL.Loc → Sto → EL.R (List D)} {F : Hp} {κ : Nat → Addr} {l : Loc} {S : Sto} {σ : L2.St} {H : Hp} {Q : VK} {t : TA} (hf : ∀ f, f < J.G.nf → J.G.fm f ≠ nm) (hc : ∀ c, c < J.G.nk → (J.C.pg.mth c m).isSome = true → MtF X J m nm c) (ht : ∀ σ H Q, Can J (RepA J.G) mf σ H Q → t σ H Q) (s : Stt J F κ l S σ H)
    (p : Post J (Rep J.G) F κ S.length σ Q ((evE J.C y l S).bind fun u S1 => match EL.get S1 u with
      | .obj c _ => (match J.C.pg.mth c m with
        | some f => (mf l S1).bind fun ds S2 => rfE kb (J.C.pg.fn f J.C.bs (u :: ds) S2)
        | none => .stuck)
      | _ => .stuck)) : Can J (Rep J.G) (evE J.C y) σ H fun x H1 => ∃ (a C dx f : Addr) (fs : List (Str × V)) (k : Nat) (fd : FuncData) (ps : List Str) (sp : Sp), x = .ref a ∧ H1 a = some (.ins C dx fs) ∧ fs.lookup nm = none ∧ Cls X.K C ∧ Meth X.K C nm f ∧
        FnE X.prog X.w X.K X.mg X.base k f fd ps sp ∧ Room k X.A ∧ Binds X.K fd ps [] ∧ t σ H1 fun vs H2 => sp (x :: vs) H2 Q (fun c d H' => J.W c d σ H') := by
  refine Can.mono (s.bind (mf := evE J.C y) p) fun u H1 ⟨F1, κ1, S1, du, _, _, s1, r1, p1⟩ => ?_
  dsimp only at p1
  split at p1
  · rename_i c fs hg
    obtain ⟨a, dx, vs, rfl, h3, h4, lt⟩ := s1.rel.gObj r1 hg
    split at p1
    · rename_i fi hm
      have M := hc c lt (by rw [hm]; rfl)
      obtain ⟨k, f, fd, ps, mt, F, room, hb⟩ := M.mt fi hm
      refine ⟨a, _, dx, f, vs, k, fd, ps, _, rfl, h3, repF_miss hf h4, M.cls, mt, F, room, hb, ht _ _ _ ?_⟩
      refine Can.mono (s1.bind (mf := mf) p1) fun ws H2 ⟨F2, κ2, S2, ds, e2, n2, s2, r2, p2⟩ => ?_
      exact ⟨F2, κ2, J.Bs, J.C.bs, S2, du :: ds, s2.rel, .cons (r1.mono e2 n2) r2, J.bs, post_rfE p2⟩
    · exact p1.elim
  · exact p1.elim
theorem je_meth {kb : Bool} {m : Nat} (hr : notSuper o = true) (hl : (apos.endLine == cpos.line) = true) (hn : (e :: es).length < 30) (hgd : X.A.guards = some []) (tk : Takes X J.W) (hf : ∀ f, f < J.G.nf → J.G.fm f ≠ nm) (hc : ∀ c, c < J.G.nk → (J.C.pg.mth c m).isSome = true → MtF X J m nm c) (ho : JE X J o y) (hp : (e :: es).all pl = true) (ha : JA X J (e :: es) xs) :
    JE X J (.Call (.Attribute o nm apos) (e :: es) [] cpos) (.meth kb m y xs) :=
  PE.imp (pe_mtE hr hl hn hgd ho tk hp ha) fun σ H Q ⟨F, κ, l, S, s, p⟩ => je_meth_core (kb := kb) (mf := evEs J.C xs) hf hc (fun _ _ _ z => z) s p
theorem je_meth0 {kb : Bool} {m : Nat} (hr : notSuper o = true) (hl : (apos.endLine == cpos.line) = true) (hgd : X.A.guards = some []) (tk : Takes X J.W) (hf : ∀ f, f < J.G.nf → J.G.fm f ≠ nm) (hc : ∀ c, c < J.G.nk → (J.C.pg.mth c m).isSome = true → MtF X J m nm c) (ho : JE X J o y) :
    JE X J (.Call (.Attribute o nm apos) [] [] cpos) (.meth kb m y []) :=
  PE.imp (pe_mtE0 hr hl hgd ho tk) fun σ H Q ⟨F, κ, l, S, s, p⟩ => je_meth_core (kb := kb) (mf := evEs J.C []) (t := tNil) hf hc (fun σ H Q ⟨F, κ, l, S, s, p⟩ => p F κ [] H .refl (Nat.le_refl _) s.rel .nil) s p
/-! ### objects made -/
theorem make_post {kb : Bool} {F : Hp} {κ : Nat → Addr} {S : Sto} {l : Loc} {σ : L2.St} {H : Hp} {Q : VK} {c fi : Nat} {ws : List V} {ds : List D} {x dx : Addr} (s : Stt J F κ l S σ H) (hc : c < J.G.nk) (r : RepA J.G F κ S.length ws ds)
    (p : Post J (Rep J.G) F κ S.length σ Q (madeE kb S.length (J.C.pg.fn fi (if kb then J.C.bs else S.length) (.cell S.length :: ds) (S ++ [.obj c []])))) (hx : H x = none) (hd : H dx = none) (ne : dx ≠ x) :
    spF J.G (J.C.pg.fn fi) (.ref x :: ws) (upd (upd H dx (.own x)) x (.ins (J.G.cm c) dx [])) (fun v H2 => v = .non ∧ Q (.ref x) H2) (fun c d H' => J.W c d σ H') := by
  have R1 := s.rel.junk (o := .own x) hd
  have hx1 : upd H dx (.own x) x = none := by rw [upd_ne (Ne.symm ne)]; exact hx
  have R2 := R1.junk (o := .ins (J.G.cm c) dx []) hx1
  have fx : F x = none := s.rel.sub.there hx
  obtain ⟨κ2, hk, e2, R3⟩ := R2.adopt (p := x) upd_same fx (fun i hi => s.rel.ne hx hi) (s.rel.pne hx) (Cont.obj (c := c) (dx := dx) hc .nil)
  have len : (S ++ [D.obj c []]).length = S.length + 1 := by simp
  have rs : Rep J.G F κ2 (S ++ [D.obj c []]).length (.ref x) (.cell S.length) := by
    rw [← hk]
    exact .cell (by rw [len]; omega)
  have ra : RepA J.G F κ2 (S ++ [D.obj c []]).length (.ref x :: ws) (.cell S.length :: ds) := .cons rs (r.mono e2 (by rw [len]; omega))
  have back : ∀ {F3 : Hp} {κ3 : Nat → Addr} {n3 : Nat}, Ext F κ2 (S ++ [D.obj c []]).length F3 κ3 → Ext F κ S.length F3 κ3 := fun e3 => e2.trans e3 (by rw [len]; omega)
  have at_ : ∀ {F3 : Hp} {κ3 : Nat → Addr}, Ext F κ2 (S ++ [D.obj c []]).length F3 κ3 → κ3 S.length = x := fun e3 => by rw [e3.ce _ (by rw [len]; omega), hk]
  cases kb with
  | true =>
    refine ⟨F, κ2, J.Bs, J.C.bs, _, _, R3, ra, J.bs, ?_⟩
    rw [if_pos rfl] at p
    revert p
    cases J.C.pg.fn fi J.C.bs (.cell S.length :: ds) (S ++ [.obj c []]) with
    | val d S1 =>
      intro p F3 κ3 v H3 e3 n3 R4 r4
      cases d with
      | non =>
        cases r4
        have p2 : Post J (Rep J.G) F κ S.length σ Q (.ok (.cell S.length) S1) := p
        refine ⟨rfl, p2 F3 κ3 _ H3 (back (n3 := 0) e3) (by rw [len] at n3; omega) R4 ?_⟩
        rw [← at_ e3]
        exact .cell (by rw [len] at n3; omega)
      | _ => exact (show False from p).elim
    | fresh d S1 => exact fun p => (show False from p).elim
    | ex c2 fs S1 =>
      intro p F3 κ3 d H3 xk e3 n3 R4 r4
      exact (show Post J (Rep J.G) F κ S.length σ Q (.ex c2 fs S1) from p) F3 κ3 d H3 xk (back (n3 := 0) e3) (by rw [len] at n3; omega) R4 r4
    | stuck => exact fun p => (show False from p).elim
  | false =>
    have lowB : ∀ b ∈ J.Bs.bs, b ≤ S.length := fun b hb => (s.rel.low b hb).1
    have R3' : Rel J.G F κ2 ⟨S.length :: J.Bs.bs, J.Bs.pr⟩ (S ++ [.obj c []]) (upd (upd H dx (.own x)) x (.ins (J.G.cm c) dx [])) := by
      refine ⟨R3.sub, R3.cells, R3.inj, fun b hb => ?_, R3.prot⟩
      rcases List.mem_cons.mp hb with hb | hb
      · subst hb
        refine ⟨by rw [len]; omega, fun i cc hi e => ?_⟩
        rw [List.getElem?_append_left hi] at e
        obtain ⟨_, o, _, y⟩ := s.rel.cells i cc e
        exact y.bnd
      · exact R3.low b hb
    refine ⟨F, κ2, ⟨S.length :: J.Bs.bs, J.Bs.pr⟩, S.length, _, _, R3', ra, fun b hb => ?_, ?_⟩
    · rcases List.mem_cons.mp hb with hb | hb
      · rw [hb]; exact Nat.le_refl _
      · exact lowB b hb
    rw [if_neg (by decide)] at p
    revert p
    cases J.C.pg.fn fi S.length (.cell S.length :: ds) (S ++ [.obj c []]) with
    | val d S1 =>
      intro p F3 κ3 v H3 e3 n3 R4 r4
      cases d with
      | non =>
        cases r4
        have p2 : Post J (Rep J.G) F κ S.length σ Q (rfE false (exitV S.length false (.cell S.length) S1)) := p
        refine ⟨rfl, ?_⟩
        refine exitV_ok (keep := false) (Bs := J.Bs) (Q := Q) (E := fun c d H' => J.W c d σ H') (post_rfE p2) (back (n3 := 0) e3) (by rw [len] at n3; omega) R4 lowB ?_
        rw [← at_ e3]
        exact .cell (by rw [len] at n3; omega)
      | _ => exact (show False from p).elim
    | fresh d S1 => exact fun p => (show False from p).elim
    | ex c2 fs S1 =>
      intro p F3 κ3 d H3 xk e3 n3 R4 r4
      have p2 : Post J (Rep J.G) F κ S.length σ Q (rfE false (exitX S.length false c2 fs S1)) := p
      exact exitX_ok (keep := false) (Bs := J.Bs) (Q := Q) (E := fun c d H' => J.W c d σ H') (post_rfE p2) xk (back (n3 := 0) e3) (by rw [len] at n3; omega) R4 lowB r4
    | stuck => exact fun p => (show False from p).elim
theorem je_make {kb : Bool} {c k fi : Nat} {f : Addr} {fd : FuncData} {ps : List Str} (hc : c < J.G.nk) (hi : J.C.pg.ini c = some fi) (M : Mk X.K (J.G.cm c) f) (F : FnE X.prog X.w X.K X.mg X.base k f fd ps (spF J.G (J.C.pg.fn fi))) (hr : Room (k + 1) X.A) (hgd : X.A.guards = some []) (hg : Gl X nm) (hm : X.mg nm = some (.ref (J.G.cm c))) (hb : Binds X.K fd ps []) (tk : Takes X J.W)
    (hp : (e :: es).all pl = true) (ha : JA X J (e :: es) xs) (hdb : (nm == ("__debug__" : Str)) = false) : JE X J (.Call (.Name nm p1) (e :: es) [] cpos) (.make kb c xs) := by
  refine PE.imp (pe_mkE M F hr hgd hg hm hb tk hp ha hdb) fun σ H Q ⟨F, κ, l, S, s, p⟩ => ?_
  refine Can.mono (s.bind (mf := evEs J.C xs) p) fun vs H1 ⟨F1, κ1, S1, ds, _, _, s1, r1, p1⟩ => fun x dx hx hd ne => ?_
  dsimp only at p1
  rw [hi] at p1
  exact make_post s1 hc r1 p1 hx hd ne
theorem je_make0 {kb : Bool} {c k fi : Nat} {f : Addr} {fd : FuncData} {ps : List Str} (hc : c < J.G.nk) (hi : J.C.pg.ini c = some fi) (M : Mk X.K (J.G.cm c) f) (F : FnE X.prog X.w X.K X.mg X.base k f fd ps (spF J.G (J.C.pg.fn fi))) (hr : Room (k + 1) X.A) (hgd : X.A.guards = some []) (hg : Gl X nm) (hm : X.mg nm = some (.ref (J.G.cm c))) (hb : Binds X.K fd ps []) (tk : Takes X J.W)
    (hdb : (nm == ("__debug__" : Str)) = false) : JE X J (.Call (.Name nm p1) [] [] cpos) (.make kb c []) := by
  refine PE.imp (pe_mkE0 M F hr hgd hg hm hb tk hdb) fun σ H Q ⟨F, κ, l, S, s, p⟩ => fun x dx hx hd ne => ?_
  have p1 : Post J (Rep J.G) F κ S.length σ Q (match J.C.pg.ini c with
    | some f => madeE kb S.length (J.C.pg.fn f (if kb then J.C.bs else S.length) (.cell S.length :: []) (S ++ [.obj c []]))
    | none => .stuck) := p
  rw [hi] at p1
  exact make_post s hc .nil p1 hx hd ne
end
end EL

/-! ELj: the checker is right: expressions. -/
namespace EL
open PySem L2 PySem.Spec PyProof.Rows
structure XOk (c : Ck) (X : Cx) (J : Jx) : Prop where
  N : X.N = c.N
  nd : c.N.Nodup
  sc : X.env.scope = c.sc
  kind : c.sc.kind = .function
  K : X.K = c.K
  GK : J.G.K = X.K
  calm : c.calm = true → X.calm = true
  un : X.A.units + 64 < cLine
  gd : X.A.guards = some []
  mgo : ∀ x v, PySem.W.nsIn c.K mainGlobals x = some (some v) → X.mg x = some v
  mgn : ∀ x, PySem.W.nsIn c.K mainGlobals x = some none → X.mg x = none
  fn : c.top = true → ∀ x, X.fn x = true
  tk : Takes X J.W
  po : PassesOwn (model X.prog X.w) X.A X.env X.xe
  room : c.calm = true → Room (2 * c.ml + 1) X.A
  calls : ∀ f, f < c.me → c.t.lvl f < c.ml → ∃ fd ps, FnE X.prog X.w X.K X.mg X.base (2 * c.t.lvl f + 2) (He.fAd c.K (c.t.pl f)) fd ps (spF J.G (J.C.pg.fn f)) ∧ Binds X.K fd ps []
  gls : ∀ g, J.C.pg.gls g = glD c.t g
  kit : ∀ t, tyOk c.t c.K t = true → KitF X.K J.G J.C.pg.sub t
  own : ∀ k, k < J.G.nk → Own X.K (J.G.cm k)
  hi : c.calm = true → J.hi = none
  G : J.G = gxOf c.K c.t
  pg : J.C.pg = pgOf c.t J.C.pg.fn
  cl : chCl c.t c.K = true
  rz : ∀ k cl, c.t.cls[k]? = some cl → cl.exc = true → cl.ifs ≠ [] → RzOk X.prog X.w X.K X.mg X.base (J.G.cm k) (cl.ifs.map J.G.fm)
  stk : c.top = true → X.stack = X.env :: X.outer ∧ X.env.frame = some X.env.locals
  hd : ∀ i, c.hd = some i → HdF X J i
  sm : (X.K.lookup sysModules).isSome = true
theorem xok_blk {c : Ck} {X : Cx} {J : Jx} (ok : XOk c X J) {scope : Scope} {own : List (Str × Nat)} (hb : blkC c.N c.sc scope own = true) (s : Shared) (H : Hp) (C : Addr) (cl : List (Str × Addr)) (fp : List Addr) (pr : List (Addr × HO)) :
    XOk (c.blk scope) (X.blk s H scope (compEnvC scope cl C X.env) fp) (J.wp pr) where
  N := ok.N
  nd := ok.nd
  sc := by
    show relabel scope X.env = relS scope c.sc
    rw [← ok.sc]
    rfl
  kind := (blkOk_by hb).kind
  K := ok.K
  GK := ok.GK
  calm := ok.calm
  un := ok.un
  gd := ok.gd
  mgo := ok.mgo
  mgn := ok.mgn
  fn := fun h => by cases h
  tk := takes_none5
  po := PassesOwn.never
  room := ok.room
  calls := ok.calls
  gls := ok.gls
  kit := ok.kit
  own := ok.own
  hi := ok.hi
  G := ok.G
  pg := ok.pg
  cl := ok.cl
  rz := ok.rz
  stk := fun h => by cases h
  hd := fun i h => by cases h
  sm := ok.sm
theorem xok_gp {c : Ck} {X : Cx} {J : Jx} (ok : XOk c X J) (pr : List (Addr × HO)) : XOk c X (J.gp pr) where
  N := ok.N
  nd := ok.nd
  sc := ok.sc
  kind := ok.kind
  K := ok.K
  GK := ok.GK
  calm := ok.calm
  un := ok.un
  gd := ok.gd
  mgo := ok.mgo
  mgn := ok.mgn
  fn := ok.fn
  tk := ok.tk
  po := ok.po
  room := ok.room
  calls := ok.calls
  gls := ok.gls
  kit := ok.kit
  own := ok.own
  hi := ok.hi
  G := ok.G
  pg := ok.pg
  cl := ok.cl
  rz := ok.rz
  stk := ok.stk
  hd := ok.hd
  sm := ok.sm
section
variable {c : Ck} {X : Cx} {J : Jx}
theorem XOk.gl (ok : XOk c X J) {n : Str} (h : isGl c.sc n = true) : Gl X n := by
  unfold isGl at h
  show X.env.scope.names.lookup n = some .globalImplicit
  rw [ok.sc]
  split at h
  · assumption
  · cases h
theorem XOk.fr (ok : XOk c X J) {n : Str} (h : free c.K n = true) : X.mg n = none := by
  unfold free at h
  split at h
  · rename_i e
    exact ok.mgn n e
  · cases h
theorem XOk.vis (ok : XOk c X J) {n : Str} (h : isVis c.sc n = true) : Vis X.env.scope n := by
  unfold isVis at h
  unfold Vis
  rw [ok.sc]
  split at h
  · exact .inl (by assumption)
  · exact .inr (.inl (by assumption))
  · exact .inr (.inr (by assumption))
  · cases h
theorem XOk.lc (ok : XOk c X J) {n : Str} (h : isLC c.sc n = true) : L2.Loc X.env.scope n := by
  unfold isLC at h
  unfold L2.Loc
  rw [ok.sc]
  split at h
  · exact .inl (by assumption)
  · exact .inr (by assumption)
  · cases h
theorem XOk.loc (ok : XOk c X J) {n : Str} (h : isLoc c.sc n = true) : X.env.scope.names.lookup n = some .local := by
  unfold isLoc at h
  rw [ok.sc]
  split at h
  · assumption
  · cases h
theorem XOk.at (ok : XOk c X J) {i : Nat} {n : Str} (h : decide (c.N[i]? = some n) = true) : X.N[i]? = some n := by
  rw [ok.N]
  exact of_decide_eq_true h
theorem ch_cop (ok : XOk c X J) {o : Cop} {op : CmpOp} (h : chCop o op = true) : CmpR X J o op := by
  cases o <;> cases op <;> first | (cases h; done) | skip
  · exact cr_eq ok.GK ok.un
  · exact cr_ne ok.GK ok.un
  · exact cr_lt
  · exact cr_le
  · exact cr_gt
  · exact cr_ge
  · exact cr_in ok.GK ok.un
  · exact cr_nin ok.GK ok.un
theorem ch_bin (ok : XOk c X J) {o : Op} {op : Operator} {a b : PySem.Expr} {x y : Ex} {pos : Pos} {k : Bool} (h : chOp o op = true) (ha : JE X J a x) (hb : JE X J b y) : JE X J (.BinOp a op b pos) (.bin k o x y) := by
  cases o <;> cases op <;> first | (cases h; done) | skip
  · exact je_add ok.GK ha hb
  · exact je_sub ha hb
  · exact je_mul ha hb
  · exact je_mod ha hb
  · exact je_fdiv ha hb
  · exact je_pow ha hb
theorem ch_bf (ok : XOk c X J) {f : Bf} {n : Str} {a : PySem.Expr} {r : List PySem.Expr} {as : List Ex} {k : Bool} {p1 pos : Pos} (h : chBf c.calm f n = true) (hg : isGl c.sc n = true) (hf : free c.K n = true) (hp : (a :: r).all pl = true) (ha : JA X J (a :: r) as) : JE X J (.Call (.Name n p1) (a :: r) [] pos) (.bf k f as) := by
  have g := ok.gl hg
  have m := ok.fr hf
  cases f <;> first | (cases h; done) | skip
  case len => cases eq_of_beq h; exact je_bf (bf_len ok.GK) g m (by decide +kernel) (by decide) (by decide) hp ha
  case str => cases eq_of_beq h; exact je_bfT bf_str g m (by decide +kernel) (by decide) (by decide) hp ha
  case int => cases eq_of_beq h; exact je_bfT bf_int g m (by decide +kernel) (by decide) (by decide) hp ha
  case repr => cases eq_of_beq h; exact je_bf (bf_repr ok.sm ok.GK ok.un ok.gd) g m (by decide +kernel) (by decide) (by decide) hp ha
  case max =>
    obtain ⟨h, hc⟩ := and2.mp h
    cases eq_of_beq h; exact je_bf (bf_max (ok.calm hc)) g m (by decide +kernel) (by decide) (by decide) hp ha
  case min =>
    obtain ⟨h, hc⟩ := and2.mp h
    cases eq_of_beq h; exact je_bf (bf_min (ok.calm hc)) g m (by decide +kernel) (by decide) (by decide) hp ha
  case sum =>
    obtain ⟨h, hc⟩ := and2.mp h
    cases eq_of_beq h; exact je_bf (bf_sum (ok.calm hc)) g m (by decide +kernel) (by decide) (by decide) hp ha
  case all =>
    obtain ⟨h, hc⟩ := and2.mp h
    cases eq_of_beq h; exact je_bf (bf_all (ok.calm hc)) g m (by decide +kernel) (by decide) (by decide) hp ha
  case any =>
    obtain ⟨h, hc⟩ := and2.mp h
    cases eq_of_beq h; exact je_bf (bf_any (ok.calm hc)) g m (by decide +kernel) (by decide) (by decide) hp ha
  case abs => cases eq_of_beq h; exact je_bf bf_abs g m (by decide +kernel) (by decide) (by decide) hp ha
  case divmod => cases eq_of_beq h; exact je_bf bf_divmod g m (by decide +kernel) (by decide) (by decide) hp ha
  case list => cases eq_of_beq h; exact je_bfT (bf_list ok.GK) g m (by decide +kernel) (by decide) (by decide) hp ha
  case tuple => cases eq_of_beq h; exact je_bfT (bf_tuple ok.GK) g m (by decide +kernel) (by decide) (by decide) hp ha
  case sorted => cases eq_of_beq h; exact je_bf bf_sorted g m (by decide +kernel) (by decide) (by decide) hp ha
  case dict =>
    obtain ⟨h, hc⟩ := and2.mp h
    cases eq_of_beq h; exact je_bfT (bf_dict (ok.calm hc) ok.GK) g m (by decide +kernel) (by decide) (by decide) hp ha
theorem ch_gl (ok : XOk c X J) {g : Nat} {n : Str} {pos : Pos} (h : chGl c g n = true) : JE X J (.Name n pos) (.gl g) := by
  unfold chGl at h
  obtain ⟨h, h3⟩ := and2.mp h
  obtain ⟨h1, h2⟩ := and2.mp h
  have hg := ok.gls g
  unfold glD at hg
  cases e : c.t.gls[g]? with
  | none =>
    rw [e] at h3
    cases h3
  | some mv =>
    obtain ⟨m, v⟩ := mv
    rw [e] at h3 hg
    cases v with
    | int i =>
      obtain ⟨_, h4⟩ := and2.mp h3
      split at h4
      · rename_i j tk hj
        have ej := of_decide_eq_true h4
        subst ej
        refine je_gl (v := .int i) (ok.gl h1) (ok.mgo _ _ hj) ⟨_, rfl⟩ (dbg h2).1 fun F κ n => ?_
        rw [hg]
        exact .int i
      · cases h4
    | str x =>
      obtain ⟨_, h4⟩ := and2.mp h3
      split at h4
      · rename_i j tk hj
        have ej := of_decide_eq_true h4
        subst ej
        refine je_gl (v := .str ⟨x.toArray⟩) (ok.gl h1) (ok.mgo _ _ hj) ⟨_, rfl⟩ (dbg h2).1 fun F κ n => ?_
        rw [hg]
        exact .str x
      · cases h4
theorem ch_call (ok : XOk c X J) {f : Nat} {n : Str} {es : List PySem.Expr} {as : List Ex} {k : Bool} {p1 pos : Pos} (h : chFn c f n = true) (hp : es.all pl = true) (ha : JA X J es as) (h0 : es = [] → as = []) : JE X J (.Call (.Name n p1) es [] pos) (.call k f as) := by
  unfold chFn at h
  obtain ⟨h, h6⟩ := and2.mp h
  obtain ⟨h, h5⟩ := and2.mp h
  obtain ⟨h, h4⟩ := and2.mp h
  obtain ⟨h, h3⟩ := and2.mp h
  obtain ⟨h, h2⟩ := and2.mp h
  obtain ⟨h0', h1⟩ := and2.mp h
  obtain ⟨fd, ps, F, hb⟩ := ok.calls f (of_decide_eq_true h3) (of_decide_eq_true h4)
  have room := (ok.room h0').mono (show 2 * c.t.lvl f + 2 ≤ 2 * c.ml + 1 by have := of_decide_eq_true h4; omega)
  have hf : He.fAd c.K (c.t.pl f) = He.ga c.K n := by
    split at h5
    · rename_i m hm
      rw [hm, eq_of_beq h5]
      rfl
    · cases h5
  rw [hf] at F
  split at h6
  · rename_i a ea
    obtain ⟨h7, h8⟩ := and2.mp h6
    have e := eq_of_beq h7
    subst e
    have hm := ok.mgo _ _ ea
    have hk : PySem.W.keepIn X.K (.ref (He.ga c.K n)) = true := by rw [ok.K]; exact h8
    cases es with
    | nil =>
      rw [h0 rfl]
      exact je_call0 F room ok.gd (ok.gl h1) hm hk hb ok.tk (dbg h2).1
    | cons e es => exact je_call F room ok.gd (ok.gl h1) hm hk hb ok.tk hp ha (dbg h2).1
  · cases h6
/-- the table's classes -/
theorem XOk.at_cl (ok : XOk c X J) {k : Nat} {cl : ClT} (h : c.t.cls[k]? = some cl) : (if cl.exc then chXc c.t c.K cl else chOc c.t c.K cl) = true := by
  have q := ok.cl
  unfold chCl at q
  obtain ⟨q, _⟩ := and2.mp q
  obtain ⟨q, _⟩ := and2.mp q
  obtain ⟨_, q⟩ := and2.mp q
  exact List.all_eq_true.mp q cl (List.mem_of_getElem? h)
theorem XOk.nk (ok : XOk c X J) {k : Nat} (h : k < J.G.nk) : ∃ cl, c.t.cls[k]? = some cl ∧ cl.exc = false := by
  have q := ok.cl
  unfold chCl at q
  obtain ⟨q, _⟩ := and2.mp q
  obtain ⟨_, q⟩ := and2.mp q
  rw [ok.G] at h
  have z := List.all_eq_true.mp q k (List.mem_range.mpr h)
  cases e : c.t.cls[k]? with
  | none =>
    rw [e] at z
    cases z
  | some cl =>
    rw [e] at z
    exact ⟨cl, rfl, nb z⟩
theorem XOk.cm (ok : XOk c X J) {k : Nat} {cl : ClT} (h : c.t.cls[k]? = some cl) : J.G.cm k = He.ga c.K cl.nm := by
  rw [ok.G]
  show (match c.t.cls[k]? with
    | some cl => He.ga c.K cl.nm
    | none => 0) = _
  rw [h]
theorem XOk.xk (ok : XOk c X J) {k : Nat} (h : J.G.xk k = true) : ∃ cl, c.t.cls[k]? = some cl ∧ cl.exc = true := by
  rw [ok.G] at h
  have h : (match c.t.cls[k]? with
    | some cl => cl.exc
    | none => false) = true := h
  cases e : c.t.cls[k]? with
  | none =>
    rw [e] at h
    cases h
  | some cl =>
    rw [e] at h
    exact ⟨cl, rfl, h⟩
theorem XOk.fl (ok : XOk c X J) {f : Nat} {n : Str} (h : chFl c f n = true) : f < J.G.nf ∧ J.G.fm f = n ∧ n ∈ c.t.fld := by
  unfold chFl at h
  obtain ⟨h1, h2⟩ := and2.mp h
  have q := ok.cl
  unfold chCl at q
  obtain ⟨q, _⟩ := and2.mp q
  obtain ⟨q, _⟩ := and2.mp q
  obtain ⟨q, _⟩ := and2.mp q
  obtain ⟨q, _⟩ := and2.mp q
  have lt := of_decide_eq_true h1
  have e := eq_of_beq h2
  rw [ok.G]
  refine ⟨?_, e, ?_⟩
  · show f < (if c.t.fld.Nodup then c.t.fld.length else 0)
    rw [if_pos (of_decide_eq_true q)]
    exact lt
  · rw [← e, List.getD_eq_getElem?_getD, List.getElem?_eq_getElem lt]
    exact List.getElem_mem lt
theorem okNm_mg (ok : XOk c X J) {nm : Str} (h : okNm c.K nm = true) : X.mg nm = some (.ref (He.ga c.K nm)) := by
  unfold okNm at h
  split at h
  · rename_i a e
    rw [eq_of_beq h] at e
    exact ok.mgo _ _ e
  · cases h
/-- what chOc tells -/
theorem XOk.oc (ok : XOk c X J) {k : Nat} (h : k < J.G.nk) : ∃ cl, c.t.cls[k]? = some cl ∧ X.mg cl.nm = some (.ref (J.G.cm k)) ∧ L2.Cls X.K (J.G.cm k) ∧ (∀ n ∈ c.t.fld, NoAttr X.K (J.G.cm k) n) ∧
    (∀ i, cl.ini = some i → Mk X.K (J.G.cm k) (He.fAd c.K (c.t.pl i))) ∧ ∀ m ∈ cl.mts, Meth X.K (J.G.cm k) (c.t.mnm.getD m.1 Str.empty) (He.fAd c.K (c.t.pl m.2)) := by
  obtain ⟨cl, e, hx⟩ := ok.nk h
  have q := ok.at_cl e
  rw [hx] at q
  have q : chOc c.t c.K cl = true := q
  unfold chOc at q
  obtain ⟨q, q8⟩ := and2.mp q
  obtain ⟨q, q7⟩ := and2.mp q
  obtain ⟨q, _⟩ := and2.mp q
  obtain ⟨q, _⟩ := and2.mp q
  obtain ⟨q, q6⟩ := and2.mp q
  obtain ⟨q, q5⟩ := and2.mp q
  obtain ⟨q, q4⟩ := and2.mp q
  obtain ⟨q, q3⟩ := and2.mp q
  obtain ⟨q1, q2⟩ := and2.mp q
  rw [ok.cm e, ok.K]
  refine ⟨cl, e, okNm_mg ok q1, ⟨q2, q3, q4, of_decide_eq_true q5⟩, fun n hn => (show PySem.W.findIn c.K (.ref (He.ga c.K cl.nm)) n = some none from of_decide_eq_true (List.all_eq_true.mp q6 n hn)), fun i hi => ?_, fun m hm => ?_⟩
  · rw [hi] at q7
    obtain ⟨q7, r4⟩ := and2.mp q7
    obtain ⟨q7, r3⟩ := and2.mp q7
    obtain ⟨r1, r2⟩ := and2.mp q7
    exact ⟨r1, of_decide_eq_true r2, r3, r4⟩
  · obtain ⟨r, r3⟩ := and2.mp (List.all_eq_true.mp q8 m hm)
    obtain ⟨r1, r2⟩ := and2.mp r
    exact ⟨of_decide_eq_true r1, r2, r3⟩
theorem ch_ty (ok : XOk c X J) {t : Ty} {e : PySem.Expr} (h : chTy c t e = true) : TyE X J e t ∧ tyOk c.t c.K t = true := by
  have go : ∀ {n : Str} {p : Pos} {T : String} {t : Ty}, tyV2 J.G t = .ty T → tyOk c.t c.K t = true → bootBuiltins n = some (.type T) → n ≠ "__name__" → (n == ("__debug__" : Str)) = false → isGl c.sc n = true → free c.K n = true → TyE X J (.Name n p) t ∧ tyOk c.t c.K t = true := fun {n p T t} h1 h2 h3 h4 h5 h6 h7 =>
    ⟨⟨by rw [h1]; exact pe_bltn (ok.gl h6) (ok.fr h7) h3 (rfl : RelV (.ty T) (.type T)) h4 h5, rfl⟩, h2⟩
  unfold chTy at h
  split at h <;> first | (cases h; done) | skip
  case h_7 =>
    rename_i k n p
    obtain ⟨h, h4⟩ := and2.mp h
    obtain ⟨h, h3⟩ := and2.mp h
    obtain ⟨h1, h2⟩ := and2.mp h
    have hk : k < J.G.nk := by rw [ok.G]; exact of_decide_eq_true h3
    obtain ⟨cl, e, hm, _⟩ := ok.oc hk
    rw [e] at h4
    rw [eq_of_beq h4] at hm
    exact ⟨⟨pe_glob (ok.gl h1) hm rfl (dbg h2).1, rfl⟩, h3⟩
  all_goals
    obtain ⟨h, h3⟩ := and2.mp h
    obtain ⟨h1, h2⟩ := and2.mp h
    have e := eq_of_beq h1
    subst e
    refine go rfl rfl (by decide +kernel) (by decide) (by decide) h2 h3
/-- what chXc tells -/
theorem XOk.xc (ok : XOk c X J) {k : Nat} {cl : ClT} (e : c.t.cls[k]? = some cl) (hx : cl.exc = true) : X.mg cl.nm = some (.ref (J.G.cm k)) ∧ XfC X.K (J.G.cm k) ∧ ∀ n ∈ c.t.fld, PySem.W.findIn X.K (.ref (J.G.cm k)) n = some none := by
  have q := ok.at_cl e
  rw [hx] at q
  have q : chXc c.t c.K cl = true := q
  unfold chXc at q
  obtain ⟨q, q4⟩ := and2.mp q
  obtain ⟨q, q3⟩ := and2.mp q
  obtain ⟨q1, q2⟩ := and2.mp q
  rw [ok.cm e, ok.K]
  exact ⟨okNm_mg ok q1, xfB_ok q2, fun n hn => of_decide_eq_true (List.all_eq_true.mp q3 n hn)⟩
theorem ch_fld (ok : XOk c X J) {f : Nat} {n : Str} {a : PySem.Expr} {x : Ex} {pos : Pos} (hb : notSuper a = true) (h : chFl c f n = true) (ha : JE X J a x) : JE X J (.Attribute a n pos) (.fld x f) := by
  obtain ⟨h1, h2, h3⟩ := ok.fl h
  refine je_fld h2 ok.GK (fun k hk => ?_) (attr_base hb _ _ _) ha
  obtain ⟨cl, _, _, q1, q2, _⟩ := ok.oc hk
  exact ⟨q1, q2 n h3⟩
theorem ch_exf (ok : XOk c X J) {i f : Nat} {n m : Str} {p1 pos : Pos} (h1 : decide (c.hd = some i) = true) (h2 : decide (c.N[i]? = some n) = true) (h3 : isVis c.sc n = true) (h4 : noDbg n = true) (h : chFl c f m = true) : JE X J (.Attribute (.Name n p1) m pos) (.exf i f) := by
  obtain ⟨g1, g2, g3⟩ := ok.fl h
  refine je_exf (ok.hd i (of_decide_eq_true h1)) (fun j hj => ?_) g2 (ok.at h2) (ok.vis h3) (dbg h4).1 (dbg h4).2
  obtain ⟨cl, e, hx⟩ := ok.xk hj
  obtain ⟨_, q1, q2⟩ := ok.xc e hx
  exact ⟨q1, q2 m g3⟩
theorem ch_meth (ok : XOk c X J) {m : Nat} {n : Str} {o : PySem.Expr} {es : List PySem.Expr} {x : Ex} {as : List Ex} {apos pos : Pos} {k : Bool} (h : chMt c m n = true) (hb : notSuper o = true) (hl : (apos.endLine == pos.line) = true) (hp : es.all pl = true) (hn : es.length < 30) (ho : JE X J o x) (ha : JA X J es as) (h0 : es = [] → as = []) :
    JE X J (.Call (.Attribute o n apos) es [] pos) (.meth k m x as) := by
  unfold chMt at h
  obtain ⟨h, h4⟩ := and2.mp h
  obtain ⟨h, h3⟩ := and2.mp h
  obtain ⟨h1, h2⟩ := and2.mp h
  have en := eq_of_beq h2
  have hf : ∀ f, f < J.G.nf → J.G.fm f ≠ n := fun f hf e => by
    rw [ok.G] at hf e
    have hf : f < (if c.t.fld.Nodup then c.t.fld.length else 0) := hf
    have e : c.t.fld.getD f Str.empty = n := e
    have lt : f < c.t.fld.length := by
      split at hf
      · exact hf
      · omega
    have z := List.all_eq_true.mp h3 c.t.fld[f] (List.getElem_mem lt)
    rw [List.getD_eq_getElem?_getD, List.getElem?_eq_getElem lt] at e
    have e : c.t.fld[f] = n := e
    rw [e] at z
    simp at z
  have hc : ∀ k, k < J.G.nk → (J.C.pg.mth k m).isSome = true → MtF X J m n k := fun k hk _ => by
    obtain ⟨cl, e, _, q1, q2, q3, q4⟩ := ok.oc hk
    refine ⟨q1, fun fi hm => ?_⟩
    rw [ok.pg] at hm
    have hm : ((c.t.cls[k]?).bind fun cl => cl.mts.lookup m) = some fi := hm
    rw [e] at hm
    have hm : cl.mts.lookup m = some fi := hm
    have z := List.all_eq_true.mp h4 cl (List.mem_of_getElem? e)
    rw [hm] at z
    obtain ⟨z1, z2⟩ := and2.mp z
    obtain ⟨fd, ps, F, hb⟩ := ok.calls fi (of_decide_eq_true z1) (of_decide_eq_true z2)
    have mem : (m, fi) ∈ cl.mts := by
      have : ∀ (l : List (Nat × Nat)), l.lookup m = some fi → (m, fi) ∈ l := by
        intro l
        induction l with
        | nil => intro h; cases h
        | cons x l ih =>
          intro h
          rw [List.lookup_cons] at h
          split at h
          · rename_i eq
            cases h
            rw [eq_of_beq eq]
            exact List.mem_cons_self
          · exact List.mem_cons_of_mem _ (ih h)
      exact this _ hm
    have mt := q4 _ mem
    rw [en]
    exact ⟨_, _, fd, ps, mt, F, (ok.room h1).mono (by have := of_decide_eq_true z2; omega), hb⟩
  cases es with
  | nil =>
    rw [h0 rfl]
    exact je_meth0 hb hl ok.gd ok.tk hf hc ho
  | cons e es => exact je_meth hb hl hn ok.gd ok.tk hf hc ho hp ha
theorem ch_make (ok : XOk c X J) {k : Nat} {n : Str} {es : List PySem.Expr} {as : List Ex} {kb : Bool} {p1 pos : Pos} (h : chMk c k n = true) (hp : es.all pl = true) (ha : JA X J es as) (h0 : es = [] → as = []) : JE X J (.Call (.Name n p1) es [] pos) (.make kb k as) := by
  unfold chMk at h
  obtain ⟨h, h5⟩ := and2.mp h
  obtain ⟨h, h4⟩ := and2.mp h
  obtain ⟨h, h3⟩ := and2.mp h
  obtain ⟨h1, h2⟩ := and2.mp h
  have hk : k < J.G.nk := by rw [ok.G]; exact of_decide_eq_true h4
  obtain ⟨cl, e, hm, q1, q2, q3, q4⟩ := ok.oc hk
  rw [e] at h5
  obtain ⟨h5, h6⟩ := and2.mp h5
  have en := eq_of_beq h5
  split at h6
  · rename_i fi ei
    obtain ⟨z1, z2⟩ := and2.mp h6
    obtain ⟨fd, ps, F, hb⟩ := ok.calls fi (of_decide_eq_true z1) (of_decide_eq_true z2)
    have hi : J.C.pg.ini k = some fi := by
      rw [ok.pg]
      show ((c.t.cls[k]?).bind (·.ini)) = _
      rw [e]
      exact ei
    have room := (ok.room h1).mono (show 2 * c.t.lvl fi + 2 + 1 ≤ 2 * c.ml + 1 by have := of_decide_eq_true z2; omega)
    rw [en] at hm
    cases es with
    | nil =>
      rw [h0 rfl]
      exact je_make0 hk hi (q3 fi ei) F room ok.gd (ok.gl h2) hm hb ok.tk (dbg h3).1
    | cons x es => exact je_make hk hi (q3 fi ei) F room ok.gd (ok.gl h2) hm hb ok.tk hp ha (dbg h3).1
  · cases h6
theorem ch_mm (ok : XOk c X J) {m : Mm} {n : Str} {o : PySem.Expr} {es : List PySem.Expr} {x : Ex} {as : List Ex} {apos pos : Pos} (h : chMm m es.length n = true) (hb : notSuper o = true) (hl : (apos.endLine == pos.line) = true) (hp : es.all pl = true) (hn : es.length < 30) (ho : JE X J o x) (ha : JA X J es as) (h0 : es = [] → as = []) :
    JE X J (.Call (.Attribute o n apos) es [] pos) (.mm m x as) := by
  match es, m, h with
  | [], .pop, h =>
    have h : (n == ("pop" : Str)) = true := h
    cases eq_of_beq h
    rw [h0 rfl]
    exact je_mm0 mm_pop PySem.F.slot_list_pop PySem.F.type_list_pop hb hl ho
  | [], .reverse, h =>
    have h : (n == ("reverse" : Str)) = true := h
    cases eq_of_beq h
    rw [h0 rfl]
    exact je_mm0 mm_reverse PySem.F.slot_list_reverse PySem.F.type_list_reverse hb hl ho
  | [], .clear, h =>
    have h : (n == ("clear" : Str)) = true := h
    cases eq_of_beq h
    rw [h0 rfl]
    exact je_mm0 mm_clear PySem.F.slot_list_clear PySem.F.type_list_clear hb hl ho
  | [e], .append, h =>
    have h : (n == ("append" : Str)) = true := h
    cases eq_of_beq h
    exact je_mm mm_append PySem.F.slot_list_append PySem.F.type_list_append hb hl hp hn ho ha
  | [e], .extend, h =>
    have h : (n == ("extend" : Str)) = true := h
    cases eq_of_beq h
    exact je_mm mm_extend PySem.F.slot_list_extend PySem.F.type_list_extend hb hl hp hn ho ha
  | [e], .popAt, h =>
    have h : (n == ("pop" : Str)) = true := h
    cases eq_of_beq h
    exact je_mm mm_popAt PySem.F.slot_list_pop PySem.F.type_list_pop hb hl hp hn ho ha
theorem ch_bm (ok : XOk c X J) {m : Bm} {n : Str} {o : PySem.Expr} {es : List PySem.Expr} {x : Ex} {as : List Ex} {apos pos : Pos} {k : Bool} (h : chBm m es.length n = true) (hb : notSuper o = true) (hl : (apos.endLine == pos.line) = true) (hp : es.all pl = true) (hn : es.length < 30) (ho : JE X J o x) (ha : JA X J es as) (hj : JL X J es as) :
    JE X J (.Call (.Attribute o n apos) es [] pos) (.bm k m x as) := by
  match es, m, h with
  | [], .upper, h =>
    have h : (n == ("upper" : Str)) = true := h
    cases eq_of_beq h
    cases hj
    exact je_upper hb hl ho
  | [e], .join, h =>
    have h : (n == ("join" : Str)) = true := h
    cases eq_of_beq h
    exact je_join ok.GK hb hl (and2.mp (show (pl e && [].all pl) = true from hp)).1 ho ha
  | [e], .find, h =>
    have h : (n == ("find" : Str)) = true := h
    cases eq_of_beq h
    exact je_find hb hl (and2.mp (show (pl e && [].all pl) = true from hp)).1 ho ha
  | [e], .split, h =>
    have h : (n == ("split" : Str)) = true := h
    cases eq_of_beq h
    exact je_split hb hl (and2.mp (show (pl e && [].all pl) = true from hp)).1 ho ha
  | [e], .index, h =>
    have h : (n == ("index" : Str)) = true := h
    cases eq_of_beq h
    exact je_index ok.GK hb hl (and2.mp (show (pl e && [].all pl) = true from hp)).1 ho ha
  | [e], .get, h =>
    have h : (n == ("get" : Str)) = true := h
    cases eq_of_beq h
    cases hj with
    | cons _ j1 j2 =>
      cases j2
      exact je_get ok.un hb hl hp ho j1
  | [e1, e2], .get2, h =>
    have h : (n == ("get" : Str)) = true := h
    cases eq_of_beq h
    cases hj with
    | cons _ j1 j2 =>
      cases j2 with
      | cons _ j2 j3 =>
        cases j3
        exact je_get2 ok.un hb hl hp ho j1 j2
end
mutual
theorem chTg_ok {c : Ck} {X : Cx} {J : Jx} (ok : XOk c X J) : ∀ {t : Tg} {e : PySem.Expr}, chTg c t e = true → JG X J e t
  | .v i, e, h => by
    unfold chTg at h
    split at h
    · obtain ⟨h, h3⟩ := and2.mp h
      obtain ⟨h, h2⟩ := and2.mp h
      obtain ⟨h0, h1⟩ := and2.mp h
      refine jg_v (ok.hi h0) (by rw [ok.N]; exact ok.nd) (ok.at h1) (ok.lc h2) ?_
      rw [Bool.or_eq_true] at h3
      rcases h3 with h3 | h3
      · exact .inl (ok.fn h3 _)
      · exact .inr (ok.loc h3)
    · cases h
  | .t ts, e, h => by
    unfold chTg at h
    split at h
    · obtain ⟨h, h4⟩ := and2.mp h
      obtain ⟨h, h3⟩ := and2.mp h
      obtain ⟨h1, h2⟩ := and2.mp h
      exact jg_t ok.GK (ok.calm h1) h2 (of_decide_eq_true h3) (chTgs_ok ok h2 h4)
    · cases h
theorem chTgs_ok {c : Ck} {X : Cx} {J : Jx} (ok : XOk c X J) : ∀ {t : List Tg} {e : List PySem.Expr}, e.all plT = true → chTgs c t e = true → JGs X J e t
  | [], [], _, _ => jgs_nil
  | t :: ts, e :: es, hp, h => by
    unfold chTgs at h
    obtain ⟨h1, h2⟩ := and2.mp h
    obtain ⟨p1, p2⟩ := and2.mp (show (plT e && es.all plT) = true from hp)
    exact jgs_cons p1 (chTg_ok ok h1) (chTgs_ok ok p2 h2)
  | [], _ :: _, _, h => by cases h
  | _ :: _, [], _, h => by cases h
end
end EL

/-! ELk2: the checker is right: expressions, tests, lists. -/
namespace EL
open PySem L2 PySem.Spec PyProof.Rows
def JTW (X : Cx) (J : Jx) (e : PySem.Expr) (t : Tx) : Prop := JT X J e t ∧ (∀ op vs p, e = .BoolOp op vs p → JW X J e t)
theorem jtw {X : Cx} {J : Jx} {e : PySem.Expr} {t : Tx} (h : JT X J e t) (n : ∀ op vs p, e ≠ .BoolOp op vs p) : JTW X J e t := ⟨h, fun op vs p z => absurd z (n op vs p)⟩
theorem jtw_w {X : Cx} {J : Jx} {op : BoolOp} {vs : List PySem.Expr} {p : Pos} {t : Tx} (h : JW X J (.BoolOp op vs p) t) : JTW X J (.BoolOp op vs p) t := ⟨h.pt, fun _ _ _ _ => h⟩
theorem chEs_nil {c : Ck} {as : List Ex} (h : chEs c as [] = true) : as = [] := by
  cases as with
  | nil => rfl
  | cons _ _ => cases h
theorem chEs_pl {c : Ck} : ∀ {as : List Ex} {es : List PySem.Expr}, chEs c as es = true → es.all pl = true ∧ as.length = es.length
  | [], [], _ => ⟨rfl, rfl⟩
  | x :: xs, e :: es, h => by
    unfold chEs at h
    obtain ⟨h, h3⟩ := and2.mp h
    obtain ⟨h1, h2⟩ := and2.mp h
    obtain ⟨h4, h5⟩ := chEs_pl h3
    exact ⟨and2.mpr ⟨h1, h4⟩, by simp [h5]⟩
  | [], _ :: _, h => by cases h
  | _ :: _, [], h => by cases h
/-- the parts of a comprehension -/
def chC (c : Ck) (tg : Tg) (how : Nat) (it : List Ex) (cs : List Tx) (x : Ex) (elt tge iter : PySem.Expr) (ifs : List PySem.Expr) (scope : Scope) : Bool := c.calm && blkC c.N c.sc scope (ownOf c.N tg) && pl iter && chTg (c.blk scope) tg tge && chTs (c.blk scope) cs ifs && chE (c.blk scope) x elt && (match how, iter with
      | 0, _ => (match it with
        | [i] => chE c i iter
        | _ => false)
      | 1, .Call (.Name n _) [a] [] _ => n == "range" && isGl c.sc n && free c.K n && pl a && chEs c it [a]
      | 2, .Call (.Name n _) [a, b] [] _ => n == "range" && isGl c.sc n && free c.K n && pl a && pl b && chEs c it [a, b]
      | 3, .Call (.Name n _) [a] [] _ => isTup tge && n == "enumerate" && isGl c.sc n && free c.K n && pl a && chEs c it [a]
      | 4, .Call (.Name n _) [a, b] [] _ => isTup tge && n == "zip" && isGl c.sc n && free c.K n && pl a && pl b && chEs c it [a, b]
      | _, _ => false)
theorem chC_ok {tg : Tg} {how : Nat} {it : List Ex} {cs : List Tx} {x : Ex} {c : Ck} {X : Cx} {J : Jx} {elt tge iter : PySem.Expr} {ifs : List PySem.Expr} {scope : Scope} (ok : XOk c X J) (h : chC c tg how it cs x elt tge iter ifs scope = true)
    (hes : ∀ {es : List PySem.Expr}, chEs c it es = true → JA X J es it) (h0 : ∀ i, it = [i] → ∀ {e}, chE c i e = true → JE X J e i) (hcs : ∀ {c : Ck} {X : Cx} {J : Jx} {es : List PySem.Expr}, XOk c X J → chTs c cs es = true → JTs X J es cs)
    (hx : ∀ {c : Ck} {X : Cx} {J : Jx} {e : PySem.Expr}, XOk c X J → chE c x e = true → JE X J e x) : c.calm = true ∧ LcOk X J elt tge iter ifs scope tg how it cs x := by
  obtain ⟨h, h7⟩ := and2.mp h
  obtain ⟨h, h6⟩ := and2.mp h
  obtain ⟨h, h5⟩ := and2.mp h
  obtain ⟨h, h4⟩ := and2.mp h
  obtain ⟨h, h3⟩ := and2.mp h
  obtain ⟨h1, h2⟩ := and2.mp h
  refine ⟨h1, ⟨?_, ⟨ownOf c.N tg, ?_, ?_⟩, fun s H C cl fp pr => chTg_ok (xok_blk ok h2 s H C cl fp pr) h4, fun s H C cl fp pr => hcs (xok_blk ok h2 s H C cl fp pr) h5, fun s H C cl fp pr => hx (xok_blk ok h2 s H C cl fp pr) h6, h3⟩⟩
  · split at h7
    · split at h7
      · exact ji_0 ok.GK (h0 _ rfl h7)
      · cases h7
    · obtain ⟨h7, g5⟩ := and2.mp h7
      obtain ⟨h7, g4⟩ := and2.mp h7
      obtain ⟨h7, g3⟩ := and2.mp h7
      obtain ⟨g1, g2⟩ := and2.mp h7
      cases eq_of_beq g1
      exact ji_1 (ok.gl g2) (ok.fr g3) g4 (hes g5)
    · obtain ⟨h7, g6⟩ := and2.mp h7
      obtain ⟨h7, g5⟩ := and2.mp h7
      obtain ⟨h7, g4⟩ := and2.mp h7
      obtain ⟨h7, g3⟩ := and2.mp h7
      obtain ⟨g1, g2⟩ := and2.mp h7
      cases eq_of_beq g1
      exact ji_2 (ok.gl g2) (ok.fr g3) g4 g5 (hes g6)
    · obtain ⟨h7, g5⟩ := and2.mp h7
      obtain ⟨h7, g4⟩ := and2.mp h7
      obtain ⟨h7, g3⟩ := and2.mp h7
      obtain ⟨h7, g2⟩ := and2.mp h7
      obtain ⟨g0, g1⟩ := and2.mp h7
      cases eq_of_beq g1
      cases tge <;> first | (cases g0; done) | exact ji_3 ok.GK (ok.gl g2) (ok.fr g3) g4 (hes g5)
    · obtain ⟨h7, g6⟩ := and2.mp h7
      obtain ⟨h7, g5⟩ := and2.mp h7
      obtain ⟨h7, g4⟩ := and2.mp h7
      obtain ⟨h7, g3⟩ := and2.mp h7
      obtain ⟨h7, g2⟩ := and2.mp h7
      obtain ⟨g0, g1⟩ := and2.mp h7
      cases eq_of_beq g1
      cases tge <;> first | (cases g0; done) | exact ji_4 ok.GK (ok.gl g2) (ok.fr g3) g4 g5 (hes g6)
    · cases h7
  · have := blkOk_by h2
    rw [ok.N, ok.sc]
    exact this
  · unfold ownOf
    rw [List.map_map]
    exact List.map_id _
theorem ch_plain {c : Ck} {X : Cx} {J : Jx} {x : Ex} {e : PySem.Expr} (hn : isCmp x = false) (hx : chE c x e = true → JE X J e x) (h : chT c (.b x) e = true) : JTW X J e (.b x) := by
  unfold chT at h
  obtain ⟨h1, h2⟩ := and2.mp h
  rw [Bool.or_eq_true] at h2
  rcases h2 with h2 | h2
  · exact jtw (jt_bp (hx h1) h2) fun op vs p z => by subst z; cases h2
  · rw [hn] at h2
    cases h2
mutual
theorem chE_ok : ∀ (x : Ex) {c : Ck} {X : Cx} {J : Jx} {e : PySem.Expr}, XOk c X J → chE c x e = true → JE X J e x
  | .var i, c, X, J, e, ok, h => by
    unfold chE at h
    split at h
    · obtain ⟨h, h3⟩ := and2.mp h
      obtain ⟨h1, h2⟩ := and2.mp h
      exact je_var (ok.at h1) (ok.vis h2) (dbg h3).1 (dbg h3).2
    · cases h
  | .non, c, X, J, e, ok, h => by
    unfold chE at h
    split at h
    · exact je_non
    · cases h
  | .bl b, c, X, J, e, ok, h => by
    unfold chE at h
    split at h
    · cases eq_of_beq h
      exact je_bl
    · cases h
  | .int i, c, X, J, e, ok, h => by
    unfold chE at h
    split at h
    · cases of_decide_eq_true h
      exact je_int
    · cases h
  | .str x, c, X, J, e, ok, h => by
    unfold chE at h
    split at h
    · cases of_decide_eq_true h
      exact je_str
    · cases h
  | .gl g, c, X, J, e, ok, h => by
    unfold chE at h
    split at h
    · exact ch_gl ok h
    · cases h
  | .bin k o x y, c, X, J, e, ok, h => by
    unfold chE at h
    split at h
    · obtain ⟨h, h3⟩ := and2.mp h
      obtain ⟨h1, h2⟩ := and2.mp h
      exact ch_bin ok h1 (chE_ok x ok h2) (chE_ok y ok h3)
    · cases h
  | .neg x, c, X, J, e, ok, h => by
    unfold chE at h
    split at h
    · exact je_neg (chE_ok x ok h)
    · cases h
  | .cmp o x y, c, X, J, e, ok, h => by
    unfold chE at h
    split at h
    · obtain ⟨h, h4⟩ := and2.mp h
      obtain ⟨h, h3⟩ := and2.mp h
      obtain ⟨h1, h2⟩ := and2.mp h
      exact je_cmp (ch_cop ok h1) (chE_ok x ok h3) (chE_ok y ok h4) (in_pl h2 _)
    · cases h
  | .chain o o' x y z, c, X, J, e, ok, h => by
    unfold chE at h
    split at h
    · obtain ⟨h, h6⟩ := and2.mp h
      obtain ⟨h, h5⟩ := and2.mp h
      obtain ⟨h, h4⟩ := and2.mp h
      obtain ⟨h, h3⟩ := and2.mp h
      obtain ⟨h1, h2⟩ := and2.mp h
      exact je_chain (ch_cop ok h1) (ch_cop ok h2) (chE_ok x ok h4) (chE_ok y ok h5) (chE_ok z ok h6) (by simpa using h3)
    · cases h
  | .isN x, c, X, J, e, ok, h => by
    unfold chE at h
    split at h
    · exact je_isN (chE_ok x ok h)
    · cases h
  | .notN x, c, X, J, e, ok, h => by
    unfold chE at h
    split at h
    · exact je_notN (chE_ok x ok h)
    · cases h
  | .isB k x, c, X, J, e, ok, h => by
    unfold chE at h
    split at h
    · obtain ⟨h1, h2⟩ := and2.mp h
      cases eq_of_beq h1
      exact je_isB (chE_ok x ok h2)
    · cases h
  | .notB k x, c, X, J, e, ok, h => by
    unfold chE at h
    split at h
    · obtain ⟨h1, h2⟩ := and2.mp h
      cases eq_of_beq h1
      exact je_notB (chE_ok x ok h2)
    · cases h
  | .rev k x, c, X, J, e, ok, h => by
    unfold chE at h
    split at h
    · exact je_rev ok.GK (chE_ok x ok h)
    · cases h
  | .and x y, c, X, J, e, ok, h => by
    unfold chE at h
    split at h
    · obtain ⟨h1, h2⟩ := and2.mp h
      exact je_and (chE_ok x ok h1) (je_and1 (chE_ok y ok h2))
    · obtain ⟨h1, h2⟩ := and2.mp h
      exact je_and (chE_ok x ok h1) (chE_ok y ok h2)
    · cases h
  | .or x y, c, X, J, e, ok, h => by
    unfold chE at h
    split at h
    · obtain ⟨h1, h2⟩ := and2.mp h
      exact je_or (chE_ok x ok h1) (je_or1 (chE_ok y ok h2))
    · obtain ⟨h1, h2⟩ := and2.mp h
      exact je_or (chE_ok x ok h1) (chE_ok y ok h2)
    · cases h
  | .not x, c, X, J, e, ok, h => by
    unfold chE at h
    split at h
    · exact je_not (chE_ok x ok h)
    · cases h
  | .ite t x y, c, X, J, e, ok, h => by
    unfold chE at h
    split at h
    · obtain ⟨h, h3⟩ := and2.mp h
      obtain ⟨h1, h2⟩ := and2.mp h
      exact je_ite (chT_ok t ok h1).1 (chE_ok x ok h2) (chE_ok y ok h3)
    · cases h
  | .call k f as, c, X, J, e, ok, h => by
    unfold chE at h
    split at h
    · obtain ⟨h, h3⟩ := and2.mp h
      obtain ⟨h1, h2⟩ := and2.mp h
      exact ch_call ok h1 h2 (chEsL_ok as ok h3).ja fun z => by subst z; exact chEs_nil h3
    · cases h
  | .tup as, c, X, J, e, ok, h => by
    unfold chE at h
    split at h
    · obtain ⟨h1, h2⟩ := and2.mp h
      exact je_tup (of_decide_eq_true h1) (chEsL_ok as ok h2).ja
    · cases h
  | .lst k as, c, X, J, e, ok, h => by
    unfold chE at h
    split at h
    · obtain ⟨h1, h2⟩ := and2.mp h
      exact je_lst (of_decide_eq_true h1) (chEsL_ok as ok h2).ja
    · cases h
  | .dic k ks vs, c, X, J, e, ok, h => by
    unfold chE at h
    split at h
    · rename_i keys values _
      obtain ⟨h0, h9⟩ := and2.mp h
      have hv := List.isEmpty_iff.mp h0
      subst hv
      clear h h0
      cases keys with
      | nil =>
        obtain ⟨h1, h2⟩ := and2.mp h9
        have e1 := List.isEmpty_iff.mp h1
        have e2 := List.isEmpty_iff.mp h2
        subst e1 e2
        exact je_dic0
      | cons k' r =>
        obtain ⟨h1, h2⟩ := and2.mp h9
        exact je_dic (chPs_ok ks ok h2) (by intro z; cases z) (of_decide_eq_true h1)
    · cases h
  | .idx x i, c, X, J, e, ok, h => by
    unfold chE at h
    split at h
    · obtain ⟨h, h3⟩ := and2.mp h
      obtain ⟨h1, h2⟩ := and2.mp h
      exact je_idx ok.GK ok.un h1 (chE_ok x ok h2) (chE_ok i ok h3)
    · cases h
  | .slc k x lo hi, c, X, J, e, ok, h => by
    unfold chE at h
    split at h
    · obtain ⟨h, h3⟩ := and2.mp h
      obtain ⟨h1, h2⟩ := and2.mp h
      exact je_slc ok.GK (chE_ok x ok h1) (chO_ok lo ok h2) (chO_ok hi ok h3)
    · cases h
  | .bf k f as, c, X, J, e, ok, h => by
    unfold chE at h
    split at h
    · obtain ⟨h, h5⟩ := and2.mp h
      obtain ⟨h, h4⟩ := and2.mp h
      obtain ⟨h, h3⟩ := and2.mp h
      obtain ⟨h1, h2⟩ := and2.mp h
      exact ch_bf ok h1 h2 h3 h4 (chEsL_ok as ok h5).ja
    · cases h
  | .bm k m x as, c, X, J, e, ok, h => by
    unfold chE at h
    split at h
    · obtain ⟨h, h7⟩ := and2.mp h
      obtain ⟨h, h6⟩ := and2.mp h
      obtain ⟨h, h5⟩ := and2.mp h
      obtain ⟨h, h4⟩ := and2.mp h
      obtain ⟨h, h3⟩ := and2.mp h
      obtain ⟨h1, h2⟩ := and2.mp h
      exact ch_bm ok h1 h2 h3 h4 (of_decide_eq_true h5) (chE_ok x ok h6) (chEsL_ok as ok h7).ja (chEsL_ok as ok h7)
    · cases h
  | .fst as, c, X, J, e, ok, h => by
    unfold chE at h
    split at h
    · obtain ⟨g1, g2⟩ := and2.mp h
      obtain ⟨ts, h1, h2⟩ := fs_all g1 (chEsL_ok as ok g2)
      refine PE.imp (pe_joined h1) fun σ H Q ⟨F, κ, l, S, s, p⟩ => ?_
      exact h2 [] F κ l S σ H Q s p
    · cases h
  | .mm m x as, c, X, J, e, ok, h => by
    unfold chE at h
    split at h
    · obtain ⟨h, h7⟩ := and2.mp h
      obtain ⟨h, h6⟩ := and2.mp h
      obtain ⟨h, h5⟩ := and2.mp h
      obtain ⟨h, h4⟩ := and2.mp h
      obtain ⟨h, h3⟩ := and2.mp h
      obtain ⟨h1, h2⟩ := and2.mp h
      exact ch_mm ok h1 h2 h3 h4 (of_decide_eq_true h5) (chE_ok x ok h6) (chEsL_ok as ok h7).ja fun z => by subst z; exact chEs_nil h7
    · cases h
  | .isi x ts, c, X, J, e, ok, h => by
    unfold chE at h
    split at h
    · obtain ⟨h, h6⟩ := and2.mp h
      obtain ⟨h, h5⟩ := and2.mp h
      obtain ⟨h, h4⟩ := and2.mp h
      obtain ⟨h, h3⟩ := and2.mp h
      obtain ⟨h1, h2⟩ := and2.mp h
      cases eq_of_beq h1
      split at h6
      · obtain ⟨t1, b1⟩ := ch_ty ok h6
        exact je_isi1 ok.GK ok.own (ok.kit _ b1) (ok.gl h2) (ok.fr h3) h4 t1 (chE_ok x ok h5)
      · split at h6
        · obtain ⟨h7, h8⟩ := and2.mp h6
          obtain ⟨t1, b1⟩ := ch_ty ok h7
          obtain ⟨t2, b2⟩ := ch_ty ok h8
          exact je_isi ok.GK ok.own (ok.kit _ b1) (ok.kit _ b2) (ok.gl h2) (ok.fr h3) h4 t1 t2 (chE_ok x ok h5)
        · cases h6
      · cases h6
    · cases h
  | .comp k tg how it cs x, c, X, J, e, ok, h => by
    unfold chE at h
    split at h
    · obtain ⟨h1, hL⟩ := chC_ok ok h (fun h => (chEsL_ok it ok h).ja) (fun i e => by subst e; exact chE_ok i ok) (chTs_ok cs) (chE_ok x)
      exact je_comp (ok.hi h1) (ok.calm h1) (by rw [ok.N]; exact ok.nd) hL
    · cases h
  | .meth _ m x as, c, X, J, e, ok, h => by
    unfold chE at h
    split at h
    · obtain ⟨h, h7⟩ := and2.mp h
      obtain ⟨h, h6⟩ := and2.mp h
      obtain ⟨h, h5⟩ := and2.mp h
      obtain ⟨h, h4⟩ := and2.mp h
      obtain ⟨h, h3⟩ := and2.mp h
      obtain ⟨h1, h2⟩ := and2.mp h
      exact ch_meth ok h1 h2 h3 h4 (of_decide_eq_true h5) (chE_ok x ok h6) (chEsL_ok as ok h7).ja fun z => by subst z; exact chEs_nil h7
    · cases h
  | .make _ _ as, c, X, J, e, ok, h => by
    unfold chE at h
    split at h
    · obtain ⟨h, h3⟩ := and2.mp h
      obtain ⟨h1, h2⟩ := and2.mp h
      exact ch_make ok h1 h2 (chEsL_ok as ok h3).ja fun z => by subst z; exact chEs_nil h3
    · cases h
  | .dicT _, c, X, J, e, ok, h => by cases h
  | .fld x _, c, X, J, e, ok, h => by
    unfold chE at h
    split at h
    · obtain ⟨h, h3⟩ := and2.mp h
      obtain ⟨h1, h2⟩ := and2.mp h
      exact ch_fld ok h1 h2 (chE_ok x ok h3)
    · cases h
  | .exf _ _, c, X, J, e, ok, h => by
    unfold chE at h
    split at h
    · obtain ⟨h, h5⟩ := and2.mp h
      obtain ⟨h, h4⟩ := and2.mp h
      obtain ⟨h, h3⟩ := and2.mp h
      obtain ⟨h1, h2⟩ := and2.mp h
      exact ch_exf ok h1 h2 h3 h4 h5
    · cases h
theorem chT_ok : ∀ (t : Tx) {c : Ck} {X : Cx} {J : Jx} {e : PySem.Expr}, XOk c X J → chT c t e = true → JTW X J e t
  | .v x, c, X, J, e, ok, h => by
    unfold chT at h
    obtain ⟨h1, h2⟩ := and2.mp h
    exact jtw (jt_vp ok.GK (chE_ok x ok h2) h1) fun op vs p z => by subst z; cases h1
  | .b (.cmp o x y), c, X, J, e, ok, h => by
    unfold chT at h
    obtain ⟨h0, _⟩ := and2.mp h
    unfold chE at h0
    split at h0
    · obtain ⟨h, h4⟩ := and2.mp h0
      obtain ⟨h, h3⟩ := and2.mp h
      obtain ⟨h1, h2⟩ := and2.mp h
      exact jtw (jt_cmp (ch_cop ok h1) (chE_ok x ok h3) (chE_ok y ok h4) (in_pl h2 _)) fun op vs p z => by cases z
    · cases h0
  | .b (.chain o o' x y z), c, X, J, e, ok, h => by
    unfold chT at h
    obtain ⟨h0, _⟩ := and2.mp h
    unfold chE at h0
    split at h0
    · obtain ⟨h, h6⟩ := and2.mp h0
      obtain ⟨h, h5⟩ := and2.mp h
      obtain ⟨h, h4⟩ := and2.mp h
      obtain ⟨h, h3⟩ := and2.mp h
      obtain ⟨h1, h2⟩ := and2.mp h
      exact jtw (jt_chain (ch_cop ok h1) (ch_cop ok h2) (chE_ok x ok h4) (chE_ok y ok h5) (chE_ok z ok h6) (by simpa using h3)) fun op vs p z => by cases z
    · cases h0
  | .b (.isN x), c, X, J, e, ok, h => by
    unfold chT at h
    obtain ⟨h0, _⟩ := and2.mp h
    unfold chE at h0
    split at h0
    · exact jtw (jt_isN (chE_ok x ok h0)) fun op vs p z => by cases z
    · cases h0
  | .b (.notN x), c, X, J, e, ok, h => by
    unfold chT at h
    obtain ⟨h0, _⟩ := and2.mp h
    unfold chE at h0
    split at h0
    · exact jtw (jt_notN (chE_ok x ok h0)) fun op vs p z => by cases z
    · cases h0
  | .b (.isB k x), c, X, J, e, ok, h => by
    unfold chT at h
    obtain ⟨h0, _⟩ := and2.mp h
    unfold chE at h0
    split at h0
    · obtain ⟨h1, h2⟩ := and2.mp h0
      cases eq_of_beq h1
      exact jtw (jt_isB (chE_ok x ok h2)) fun op vs p z => by cases z
    · cases h0
  | .b (.notB k x), c, X, J, e, ok, h => by
    unfold chT at h
    obtain ⟨h0, _⟩ := and2.mp h
    unfold chE at h0
    split at h0
    · obtain ⟨h1, h2⟩ := and2.mp h0
      cases eq_of_beq h1
      exact jtw (jt_notB (chE_ok x ok h2)) fun op vs p z => by cases z
    · cases h0
  | .b (.rev k x), c, X, J, e, ok, h => ch_plain rfl (chE_ok (.rev k x) ok) h
  | .b (.var i), c, X, J, e, ok, h => ch_plain rfl (chE_ok (.var i) ok) h
  | .b (.non), c, X, J, e, ok, h => ch_plain rfl (chE_ok (.non) ok) h
  | .b (.bl b), c, X, J, e, ok, h => ch_plain rfl (chE_ok (.bl b) ok) h
  | .b (.int i), c, X, J, e, ok, h => ch_plain rfl (chE_ok (.int i) ok) h
  | .b (.str x), c, X, J, e, ok, h => ch_plain rfl (chE_ok (.str x) ok) h
  | .b (.gl g), c, X, J, e, ok, h => ch_plain rfl (chE_ok (.gl g) ok) h
  | .b (.bin k o x y), c, X, J, e, ok, h => ch_plain rfl (chE_ok (.bin k o x y) ok) h
  | .b (.neg x), c, X, J, e, ok, h => ch_plain rfl (chE_ok (.neg x) ok) h
  | .b (.and x y), c, X, J, e, ok, h => ch_plain rfl (chE_ok (.and x y) ok) h
  | .b (.or x y), c, X, J, e, ok, h => ch_plain rfl (chE_ok (.or x y) ok) h
  | .b (.not x), c, X, J, e, ok, h => ch_plain rfl (chE_ok (.not x) ok) h
  | .b (.ite t x y), c, X, J, e, ok, h => ch_plain rfl (chE_ok (.ite t x y) ok) h
  | .b (.call k f as), c, X, J, e, ok, h => ch_plain rfl (chE_ok (.call k f as) ok) h
  | .b (.meth k m o as), c, X, J, e, ok, h => ch_plain rfl (chE_ok (.meth k m o as) ok) h
  | .b (.make k m as), c, X, J, e, ok, h => ch_plain rfl (chE_ok (.make k m as) ok) h
  | .b (.tup as), c, X, J, e, ok, h => ch_plain rfl (chE_ok (.tup as) ok) h
  | .b (.lst k as), c, X, J, e, ok, h => ch_plain rfl (chE_ok (.lst k as) ok) h
  | .b (.dic k ks vs), c, X, J, e, ok, h => ch_plain rfl (chE_ok (.dic k ks vs) ok) h
  | .b (.dicT k), c, X, J, e, ok, h => ch_plain rfl (chE_ok (.dicT k) ok) h
  | .b (.idx x i), c, X, J, e, ok, h => ch_plain rfl (chE_ok (.idx x i) ok) h
  | .b (.slc k x lo hi), c, X, J, e, ok, h => ch_plain rfl (chE_ok (.slc k x lo hi) ok) h
  | .b (.fld x f), c, X, J, e, ok, h => ch_plain rfl (chE_ok (.fld x f) ok) h
  | .b (.exf i f), c, X, J, e, ok, h => ch_plain rfl (chE_ok (.exf i f) ok) h
  | .b (.bf k f as), c, X, J, e, ok, h => ch_plain rfl (chE_ok (.bf k f as) ok) h
  | .b (.bm k m x as), c, X, J, e, ok, h => ch_plain rfl (chE_ok (.bm k m x as) ok) h
  | .b (.mm m x as), c, X, J, e, ok, h => ch_plain rfl (chE_ok (.mm m x as) ok) h
  | .b (.isi x ts), c, X, J, e, ok, h => ch_plain rfl (chE_ok (.isi x ts) ok) h
  | .b (.fst as), c, X, J, e, ok, h => ch_plain rfl (chE_ok (.fst as) ok) h
  | .b (.comp k tg how it cs x), c, X, J, e, ok, h => ch_plain rfl (chE_ok (.comp k tg how it cs x) ok) h
  | .not x, c, X, J, e, ok, h => by
    unfold chT at h
    split at h
    · exact jtw (jt_not (chT_ok x ok h).1) fun op vs p z => by cases z
    · cases h
  | .and x y, c, X, J, e, ok, h => by
    unfold chT at h
    split at h
    · obtain ⟨h1, h2⟩ := and2.mp h
      exact jtw_w (jw_and (chT_ok x ok h1).1 (pw_and1 (chT_ok y ok h2).1))
    · obtain ⟨h1, h2⟩ := and2.mp h
      exact jtw_w (jw_and (chT_ok x ok h1).1 ((chT_ok y ok h2).2 _ _ _ rfl))
    · cases h
  | .or x y, c, X, J, e, ok, h => by
    unfold chT at h
    split at h
    · obtain ⟨h1, h2⟩ := and2.mp h
      exact jtw_w (jw_or (chT_ok x ok h1).1 (pw_or1 (chT_ok y ok h2).1))
    · obtain ⟨h1, h2⟩ := and2.mp h
      exact jtw_w (jw_or (chT_ok x ok h1).1 ((chT_ok y ok h2).2 _ _ _ rfl))
    · cases h
theorem chEsL_ok : ∀ (xs : List Ex) {c : Ck} {X : Cx} {J : Jx} {es : List PySem.Expr}, XOk c X J → chEs c xs es = true → JL X J es xs
  | [], c, X, J, es, ok, h => by
    cases es with
    | nil => exact .nil
    | cons _ _ => cases h
  | x :: xs, c, X, J, es, ok, h => by
    cases es with
    | nil => cases h
    | cons e es =>
      unfold chEs at h
      obtain ⟨h, h3⟩ := and2.mp h
      obtain ⟨h1, h2⟩ := and2.mp h
      exact .cons h1 (chE_ok x ok h2) (chEsL_ok xs ok h3)
theorem chO_ok : ∀ (x : Option Ex) {c : Ck} {X : Cx} {J : Jx} {e : Option PySem.Expr}, XOk c X J → chO c x e = true → JO X J e x
  | none, c, X, J, e, ok, h => by
    cases e with
    | none => exact jo_none
    | some _ => cases h
  | some x, c, X, J, e, ok, h => by
    cases e with
    | none => cases h
    | some e =>
      unfold chO at h
      exact jo_some (chE_ok x ok h)
theorem chTs_ok : ∀ (ts : List Tx) {c : Ck} {X : Cx} {J : Jx} {es : List PySem.Expr}, XOk c X J → chTs c ts es = true → JTs X J es ts
  | [], c, X, J, es, ok, h => by
    cases es with
    | nil => exact jts_nil
    | cons _ _ => cases h
  | [t], c, X, J, es, ok, h => by
    cases es with
    | nil => cases h
    | cons e es =>
      cases es with
      | nil =>
        unfold chTs at h
        exact jts_one (chT_ok t ok h).1
      | cons _ _ => cases h
  | _ :: _ :: _, c, X, J, es, ok, h => by cases h
theorem chPs_ok : ∀ (xs : List Ex) {c : Ck} {X : Cx} {J : Jx} {ks : List (Option PySem.Expr)} {vs : List PySem.Expr}, XOk c X J → chPs c xs ks vs = true → JPs X J ks vs xs
  | [], c, X, J, ks, vs, ok, h => by
    match ks, vs, h with
    | [], [], _ => exact .nil
    | [], _ :: _, h => cases h
    | _ :: _, [], h => cases h
    | _ :: _, _ :: _, h => cases h
  | [_], c, X, J, ks, vs, ok, h => by
    cases ks <;> cases vs <;> cases h
  | x :: y :: r, c, X, J, ks, vs, ok, h => by
    match ks, vs, h with
    | some k :: ks, v :: vs, h =>
      unfold chPs at h
      obtain ⟨h, h3⟩ := and2.mp h
      obtain ⟨h1, h2⟩ := and2.mp h
      exact .cons (fun pr => chE_ok x (xok_gp ok pr) h1) (fun pr => chE_ok y (xok_gp ok pr) h2) (chPs_ok r ok h3)
    | none :: ks, v :: vs, h => cases h
    | [], [], h => cases h
    | [], _ :: _, h => cases h
    | none :: _, [], h => cases h
    | some _ :: _, [], h => cases h
end
theorem chEs_ok (xs : List Ex) {c : Ck} {X : Cx} {J : Jx} {es : List PySem.Expr} (ok : XOk c X J) (h : chEs c xs es = true) : JA X J es xs := (chEsL_ok xs ok h).ja
end EL

/-! ELl2: the checker: statements. -/
namespace EL
open PySem L2 PySem.Spec PyProof.Rows
def chI (c : Ck) (how : Nat) (it : List Ex) (tge iter : PySem.Expr) : Bool := match how, iter with
  | 0, _ => (match it with
    | [i] => chE c i iter
    | _ => false)
  | 1, .Call (.Name n _) [a] [] _ => n == "range" && isGl c.sc n && free c.K n && pl a && chEs c it [a]
  | 2, .Call (.Name n _) [a, b] [] _ => n == "range" && isGl c.sc n && free c.K n && pl a && pl b && chEs c it [a, b]
  | 3, .Call (.Name n _) [a] [] _ => isTup tge && n == "enumerate" && isGl c.sc n && free c.K n && pl a && chEs c it [a]
  | 4, .Call (.Name n _) [a, b] [] _ => isTup tge && n == "zip" && isGl c.sc n && free c.K n && pl a && pl b && chEs c it [a, b]
  | _, _ => false
theorem chI_ok {c : Ck} {X : Cx} {J : Jx} {how : Nat} {it : List Ex} {iter tge : PySem.Expr} (ok : XOk c X J) (h7 : chI c how it tge iter = true) : JI X J tge iter how it := by
  unfold chI at h7
  split at h7
  · split at h7
    · exact ji_0 ok.GK (chE_ok _ ok h7)
    · cases h7
  · obtain ⟨h7, g5⟩ := and2.mp h7
    obtain ⟨h7, g4⟩ := and2.mp h7
    obtain ⟨h7, g3⟩ := and2.mp h7
    obtain ⟨g1, g2⟩ := and2.mp h7
    cases eq_of_beq g1
    exact ji_1 (ok.gl g2) (ok.fr g3) g4 (chEs_ok it ok g5)
  · obtain ⟨h7, g6⟩ := and2.mp h7
    obtain ⟨h7, g5⟩ := and2.mp h7
    obtain ⟨h7, g4⟩ := and2.mp h7
    obtain ⟨h7, g3⟩ := and2.mp h7
    obtain ⟨g1, g2⟩ := and2.mp h7
    cases eq_of_beq g1
    exact ji_2 (ok.gl g2) (ok.fr g3) g4 g5 (chEs_ok it ok g6)
  · obtain ⟨h7, g5⟩ := and2.mp h7
    obtain ⟨h7, g4⟩ := and2.mp h7
    obtain ⟨h7, g3⟩ := and2.mp h7
    obtain ⟨h7, g2⟩ := and2.mp h7
    obtain ⟨g0, g1⟩ := and2.mp h7
    cases eq_of_beq g1
    cases tge <;> first | (cases g0; done) | exact ji_3 ok.GK (ok.gl g2) (ok.fr g3) g4 (chEs_ok it ok g5)
  · obtain ⟨h7, g6⟩ := and2.mp h7
    obtain ⟨h7, g5⟩ := and2.mp h7
    obtain ⟨h7, g4⟩ := and2.mp h7
    obtain ⟨h7, g3⟩ := and2.mp h7
    obtain ⟨h7, g2⟩ := and2.mp h7
    obtain ⟨g0, g1⟩ := and2.mp h7
    cases eq_of_beq g1
    cases tge <;> first | (cases g0; done) | exact ji_4 ok.GK (ok.gl g2) (ok.fr g3) g4 g5 (chEs_ok it ok g6)
  · cases h7
/-- a comprehension that is told to a name as any value is -/
def swF (sc : Scope) : PySem.Expr → PySem.Expr → Bool
  | .Name y py, .ListComp _ _ scope p => !(sc.names.lookup y == some .local) || !(py.line == p.line) || (scope.names.any fun (n, k) => n == y && (k == .local || k == .cell))
  | .Tuple _ _ _, .ListComp _ _ _ _ => true
  | _, _ => false
theorem sw_false {tge e : PySem.Expr} {k : Nat} {env : Env} (h : swF env.scope tge e = true) : swapsWith e (some tge) k env = pure false := by
  unfold swF at h
  split at h
  · rename_i y py elt gs scope p
    have ky : env.kindOf y = env.scope.names.lookup y := rfl
    unfold swapsWith
    simp only [ky, Expr.pos]
    have q : (env.blockKind == .function && env.scope.names.lookup y == some .local && py.line == p.line && !(scope.names.any fun (n, k) => n == y && (k == .local || k == .cell))) = false := by
      cases a : env.scope.names.lookup y == some .local <;> cases b : py.line == p.line <;> cases d : (scope.names.any fun (n, k) => n == y && (k == .local || k == .cell)) <;> simp_all
    rw [q]
  · rfl
  · cases h
def chAsg (c : Ck) (tg : Tg) (x : Ex) (tge e : PySem.Expr) : Bool := plT tge && (noLc e || swF c.sc tge e) && !(isTup tge && isTup e) && chE c x e && chTg c tg tge
def chAsgLc (c : Ck) (tg : Tg) (x : Ex) (tge e : PySem.Expr) : Bool := match tg, x, tge, e with
  | .v i, .comp _ tg' how it cs x', .Name y py, .ListComp elt [⟨tge', iter, ifs, 0⟩] scope p => decide (c.N[i]? = some y) && isLoc c.sc y && (py.line == p.line) && !(scope.names.any fun (n, k) => n == y && (k == .local || k == .cell)) && chC c tg' how it cs x' elt tge' iter ifs scope
  | _, _, _, _ => false
def chPar (c : Ck) (is : List Nat) (xs : List Ex) (ts vs : List PySem.Expr) : Bool := match is, ts, vs with
  | [i, j], [.Name x px, .Name y py], [a, b] => c.calm && decide (c.N[i]? = some x) && decide (c.N[j]? = some y) && decide (i ≠ j) && isLoc c.sc x && isLoc c.sc y && !(x == y) && (py.line == px.line) && pl a && pl b && !([a, b].all (foldedForSure 8)) && !([a, b].all (constantsAlone 8)) && chEs c xs [a, b]
  | [i, j, m], [.Name x px, .Name y py, .Name z pz], [a, b, d] => c.calm && decide (c.N[i]? = some x) && decide (c.N[j]? = some y) && decide (c.N[m]? = some z) && decide (i ≠ j) && decide (i ≠ m) && decide (j ≠ m) && isLoc c.sc x && isLoc c.sc y && isLoc c.sc z && !(x == y) && !(x == z) && !(y == z) && (py.line == px.line) && (pz.line == px.line) && pl a && pl b && pl d && !([a, b, d].all (foldedForSure 8)) && !([a, b, d].all (constantsAlone 8)) && chEs c xs [a, b, d]
  | _, _, _ => false
def chAug (c : Ck) (i : Nat) (o : Op) (n : Str) (op : Operator) : Bool := c.calm && decide (c.N[i]? = some n) && isLC c.sc n && (c.top || isLoc c.sc n) && (match o, op with
  | .add, .Add => true
  | .sub, .Sub => true
  | _, _ => false)
def chRaise (c : Ck) (k : Nat) (n : Str) : Bool := c.calm && decide (1 ≤ c.ml) && isGl c.sc n && noDbg n && (match c.t.cls[k]? with
  | some cl => cl.exc && cl.nm == n && !cl.ifs.isEmpty
  | none => false)
/-- a clause's head -/
def chNm (c : Ck) : Option Str → Option Nat → Bool
  | none, none => true
  | some n, some i => decide (c.N[i]? = some n) && isLoc c.sc n
  | _, _ => false
def chXn (c : Ck) (k : Nat) (n : Str) : Bool := isGl c.sc n && noDbg n && (match c.t.cls[k]? with
  | some cl => cl.exc && cl.nm == n
  | none => false)
/-- the place of a suite -/
def Ck.sui (c : Ck) (i : Option Nat) : Ck := { c with calm := false, top := false, hd := i }
/-- a suite: one statement -/
def chSu (c : Ck) : Sm → PySem.Stmt → Bool
  | .asg (.v j) x, .Assign [.Name n _] e _ => decide (c.N[j]? = some n) && isLoc c.sc n && noLc e && chE c x e
  | .ret x, .Return (some e) _ => chE c x e
  | .exp x, .Expr e _ => noLc e && chE c x e
  | _, _ => false
def chHs (c : Ck) : List ExceptHandler → List (List Sm) → List Nat → List (Option Nat) → Bool
  | [], [], [], [] => true
  | .ExceptHandler (some (.Name x _)) nm [st] _ :: hds, [s] :: hs, k :: cs, i :: is => chXn c k x && chNm c nm i && chSu (c.sui i) s st && chHs c hds hs cs is
  | _, _, _, _ => false
mutual
def chS (c : Ck) : Sm → PySem.Stmt → Bool
  | .asg tg x, st => match st with
    | .Assign [tge] e _ => chAsg c tg x tge e || chAsgLc c tg x tge e
    | _ => false
  | .par is xs, st => match st with
    | .Assign [.Tuple ts _ _] (.Tuple vs _ _) _ => chPar c is xs ts vs
    | _ => false
  | .sub o i x, st => match st with
    | .Assign [.Subscript oe ie _] e _ => pl ie && chE c x e && chE c o oe && chE c i ie
    | _ => false
  | .slcS o a b x, st => match st with
    | .Assign [.Subscript oe (.Slice (some lo) (some hi) none _) _] e _ => chE c x e && chE c o oe && chE c a lo && chE c b hi
    | _ => false
  | .aug i o x, st => match st with
    | .AugAssign (.Name n _) op e _ => chAug c i o n op && chE c x e
    | _ => false
  | .exp x, st => match st with
    | .Expr e _ => noLc e && chE c x e
    | _ => false
  | .ifs t a b, st => match st with
    | .If q sa sb _ => chT c t q && chSs c a sa && chSs c b sb
    | _ => false
  | .whl t b, st => match st with
    | .While q sb [] _ => chT c t q && chSs c b sb
    | _ => false
  | .for_ tg how it b, st => match st with
    | .For tge iter sb [] _ => c.calm && pl iter && chTg c tg tge && chI c how it tge iter && chSs c b sb
    | _ => false
  | .ret x, st => match st with
    | .Return (some e) _ => chE c x e
    | _ => false
  | .retN, st => match st with
    | .Return none _ => true
    | _ => false
  | .fldS o f x, st => match st with
    | .Assign [.Attribute oe n _] e _ => chFl c f n && chE c x e && chE c o oe
    | _ => false
  | .raise k as, st => match st with
    | .Raise (some (.Call (.Name n _) (e :: es) [] _)) none _ => chRaise c k n && (e :: es).all pl && chEs c as (e :: es)
    | _ => false
  | .try_ b cs is hs, st => match st with
    | .Try sb (h0 :: hds) [] [] _ => c.calm && c.top && chSs c b sb && chHs c (h0 :: hds) hs cs is
    | _ => false
  | .tryE b cs is hs el, st => match st with
    | .Try sb (h0 :: hds) (e0 :: els) [] _ => c.calm && c.top && chSs c b sb && chHs c (h0 :: hds) hs cs is && chSs c el (e0 :: els)
    | _ => false
  | .pass, st => match st with
    | .Pass _ => true
    | _ => false
  | .cont, st => match st with
    | .Continue _ => true
    | _ => false
  | .brk, st => match st with
    | .Break _ => true
    | _ => false
def chSs (c : Ck) : List Sm → List PySem.Stmt → Bool
  | [], [] => true
  | s :: ss, st :: sts => chS c s st && chSs c ss sts
  | _, _ => false
end
section
variable {c : Ck} {X : Cx} {J : Jx} {pos p1 p2 pt spos : Pos}
theorem chAsg_ok (ok : XOk c X J) {tg : Tg} {x : Ex} {tge e : PySem.Expr} (h : chAsg c tg x tge e = true) : JS X J (.Assign [tge] e spos) (.asg tg x) := by
  unfold chAsg at h
  obtain ⟨h, h5⟩ := and2.mp h
  obtain ⟨h, h4⟩ := and2.mp h
  obtain ⟨h, h3⟩ := and2.mp h
  obtain ⟨h1, h2⟩ := and2.mp h
  exact js_asg h1 ((Bool.or_eq_true_iff.mp h2).elim (fun h => sw_noLc h _ _ _) fun h => sw_false (by rw [ok.sc]; exact h)) (sw_none (nb h3) h1) (chE_ok x ok h4) (chTg_ok ok h5)
theorem chAsgLc_ok (ok : XOk c X J) {tg : Tg} {x : Ex} {tge e : PySem.Expr} (h : chAsgLc c tg x tge e = true) : JS X J (.Assign [tge] e spos) (.asg tg x) := by
  unfold chAsgLc at h
  split at h
  · rename_i _ _ _ _ it cs x' _ _ _ _ _ _ _ _
    obtain ⟨h, h5⟩ := and2.mp h
    obtain ⟨h, h4⟩ := and2.mp h
    obtain ⟨h, h3⟩ := and2.mp h
    obtain ⟨h1, h2⟩ := and2.mp h
    obtain ⟨hc, hL⟩ := chC_ok ok h5 (chEs_ok it ok) (fun i e => chE_ok i ok) (chTs_ok cs) (chE_ok x')
    exact js_asgLc (ok.hi hc) (ok.calm hc) (by rw [ok.N]; exact ok.nd) (ok.at h1) (ok.loc h2) (by rw [ok.sc]; exact ok.kind) h3 (by simpa using h4) hL
  · cases h
theorem chPar_ok (ok : XOk c X J) {is : List Nat} {xs : List Ex} {ts vs : List PySem.Expr} {kt k2 : Nat} (h : chPar c is xs ts vs = true) : JS X J (.Assign [.Tuple ts kt pt] (.Tuple vs k2 p2) spos) (.par is xs) := by
  unfold chPar at h
  split at h
  · obtain ⟨h, h13⟩ := and2.mp h
    obtain ⟨h, h12⟩ := and2.mp h
    obtain ⟨h, h11⟩ := and2.mp h
    obtain ⟨h, h10⟩ := and2.mp h
    obtain ⟨h, h9⟩ := and2.mp h
    obtain ⟨h, h8⟩ := and2.mp h
    obtain ⟨h, h7⟩ := and2.mp h
    obtain ⟨h, h6⟩ := and2.mp h
    obtain ⟨h, h5⟩ := and2.mp h
    obtain ⟨h, h4⟩ := and2.mp h
    obtain ⟨h, h3⟩ := and2.mp h
    obtain ⟨h1, h2⟩ := and2.mp h
    exact js_par2 (ok.hi h1) (ok.calm h1) (by rw [ok.N]; exact ok.nd) (ok.at h2) (ok.at h3) (of_decide_eq_true h4) (ok.loc h5) (ok.loc h6) (sw_par2 (by rw [ok.sc]; exact ok.kind) (ok.loc h5) (ok.loc h6) (nb h7) h8 h9 h10 (nb h11) (nb h12)) (chEs_ok xs ok h13)
  · obtain ⟨h, h21⟩ := and2.mp h
    obtain ⟨h, h20⟩ := and2.mp h
    obtain ⟨h, h19⟩ := and2.mp h
    obtain ⟨h, h18⟩ := and2.mp h
    obtain ⟨h, h17⟩ := and2.mp h
    obtain ⟨h, h16⟩ := and2.mp h
    obtain ⟨h, h15⟩ := and2.mp h
    obtain ⟨h, h14⟩ := and2.mp h
    obtain ⟨h, h13⟩ := and2.mp h
    obtain ⟨h, h12⟩ := and2.mp h
    obtain ⟨h, h11⟩ := and2.mp h
    obtain ⟨h, h10⟩ := and2.mp h
    obtain ⟨h, h9⟩ := and2.mp h
    obtain ⟨h, h8⟩ := and2.mp h
    obtain ⟨h, h7⟩ := and2.mp h
    obtain ⟨h, h6⟩ := and2.mp h
    obtain ⟨h, h5⟩ := and2.mp h
    obtain ⟨h, h4⟩ := and2.mp h
    obtain ⟨h, h3⟩ := and2.mp h
    obtain ⟨h1, h2⟩ := and2.mp h
    exact js_par3 (ok.hi h1) (ok.calm h1) (by rw [ok.N]; exact ok.nd) (ok.at h2) (ok.at h3) (ok.at h4) (of_decide_eq_true h5) (of_decide_eq_true h6) (of_decide_eq_true h7) (ok.loc h8) (ok.loc h9) (ok.loc h10)
      (sw_par3 (by rw [ok.sc]; exact ok.kind) (ok.loc h8) (ok.loc h9) (ok.loc h10) (nb h11) (nb h12) (nb h13) h14 h15 h16 h17 h18 (nb h19) (nb h20)) (chEs_ok xs ok h21)
  · cases h
theorem chAug_ok (ok : XOk c X J) {i : Nat} {o : Op} {n : Str} {op : Operator} {e : PySem.Expr} {x : Ex} (h : chAug c i o n op = true) (he : JE X J e x) : JS X J (.AugAssign (.Name n p1) op e pos) (.aug i o x) := by
  unfold chAug at h
  obtain ⟨h, h4⟩ := and2.mp h
  obtain ⟨h, h3⟩ := and2.mp h
  obtain ⟨h, h2⟩ := and2.mp h
  obtain ⟨h0, h1⟩ := and2.mp h
  have hl : X.fn n = true ∨ X.env.scope.names.lookup n = some .local := by
    rw [Bool.or_eq_true] at h3
    rcases h3 with h3 | h3
    · exact .inl (ok.fn h3 _)
    · exact .inr (ok.loc h3)
  split at h4
  · exact js_aug (ok.hi h0) ip_add (fun a b n h => (Option.some.inj h).symm) (by rw [ok.N]; exact ok.nd) (ok.at h1) (ok.lc h2) hl he
  · exact js_aug (ok.hi h0) ip_sub (fun a b n h => (Option.some.inj h).symm) (by rw [ok.N]; exact ok.nd) (ok.at h1) (ok.lc h2) hl he
  · cases h4
end
theorem xok_tr {c : Ck} {X : Cx} {J : Jx} (ok : XOk c X J) (W : WX) (pn : List (Addr × Obj)) (xe : Value → Shared → Prop) (tk : Takes (X.tr pn xe) W) (po : PassesOwn (model X.prog X.w) X.A X.env xe) (hc : c.calm = true) : XOk c (X.tr pn xe) { J with W := W } :=
  ⟨ok.N, ok.nd, ok.sc, ok.kind, ok.K, ok.GK, ok.calm, ok.un, ok.gd, ok.mgo, ok.mgn, ok.fn, tk, po, ok.room, ok.calls, ok.gls, ok.kit, ok.own, ok.hi, ok.G, ok.pg, ok.cl, ok.rz, ok.stk, (fun i h => by
    obtain ⟨X0, a, oe, pn2, j, e, h1, h2⟩ := ok.hd i h
    rw [ok.hi hc] at h1
    cases h1), ok.sm⟩
theorem xok_sui {c : Ck} {X : Cx} {J : Jx} (ok : XOk c X J) {i : Option Nat} {a : Addr} {oe : Obj} {j : Nat} {d : Option Addr} {pn : List (Addr × Obj)} {fs : Fds} (hz : Zc (.ref (J.G.cm j)) d oe) (hf : ∃ vs, oe.data = .fields vs) (xk : J.G.xk j = true) :
    XOk (c.sui i) (X.suite a ((a, oe) :: pn)) (J.sui i a d fs) :=
  ⟨ok.N, ok.nd, ok.sc, ok.kind, ok.K, ok.GK, (fun h => by cases h), ok.un, ok.gd, ok.mgo, ok.mgn, (fun h => by cases h), takes_none5, PassesOwn.never, (fun h => by cases h), ok.calls, ok.gls, ok.kit, ok.own, (fun h => by cases h), ok.G, ok.pg, ok.cl, ok.rz, (fun h => by cases h), (fun q h => by
    have h : i = some q := h
    subst h
    exact ⟨X, a, oe, pn, j, rfl, rfl, hz, hf, xk⟩), ok.sm⟩
theorem chSu_ok {c : Ck} {X : Cx} {J : Jx} {s : Sm} {st : PySem.Stmt} (ok : XOk c X J) (h : chSu c s st = true) : PS X st (canH J (evS J.C s)) := by
  unfold chSu at h
  split at h
  · obtain ⟨h, h4⟩ := and2.mp h
    obtain ⟨h, h3⟩ := and2.mp h
    obtain ⟨h1, h2⟩ := and2.mp h
    exact jh_asg (sw_noLc h3 _ _ _) (chE_ok _ ok h4) (by rw [ok.N]; exact ok.nd) (ok.at h1) (ok.loc h2)
  · exact jh_ret (chE_ok _ ok h)
  · obtain ⟨h1, h2⟩ := and2.mp h
    exact jh_exp (chE_ok _ ok h2) h1
  · cases h
theorem chXn_ok {c : Ck} {X : Cx} {J : Jx} {k : Nat} {n : Str} (ok : XOk c X J) (h : chXn c k n = true) : Names X n (.ref (J.G.cm k)) ∧ J.G.xk k = true := by
  unfold chXn at h
  obtain ⟨h, h3⟩ := and2.mp h
  obtain ⟨h1, h2⟩ := and2.mp h
  split at h3
  · rename_i cl e
    obtain ⟨h4, h5⟩ := and2.mp h3
    obtain ⟨q1, _⟩ := ok.xc e h4
    rw [eq_of_beq h5] at q1
    refine ⟨⟨ok.gl h1, (dbg h2).1, .inl q1⟩, ?_⟩
    rw [ok.G]
    show (match c.t.cls[k]? with
      | some cl => cl.exc
      | none => false) = true
    rw [e]
    exact h4
  · cases h3
theorem XOk.exm {c : Ck} {X : Cx} {J : Jx} (ok : XOk c X J) {j k : Nat} (hj : J.G.xk j = true) (hk : J.G.xk k = true) : PySem.W.exmOne X.K (.ref (J.G.cm j)) (.ref (J.G.cm k)) = some (J.C.pg.sub j k) := by
  obtain ⟨cj, ej, _⟩ := ok.xk hj
  obtain ⟨ck, ek, _⟩ := ok.xk hk
  have q := ok.cl
  unfold chCl at q
  obtain ⟨_, q⟩ := and2.mp q
  have z := List.all_eq_true.mp (List.all_eq_true.mp q j (List.mem_range.mpr (List.getElem?_eq_some_iff.mp ej).1)) k (List.mem_range.mpr (List.getElem?_eq_some_iff.mp ek).1)
  rw [Bool.or_eq_true] at z
  rw [ok.G] at hj hk ⊢
  rw [ok.K, ok.pg]
  rcases z with z | z
  · rw [hj, hk] at z
    cases z
  · exact of_decide_eq_true z
theorem chHs_ok {c : Ck} {X : Cx} {J : Jx} (ok : XOk c X J) : ∀ {hds : List ExceptHandler} {hs : List (List Sm)} {cs : List Nat} {is : List (Option Nat)}, chHs c hds hs cs is = true → HsOk X J hds hs cs is := by
  intro hds
  induction hds with
  | nil =>
    intro hs cs is h
    unfold chHs at h
    split at h
    · exact .nil
    · rename_i z
      cases z
    · cases h
  | cons hd hds ih =>
    intro hs cs is h
    unfold chHs at h
    split at h
    · rename_i z
      cases z
    · rename_i x p nm st pos hds2 s hs2 k cs2 i is2 z
      cases z
      obtain ⟨h, h4⟩ := and2.mp h
      obtain ⟨h, h3⟩ := and2.mp h
      obtain ⟨h1, h2⟩ := and2.mp h
      obtain ⟨n1, n2⟩ := chXn_ok ok h1
      refine .cons n1 ?_ (fun j hj => ok.exm hj n2) (fun a oe j d pn fs hz hf xk => pss_one_can (chSu_ok (xok_sui ok hz hf xk) h3)) (ih h4)
      unfold chNm at h2
      split at h2
      · trivial
      · obtain ⟨g1, g2⟩ := and2.mp h2
        exact ⟨ok.at g1, ok.loc g2⟩
      · cases h2
    · cases h
theorem chRaise_ok {c : Ck} {X : Cx} {J : Jx} {k : Nat} {n : Str} {e : PySem.Expr} {es : List PySem.Expr} {as : List Ex} {p1 cpos pos : Pos} (ok : XOk c X J) (h : chRaise c k n = true) (hp : (e :: es).all pl = true) (ha : JA X J (e :: es) as) : JS X J (.Raise (some (.Call (.Name n p1) (e :: es) [] cpos)) none pos) (.raise k as) := by
  unfold chRaise at h
  obtain ⟨h, h5⟩ := and2.mp h
  obtain ⟨h, h4⟩ := and2.mp h
  obtain ⟨h, h3⟩ := and2.mp h
  obtain ⟨h1, h2⟩ := and2.mp h
  split at h5
  · rename_i cl ec
    obtain ⟨h6, h8⟩ := and2.mp h5
    obtain ⟨h6, h7⟩ := and2.mp h6
    obtain ⟨q1, _⟩ := ok.xc ec h6
    rw [eq_of_beq h7] at q1
    have rz := ok.rz k cl ec h6 (fun z => by rw [z] at h8; cases h8)
    obtain ⟨fI, fd, ps, r1, r2, F, hb⟩ := rz.ini
    have ml := of_decide_eq_true h2
    have xk : J.G.xk k = true := by
      rw [ok.G]
      show (match c.t.cls[k]? with
        | some cl => cl.exc
        | none => false) = true
      rw [ec]
      exact h6
    have ef : J.C.pg.exf k = cl.ifs := by
      rw [ok.pg]
      show (match c.t.cls[k]? with
        | some cl => cl.ifs
        | none => []) = _
      rw [ec]
    exact js_raise (ok.calm h1) ok.tk rz.ox r1 r2 F ((ok.room h1).mono (by omega)) hb (ok.gl h3) q1 (dbg h4).1 xk (by rw [ef]) rz.nd rz.len hp ha
  · cases h5
theorem un1 {n : Nat} (h : n + 64 < cLine) : n + 1 < cLine := by omega
mutual
theorem chS_ok : ∀ (s : Sm) {c : Ck} {X : Cx} {J : Jx} {st : PySem.Stmt}, XOk c X J → chS c s st = true → JS X J st s
  | .asg tg x, c, X, J, st, ok, h => by
    unfold chS at h
    split at h
    · rw [Bool.or_eq_true] at h
      exact h.elim (chAsg_ok ok) (chAsgLc_ok ok)
    · cases h
  | .par is xs, c, X, J, st, ok, h => by
    unfold chS at h
    split at h
    · exact chPar_ok ok h
    · cases h
  | .sub o i x, c, X, J, st, ok, h => by
    unfold chS at h
    split at h
    · obtain ⟨h, h4⟩ := and2.mp h
      obtain ⟨h, h3⟩ := and2.mp h
      obtain ⟨h1, h2⟩ := and2.mp h
      exact js_sub (un1 ok.un) h1 (chE_ok x ok h2) (chE_ok o ok h3) (chE_ok i ok h4)
    · cases h
  | .slcS o a b x, c, X, J, st, ok, h => by
    unfold chS at h
    split at h
    · obtain ⟨h, h4⟩ := and2.mp h
      obtain ⟨h, h3⟩ := and2.mp h
      obtain ⟨h1, h2⟩ := and2.mp h
      exact js_slc (chE_ok x ok h1) (chE_ok o ok h2) (chE_ok a ok h3) (chE_ok b ok h4)
    · cases h
  | .fldS o f x, c, X, J, st, ok, h => by
    unfold chS at h
    split at h
    · obtain ⟨h, h3⟩ := and2.mp h
      obtain ⟨h1, h2⟩ := and2.mp h
      obtain ⟨g1, g2, g3⟩ := ok.fl h1
      exact js_fld g2 g1 ok.GK (fun k hk => by
        obtain ⟨cl, _, _, q1, q2, _⟩ := ok.oc hk
        exact ⟨q1, q2 _ g3⟩) (chE_ok x ok h2) (chE_ok o ok h3)
    · cases h
  | .aug i o x, c, X, J, st, ok, h => by
    unfold chS at h
    split at h
    · obtain ⟨h1, h2⟩ := and2.mp h
      exact chAug_ok ok h1 (chE_ok x ok h2)
    · cases h
  | .exp x, c, X, J, st, ok, h => by
    unfold chS at h
    split at h
    · obtain ⟨h1, h2⟩ := and2.mp h
      exact js_exp (chE_ok x ok h2) h1
    · cases h
  | .ifs t a b, c, X, J, st, ok, h => by
    unfold chS at h
    split at h
    · obtain ⟨h, h3⟩ := and2.mp h
      obtain ⟨h1, h2⟩ := and2.mp h
      exact js_if (chT_ok t ok h1).1 (chSs_ok a ok h2) (chSs_ok b ok h3)
    · cases h
  | .whl t b, c, X, J, st, ok, h => by
    unfold chS at h
    split at h
    · obtain ⟨h1, h2⟩ := and2.mp h
      exact js_while ok.po (chT_ok t ok h1).1 (chSs_ok b ok h2)
    · cases h
  | .for_ tg how it b, c, X, J, st, ok, h => by
    unfold chS at h
    split at h
    · obtain ⟨h, h5⟩ := and2.mp h
      obtain ⟨h, h4⟩ := and2.mp h
      obtain ⟨h, h3⟩ := and2.mp h
      obtain ⟨h1, h2⟩ := and2.mp h
      exact js_for ok.po (ok.calm h1) h2 (chI_ok ok h4) (chTg_ok ok h3) (chSs_ok b ok h5)
    · cases h
  | .ret x, c, X, J, st, ok, h => by
    unfold chS at h
    split at h
    · exact js_ret (chE_ok x ok h)
    · cases h
  | .retN, c, X, J, st, ok, h => by
    unfold chS at h
    split at h
    · exact js_retN
    · cases h
  | .raise _ as, c, X, J, st, ok, h => by
    unfold chS at h
    split at h
    · obtain ⟨h, h3⟩ := and2.mp h
      obtain ⟨h1, h2⟩ := and2.mp h
      exact chRaise_ok ok h1 h2 (chEs_ok as ok h3)
    · cases h
  | .try_ b cs is hs, c, X, J, st, ok, h => by
    unfold chS at h
    split at h
    · obtain ⟨h, h4⟩ := and2.mp h
      obtain ⟨h, h3⟩ := and2.mp h
      obtain ⟨h1, h2⟩ := and2.mp h
      obtain ⟨s1, s2⟩ := ok.stk h2
      exact js_try (ok.hi h1) s1 s2 (by rw [ok.N]; exact ok.nd) ok.tk (fun W pn xe tk po => chSs_ok b (xok_tr ok W pn xe tk po h1) h3) (chHs_ok ok h4)
    · cases h
  | .tryE b cs is hs el, c, X, J, st, ok, h => by
    unfold chS at h
    split at h
    · obtain ⟨h, h5⟩ := and2.mp h
      obtain ⟨h, h4⟩ := and2.mp h
      obtain ⟨h, h3⟩ := and2.mp h
      obtain ⟨h1, h2⟩ := and2.mp h
      obtain ⟨s1, s2⟩ := ok.stk h2
      exact js_tryE (chSs_ok el ok h5) (ok.hi h1) s1 s2 (by rw [ok.N]; exact ok.nd) ok.tk (fun W pn xe tk po => chSs_ok b (xok_tr ok W pn xe tk po h1) h3) (chHs_ok ok h4)
    · cases h
  | .pass, c, X, J, st, ok, h => by
    unfold chS at h
    split at h
    · exact js_pass
    · cases h
  | .cont, c, X, J, st, ok, h => by
    unfold chS at h
    split at h
    · exact js_cont
    · cases h
  | .brk, c, X, J, st, ok, h => by
    unfold chS at h
    split at h
    · exact js_break
    · cases h
theorem chSs_ok : ∀ (s : List Sm) {c : Ck} {X : Cx} {J : Jx} {st : List PySem.Stmt}, XOk c X J → chSs c s st = true → JSs X J st s
  | [], c, X, J, st, ok, h => by
    cases st with
    | nil => exact jss_nil
    | cons _ _ => cases h
  | s :: ss, c, X, J, st, ok, h => by
    cases st with
    | nil => cases h
    | cons t ts =>
      unfold chSs at h
      obtain ⟨h1, h2⟩ := and2.mp h
      exact jss_cons (chS_ok s ok h1) (chSs_ok ss ok h2)
end
end EL

/-! ELm2: a program's functions keep their promises. -/
namespace EL
open PySem L2 PySem.Spec PyProof.Rows
/-- the functions, the last one first -/
def pgL (t : Tb) : List Fd → Nat → Nat → List D → Sto → RF
  | [], _, _, _, _ => .stuck
  | fd :: r, f, bs, ds, S => if f = r.length then runF (pgOf t (pgL t r)) fd bs ds S else pgL t r f bs ds S
def Tb.ck (t : Tb) (K : PySem.W.Frag) (fi : Nat) (sc : Scope) : Ck := ⟨K, t, fi, t.lvl fi, true, true, t.N.getD fi [], sc, none⟩
def chBody (t : Tb) (K : PySem.W.Frag) (fi : Nat) (fd : Fd) (sc : Scope) : Arguments → FuncBody → Bool
  | ⟨[], as, none, [], [], none, []⟩, .stmts body => scOk (t.N.getD fi []) (as.map (·.arg)) sc && decide (fd.np = as.length) && decide (fd.nl = (t.N.getD fi []).length) && chSs (t.ck K fi sc) fd.body body
  | _, _ => false
def chFd (t : Tb) (K : PySem.W.Frag) (fi : Nat) (fd : Fd) : Bool := match K.lookup (He.fAd K (t.pl fi)) with
  | some ⟨_, _, .func f, _⟩ => f.globals == mainGlobals && f.closure.isEmpty && isNo f.defaults && f.builtins == builtinsNs && PySem.W.codeIn K f.code f.qualname && chBody t K fi fd f.scope f.params f.body
  | _ => false
def chAll (t : Tb) (K : PySem.W.Frag) : List Fd → Bool
  | [] => true
  | fd :: r => chFd t K r.length fd && chAll t K r
theorem own_of {t : Tb} {K : PySem.W.Frag} (hk : chKit t K = true) (hc : chCl t K = true) {k : Nat} (h : k < (gxOf K t).nk) : Own K ((gxOf K t).cm k) := by
  have q := hc
  unfold chCl at q
  obtain ⟨q, _⟩ := and2.mp q
  obtain ⟨q, q2⟩ := and2.mp q
  obtain ⟨q, q1⟩ := and2.mp q
  have z := List.all_eq_true.mp q2 k (List.mem_range.mpr h)
  obtain ⟨k1, _⟩ := and2.mp hk
  obtain ⟨k1, k2⟩ := and2.mp k1
  cases e : t.cls[k]? with
  | none =>
    rw [e] at z
    cases z
  | some cl =>
    rw [e] at z
    have z := nb z
    have r := List.all_eq_true.mp q1 cl (List.mem_of_getElem? e)
    rw [z] at r
    have r : chOc t K cl = true := r
    unfold chOc at r
    obtain ⟨r, _⟩ := and2.mp r
    obtain ⟨r, _⟩ := and2.mp r
    obtain ⟨r, r8⟩ := and2.mp r
    obtain ⟨r, r7⟩ := and2.mp r
    obtain ⟨r, r6⟩ := and2.mp r
    obtain ⟨r, r5⟩ := and2.mp r
    obtain ⟨r, r4⟩ := and2.mp r
    obtain ⟨r, r3⟩ := and2.mp r
    obtain ⟨r1, r2⟩ := and2.mp r
    have ec : (gxOf K t).cm k = He.ga K cl.nm := by
      show (match t.cls[k]? with
        | some cl => He.ga K cl.nm
        | none => 0) = _
      rw [e]
    rw [ec]
    exact ⟨⟨r2, r3, r4, of_decide_eq_true r5⟩, of_decide_eq_true r7, of_decide_eq_true k1, of_decide_eq_true k2, of_decide_eq_true r8⟩
theorem rz_of {P : Program} {w : World} {K : PySem.W.Frag} {mg : Str → Option Value} {base : Heap} {t : Tb} (hc : chCl t K = true) {k : Nat} {cl : ClT} (e : t.cls[k]? = some cl) (hx : cl.exc = true) (hi : cl.ifs ≠ []) : RzOk P w K mg base ((gxOf K t).cm k) (cl.ifs.map (gxOf K t).fm) := by
  have q := hc
  unfold chCl at q
  obtain ⟨q, _⟩ := and2.mp q
  obtain ⟨q, q2⟩ := and2.mp q
  obtain ⟨q, q1⟩ := and2.mp q
  have r := List.all_eq_true.mp q1 cl (List.mem_of_getElem? e)
  rw [hx] at r
  have r : chXc t K cl = true := r
  unfold chXc at r
  obtain ⟨r, r4⟩ := and2.mp r
  obtain ⟨r, r3⟩ := and2.mp r
  obtain ⟨r1, r2⟩ := and2.mp r
  have ec : (gxOf K t).cm k = He.ga K cl.nm := by
    show (match t.cls[k]? with
      | some cl => He.ga K cl.nm
      | none => 0) = _
    rw [e]
  rw [ec]
  rw [Bool.or_eq_true] at r4
  rcases r4 with r4 | r4
  · exact absurd (List.isEmpty_iff.mp r4) hi
  · obtain ⟨r4, r7⟩ := and2.mp r4
    obtain ⟨r5, r6⟩ := and2.mp r4
    refine chXi_ok (isXc_ok r5) (fun f hf => ?_) r7
    obtain ⟨i, hi, ei⟩ := List.mem_map.mp hf
    have lt := of_decide_eq_true (List.all_eq_true.mp r6 i hi)
    have mem : f ∈ t.fld := by
      rw [← ei]
      show t.fld.getD i Str.empty ∈ t.fld
      rw [List.getD_eq_getElem?_getD, List.getElem?_eq_getElem lt]
      exact List.getElem_mem lt
    exact of_decide_eq_true (List.all_eq_true.mp r3 f mem)
section
variable {P : Program} {w : World} {K : PySem.W.Frag} {mg : Str → Option Value} {base : Heap} {t : Tb}
theorem lo_start {G : Gx} {F : Hp} {κ : Nat → Addr} {n k : Nat} {vs : List V} {ds : List D} {N : List Str} (r : RepA G F κ n vs ds) (hk : k = N.length - vs.length) : Lo G F κ n (ds.map some ++ List.replicate k none) (L2.start N vs) := by
  subst hk
  unfold L2.start
  refine ⟨by simp [r.len], fun i d h => ?_⟩
  by_cases hi : i < ds.length
  · rw [List.getElem?_append_left (by simpa using hi), List.getElem?_map] at h
    obtain ⟨x, h1, h2⟩ := Option.map_eq_some_iff.mp h
    cases h2
    obtain ⟨u, h3, h4⟩ := r.at h1
    refine ⟨u, ?_, h4⟩
    rw [List.getElem?_append_left (by rw [List.length_map, r.len]; exact hi), List.getElem?_map, h3]
    rfl
  · rw [List.getElem?_append_right (by simpa using hi), List.getElem?_replicate] at h
    split at h <;> cases h
theorem runF_eq {pg : Pg} {f : Fd} {bs : Nat} {ds : List D} {S : Sto} : runF pg f bs ds S = if ds.length = f.np then (match evSs ⟨pg, if f.keep then bs else S.length, []⟩ f.body (ds.map some ++ List.replicate (f.nl - f.np) none) S with
    | .nx _ S1 => exitV S.length f.keep .non S1
    | .rt d S1 => exitV S.length f.keep d S1
    | .ex c fs _ S1 => exitX S.length f.keep c fs S1
    | _ => .stuck) else .stuck := rfl
theorem inner_bs {G : Gx} {F : Hp} {κ : Nat → Addr} {Bs : Gd} {S : Sto} {H : Hp} {keep : Bool} {bs : Nat} (R : Rel G F κ Bs S H) (hb : ∀ b ∈ Bs.bs, b ≤ bs) : ∀ b ∈ (inner keep S.length Bs).bs, b ≤ if keep then bs else S.length := by
  intro b hb'
  unfold inner at hb'
  cases keep with
  | true => exact hb b hb'
  | false =>
    rcases List.mem_cons.mp hb' with hb' | hb'
    · rw [hb']; exact Nat.le_refl _
    · exact (R.low b hb').1
theorem fd_ok (hsm : (K.lookup sysModules).isSome = true) (hC : chCl t K = true) (hk : chKit t K = true) (hK : K.In base) (hn : base.Ns mainGlobals mg) {r : List Fd} {fd : Fd} (ih : ∀ f, f < r.length → ∃ fd ps, FnE P w K mg base (2 * t.lvl f + 2) (He.fAd K (t.pl f)) fd ps (spF (gxOf K t) (pgL t r f)) ∧ Binds K fd ps []) (h : chFd t K r.length fd = true) :
    ∃ fd' ps, FnE P w K mg base (2 * t.lvl r.length + 2) (He.fAd K (t.pl r.length)) fd' ps (spF (gxOf K t) fun bs ds S => runF (pgOf t (pgL t r)) fd bs ds S) ∧ Binds K fd' ps [] := by
  unfold chFd at h
  split at h
  · rename_i oc od f osl lk
    obtain ⟨ha, h6⟩ := and2.mp h
    obtain ⟨hb, h5⟩ := and2.mp ha
    obtain ⟨hc, h4⟩ := and2.mp hb
    obtain ⟨hd, h3⟩ := and2.mp hc
    obtain ⟨h1, h2⟩ := and2.mp hd
    clear h ha hb hc hd
    obtain ⟨n1, n2, n3, n4, n5, n6, n7, n8, n9, n10, n11, n12, n13, n14, n15⟩ := f
    dsimp only at h1 h2 h3 h4 h5 h6
    have e6 := eq_of_beq h1
    have e7 := List.isEmpty_iff.mp h2
    have e8 : n8 = .none := by
      cases n8 <;> first | rfl | cases h3
    have e15 := eq_of_beq h4
    subst e6 e7 e8 e15
    unfold chBody at h6
    split at h6
    · rename_i as body
      obtain ⟨ha, g4⟩ := and2.mp h6
      obtain ⟨hb, g3⟩ := and2.mp ha
      obtain ⟨g1, g2⟩ := and2.mp hb
      have S := scOk_ok g1
      have e2 := of_decide_eq_true g2
      have e3 := of_decide_eq_true g3
      have ndP : (as.map (·.arg)).Nodup := by
        rw [← S.pre]
        exact S.nd.sublist (List.take_sublist _ _)
      refine ⟨_, as.map (·.arg), fnE_of (k := 2 * t.lvl r.length + 1) (N := t.N.getD r.length []) lk h5 S (fun vs H Q E ⟨F, κ, Bs, bs, S', ds, R, ra, hb, pf⟩ => ?_) (fun A outer s H vs Q E hr hg ⟨F, κ, Bs, bs, S', ds, R, ra, hb, pf⟩ => ?_), Binds.all fun us hl => bind_all rfl rfl ndP hl⟩
      · have pf2 : PostF (gxOf K t) Bs F κ S'.length Q E (runF (pgOf t (pgL t r)) fd bs ds S') := pf
        rw [runF_eq] at pf2
        by_cases hd : ds.length = fd.np
        · rw [ra.len, hd, e2]
          simp
        · rw [if_neg hd] at pf2
          exact pf2.elim
      · have pf2 : PostF (gxOf K t) Bs F κ S'.length Q E (runF (pgOf t (pgL t r)) fd bs ds S') := pf
        rw [runF_eq] at pf2
        clear pf
        by_cases hd : ds.length = fd.np
        · rw [if_pos hd] at pf2
          have pf := pf2
          clear pf2
          obtain ⟨J, hJ⟩ : ∃ J : Jx, J = { G := gxOf K t, Bs := inner fd.keep S'.length Bs, W := fun c d _ H => E c d H, dX := none, C := ⟨pgOf t (pgL t r), if fd.keep then bs else S'.length, []⟩, bs := inner_bs R hb } := ⟨_, rfl⟩
          have hbl : ∀ b ∈ Bs.bs, b ≤ S'.length := fun b hb' => (R.low b hb').1
          have ok : XOk (t.ck K r.length n5) (cxOf (CX P w) P w K mg base (t.N.getD r.length []) n2 n5 (He.fAd K (t.pl r.length)) n13 A outer s H E) J := by
            subst hJ
            refine ⟨rfl, S.nd, rfl, S.kind, rfl, rfl, fun _ => rfl, hr.units, hg, fun x v e => PySem.W.mg_of hK hn e, fun x e => PySem.W.mg_none_of hK hn e, fun _ _ => rfl, L2.takes_of rfl rfl rfl rfl, L2.passes_of rfl, fun _ => hr, fun f h1 h2 => ih f h1, fun g => rfl, fun ty h => kit_ok hk h _, fun k h => own_of hk hC h, fun _ => rfl, rfl, rfl, hC, fun k cl e hx hi => rz_of hC e hx hi, fun _ => ⟨rfl, rfl⟩, (fun i h => by cases h), hsm⟩
          refine ⟨_, chSs_ok fd.body ok g4, F, κ, ds.map some ++ List.replicate (fd.nl - fd.np) none, S', ?_, ?_⟩
          · subst hJ
            refine ⟨?_, lo_start ra (by rw [e3, ra.len, hd]), .inl rfl, fun i a z => by cases z⟩
            unfold inner
            cases fd.keep with
            | true => exact R
            | false =>
              refine ⟨R.sub, R.cells, R.inj, fun b hb' => ?_, R.prot⟩
              rcases List.mem_cons.mp hb' with hb' | hb'
              · subst hb'
                refine ⟨Nat.le_refl _, fun i c hi e => ?_⟩
                obtain ⟨_, o, _, x⟩ := R.cells i c e
                exact x.bnd
              · exact R.low b hb'
          · have eC : evSs J.C = evSs ⟨pgOf t (pgL t r), if fd.keep then bs else S'.length, []⟩ := by rw [hJ]
            rw [eC]
            have eG : J.G = gxOf K t := by rw [hJ]
            have eB : J.Bs = inner fd.keep S'.length Bs := by rw [hJ]
            have eW : J.W = fun c d _ H => E c d H := by rw [hJ]
            revert pf
            cases evSs ⟨pgOf t (pgL t r), if fd.keep then bs else S'.length, []⟩ fd.body (ds.map some ++ List.replicate (fd.nl - fd.np) none) S' with
            | nx l S1 =>
              intro pf F1 κ1 σ1 H1 e1 n1 s1
              have R1 := s1.rel
              rw [eG, eB] at R1
              exact exitV_ok (keep := fd.keep) pf e1 n1 R1 hbl .non
            | rt d S1 =>
              intro pf F1 κ1 v H1 e1 n1 R1 rv
              rw [eG, eB] at R1
              rw [eG] at rv
              exact exitV_ok (keep := fd.keep) pf e1 n1 R1 hbl rv
            | ex c fs l S1 =>
              intro pf F1 κ1 d σ1 H1 hx e1 n1 s1 xd
              have R1 := s1.rel
              rw [eG, eB] at R1
              rw [eG] at xd hx
              rw [eW, eG]
              exact exitX_ok (keep := fd.keep) pf hx e1 n1 R1 hbl xd
            | bk l S1 => exact fun pf => pf.elim
            | ct l S1 => exact fun pf => pf.elim
            | stuck => exact fun pf => pf.elim
        · rw [if_neg hd] at pf2
          exact pf2.elim
    · cases h6
  · cases h
theorem prog_ok (hsm : (K.lookup sysModules).isSome = true) (hC : chCl t K = true) (hk : chKit t K = true) (hK : K.In base) (hn : base.Ns mainGlobals mg) : ∀ {fds : List Fd}, chAll t K fds = true → ∀ f, f < fds.length → ∃ fd ps, FnE P w K mg base (2 * t.lvl f + 2) (He.fAd K (t.pl f)) fd ps (spF (gxOf K t) (pgL t fds f)) ∧ Binds K fd ps []
  | [], _, f, hf => absurd hf (Nat.not_lt_zero f)
  | fd :: r, h, f, hf => by
    obtain ⟨h1, h2⟩ := and2.mp (show (chFd t K r.length fd && chAll t K r) = true from h)
    have ih := prog_ok hsm hC hk hK hn h2
    by_cases e : f = r.length
    · subst e
      have := fd_ok hsm hC hk hK hn ih h1
      have ef : pgL t (fd :: r) r.length = fun bs ds S => runF (pgOf t (pgL t r)) fd bs ds S := by
        funext bs ds S
        exact if_pos rfl
      rw [ef]
      exact this
    · have ef : pgL t (fd :: r) f = pgL t r f := by
        funext bs ds S
        exact if_neg e
      rw [ef]
      have hf2 : f < r.length + 1 := hf
      exact ih f (by omega)
end
end EL

/-! ELn2: a law's end. -/
namespace EL
open PySem L2 PySem.Spec PyProof.Rows
theorem law_callE {P : Program} {w : World} {K : PySem.W.Frag} {mg mb : Str → Option Value} {k : Nat} {fa a : Addr} {sp : Sp} {s₁ : Shared} {vs : List Value} {ns : List Int}
    (KX : K.In s₁.heap) (hns : s₁.heap.Ns mainGlobals mg) (hb : s₁.heap.Ns builtinsNs mb) (hbb : ∀ x : Str, x ≠ "__name__" → mb x = bootBuiltins x) (hlim : s₁.heap.NoLimit) (hg : s₁.gens = #[])
    (ha : s₁.heap.get? a = some { cls := .type "list", data := .seq vs.toArray }) (hi : IntsAre vs ns) (hl : ns.length ≤ sizeLine) (hr : Room k callerA)
    (F : ∀ base : Heap, K.In base → base.Ns mainGlobals mg → ∃ fd ps, FnE P w K mg base k fa fd ps sp ∧ Binds K fd ps [])
    (hsp : ∀ H : Hp, Only H → SqL K H a (ns.map V.int) → sp [.ref a] H (fun v _ => v = .bl true) fun _ _ _ => False) :
    codeAny (model P w) callerA (.call (.ref fa) ⟨[.ref a], []⟩) (fun r s' => r = .ok (.ret (.bool true)) ∧ OldK s₁.heap s'.heap ∧ s'.os = s₁.os ∧ AllBare s'.gens) s₁ := by
  have rv := vals_ints hi
  have lenV := hi.length
  have core : ∀ H : Hp, Only H → SqL K H a (ns.map V.int) → HOk P w H s₁.heap → (∀ b, H b ≠ none → b = a) → (H a ≠ none → K.lookup a = none) →
      codeAny (model P w) callerA (.call (.ref fa) ⟨[.ref a], []⟩) (fun r s' => r = .ok (.ret (.bool true)) ∧ OldK s₁.heap s'.heap ∧ s'.os = s₁.os ∧ AllBare s'.gens) s₁ := by
    intro H hO hS hok hA hK
    have base_of : ∀ {b : Addr} {o : Obj}, s₁.heap.get? b = some o → H b = none → (hidT s₁.heap H).get? b = some o := fun e n => hidT_get e n
    have noA : ∀ {b : Addr} {o : Obj} {es : Array DictEntry} {ep : Nat}, s₁.heap.get? b = some o → o.data = .dict es ep → H b = none := fun {b o es ep} e d => by
      cases q : H b with
      | none => rfl
      | some u =>
        have e' : b = a := hA b (by rw [q]; simp)
        subst e'
        rw [ha] at e; cases e
        have d' : Data.seq vs.toArray _ = Data.dict es ep := d
        cases d'
    have nsK : ∀ {b : Addr} {m : Str → Option Value}, s₁.heap.Ns b m → (hidT s₁.heap H).Ns b m := fun {b m} ⟨o, es, ep, e, d, r⟩ => ⟨o, es, ep, base_of e (noA e d), d, r⟩
    have hKb : K.In (hidT s₁.heap H) := fun b o e => base_of (KX b o e) (by
      cases q : H b with
      | none => rfl
      | some u =>
        have e' : b = a := hA b (by rw [q]; simp)
        subst e'
        rw [hK (by rw [q]; simp)] at e; cases e)
    have hM : Mod K mg (hidT s₁.heap H) := ⟨hKb, nsK hns, ⟨mb, nsK hb, hbb⟩, let ⟨mc, h1, h2⟩ := hlim; ⟨mc, nsK h1, h2⟩⟩
    have e0 : Env0 P w K mg (hidT s₁.heap H) callerA [] s₁ H := ⟨rfl, hM, fun b o e => of_hidT e, Nat.le_of_eq (hidT_size _ _), trivial, fun b hb => absurd (show b ∈ ([] : List Addr) from hb) (by simp), hok, .of_eq hg⟩
    obtain ⟨fd, ps, FE, hbd⟩ := F _ hKb (nsK hns)
    have hq := hsp H hO hS
    have hlen := FE.len _ _ _ _ hq
    have hbd2 := hbd s₁ [.ref a] KX (by rw [List.append_nil, ← hlen]; rfl)
    rw [List.append_nil] at hbd2
    refine codeAny_mono (FE.run callerA [] s₁ H ⟨[.ref a], []⟩ [.ref a] [.ref a] _ _ hr rfl e0 hbd2 (.cons rfl .nil) hq) fun r s' h => ?_
    cases r with
    | error e =>
      obtain ⟨_, _, _, _, _, _, _, _, _, _, _, _, z⟩ := h
      exact z.elim
    | ok fl =>
      cases fl with
      | next => exact False.elim h
      | brk => exact False.elim h
      | cont => exact False.elim h
      | ret u =>
        obtain ⟨v, H', os, bare, un, hok', r', q⟩ := h
        have q' : v = .bl true := q
        subst q'
        obtain rfl : u = Value.bool true := r'
        refine ⟨rfl, OldK.of_keep fun b o e => ?_, os, bare⟩
        cases q : H b with
        | none => exact un.keep b o e q (by intro z; exact absurd (show b ∈ ([] : List Addr) from z) (by simp)) (by simp)
        | some u =>
          rcases hO b with z | ⟨ob, xs, z⟩
          · rw [q] at z; cases z
          · have z2 := un.frzs b ob _ z
            obtain ⟨e1, _⟩ := hok b _ z
            obtain ⟨e2, _⟩ := hok' b _ z2
            rw [e] at e1; cases e1
            exact e2
  cases hk : K.lookup a with
  | some o =>
    have e := KX a o hk
    rw [ha] at e
    cases e
    exact core (fun _ => none) (fun _ => .inl rfl) (.inr ⟨_, vs.toArray, _, hk, rfl, rfl, rfl, by rw [List.size_toArray, lenV]; exact hl, by simpa using rv⟩) (fun b u z => by have z' : (none : Option HO) = some u := z; cases z') (fun b z => absurd rfl z) fun z => absurd rfl z
  | none =>
    refine core (fun b => if b = a then some (.frz { cls := .type "list", data := .seq vs.toArray } (.lst (ns.map V.int))) else none) (fun b => ?_) (.inl (.inr ⟨{ cls := .type "list", data := .seq vs.toArray }, if_pos rfl⟩)) (fun b u z => ?_) (fun b z => ?_) fun _ => hk
    · by_cases hb : b = a
      · exact .inr ⟨_, _, if_pos hb⟩
      · exact .inl (if_neg hb)
    · by_cases hb : b = a
      · have z' := (if_pos hb).symm.trans z
        cases z'
        subst hb
        exact ⟨ha, by rw [List.length_map]; exact hl, vs, _, rv, ha⟩
      · have z' := (if_neg hb).symm.trans z
        cases z'
    · by_cases hb : b = a
      · exact hb
      · exact absurd (if_neg hb) z
/-- what the head's run is asked for -/
def chk (t : Tb) (fds : List Fd) (K : PySem.W.Frag) : Bool := ((K.lookup sysModules).isSome && (chCl t K && chKit t K) && chAll t K fds) && (match fds, t.pl (fds.length - 1) with
  | _ :: _, (m, none) => m == "law"
  | _, _ => false) && He.eqO (PySem.W.nsIn K mainGlobals "law") (some (some (.ref (He.ga K "law"))))
/-- as: addresses, in an order that suits (any list will do) -/
def obT (t : Tb) (fds : List Fd) (as : List Nat) (s : PySem.W.SharedT) : Bool := chk t fds (He.frG (HandSHeadRun.getT s) as)
def hkT (t : Tb) (fds : List Fd) (as : List Nat) : PySem.W.Hook where
  α := Bool
  obs := fun s => chk t fds (He.frG s.heap.get? as)
  val := fun _ => true
  says := fun _ h => ∃ K : PySem.W.Frag, K.In h ∧ chk t fds K = true
  of := fun _ _ e => ⟨_, He.frG_in, e⟩
  keeps := fun _ _ _ ⟨K, hK, c⟩ k => ⟨K, PySem.W.Frag.In.keeps hK k, c⟩
theorem ob_eq (t : Tb) (fds : List Fd) (as : List Nat) (s : PySem.W.SharedT) : obT t fds as s = (hkT t fds as).obs s.abs := by
  have e : HandSHeadRun.getT s = s.abs.heap.get? := funext (HandSHeadRun.getT_eq s)
  show chk _ _ _ = chk _ _ _
  rw [e]
theorem scr_rep {t : Tb} {K : PySem.W.Frag} {H : Hp} {a : Addr} {ns : List Int} (h : SqL K H a (ns.map V.int)) : Rep (gxOf K t) H (fun _ => 0) 0 (.ref a) (.scr (ns.map D.int)) := by
  refine .scr h ?_
  clear h
  induction ns with
  | nil => exact .nil
  | cons n ns ih => exact .cons (.int n) ih
theorem walkEL {l : PySem.W.OpenLaw} {n : Nat} {q : Program} {loose : List Str} {XP : (Str → Option Value) → Heap → Prop} {YP : World → Heap → Prop} {d : DefRec} {t : Tb} {fds : List Fd}
    (hn : l.most = some n) (hn2 : n ≤ sizeLine) (hdf : d.params.defaults = []) (hd : d.name = "law") (hr : Room (2 * t.lvl (fds.length - 1) + 2) callerA)
    (hY : ∀ w h, YP w h → ∃ K : PySem.W.Frag, K.In h ∧ chk t fds K = true)
    (law : ∀ ns : List Int, ns.length ≤ n → (∀ z ∈ ns, Builtin.Int.intBits z ≤ 1048576) → ∃ S, pgL t fds (fds.length - 1) 0 [.scr (ns.map .int)] [] = .val (.bl true) S) :
    PySem.W.WalkO q loose XP YP l.row.toRowW d [] (fun f vs => PySem.call f vs) := by
  refine Att.attach_callB hn hdf fun w s₀ s₁ mg mb fa o pm cd doc a vs ns G Y ho hdd hcd hmg hobj hints hlen hbits hg => ?_
  obtain ⟨K, KX, hc⟩ := hY w _ Y
  unfold chk at hc
  obtain ⟨hc, h3⟩ := and2.mp hc
  obtain ⟨h1, h2⟩ := and2.mp hc
  have hm : mg "law" = some (.ref (He.ga K "law")) := PySem.W.mg_of KX G.T.g (He.eqO_ok h3)
  rw [hd, hm] at hmg
  have ef : fa = He.ga K "law" := by
    have z := Option.some.inj hmg
    injection z with z
    exact z.symm
  have hlt : fds.length - 1 < fds.length := by
    cases fds with
    | nil => cases h2
    | cons _ _ => simp
  have hpl : He.fAd K (t.pl (fds.length - 1)) = fa := by
    cases fds with
    | nil => cases h2
    | cons _ r =>
      generalize t.pl _ = z at h2
      obtain ⟨m, o⟩ := z
      cases o with
      | none =>
        have := eq_of_beq (show (m == "law") = true from h2)
        subst this
        rw [ef]
        rfl
      | some _ => cases h2
  refine law_callE (k := 2 * t.lvl (fds.length - 1) + 2) (sp := spF (gxOf K t) (pgL t fds (fds.length - 1))) KX G.T.g G.T.b G.T.builtins G.T.nolimit hg hobj hints (Nat.le_trans hlen hn2) hr (fun base b1 b2 => ?_) fun H hO hS => ?_
  · obtain ⟨h4, h1⟩ := and2.mp h1
    obtain ⟨hsm, h4⟩ := and2.mp h4
    obtain ⟨h5, h6⟩ := and2.mp h4
    have := prog_ok (P := l.prog) (w := w) (mg := mg) hsm h5 h6 b1 b2 h1 (fds.length - 1) hlt
    rw [hpl] at this
    exact this
  · obtain ⟨S, hS2⟩ := law ns hlen hbits
    refine ⟨H, fun _ => 0, ⟨[], []⟩, 0, [], [.scr (ns.map .int)], ⟨fun a u e => .inl e, fun i c e => (by cases e), fun i j h => absurd h (Nat.not_lt_zero i), fun b hb => (by cases hb), fun q hq => (by cases hq)⟩, .cons (scr_rep hS) .nil, fun b hb => (by cases hb), ?_⟩
    rw [hS2]
    exact fun F' κ' v H' _ _ _ r => rep_bl r
end EL

/-! ELp2: loops of the evaluator, for the pure proofs. -/
namespace EL
theorem compG_ok {tg : Tg} {l : Loc} {c : Loc → Sto → R Bool} {e : Loc → Sto → R D} {how : Nat} {ds : List D} (n : Nat) (item : Nat → D) (P : Nat → Sto → List D → Prop)
    (hi : ∀ i S acc, i < n → P i S acc → itemD how ds S i = some (some (item i))) (hend : ∀ S acc, P n S acc → itemD how ds S n = some none)
    (step : ∀ i S acc, i < n → P i S acc → ∃ l2, bindT S tg (item i) l = some l2 ∧ ((∃ S1, c l2 S = .ok false S1 ∧ P (i + 1) S1 acc) ∨ ∃ S1 d S2, c l2 S = .ok true S1 ∧ e l2 S1 = .ok d S2 ∧ acc.length < big ∧ P (i + 1) S2 (acc ++ [d]))) :
    ∀ h i S acc, i ≤ n → n - i < h → P i S acc → ∃ S' acc', compG tg l c e how ds h i acc S = .ok acc' S' ∧ P n S' acc' := by
  intro h
  induction h with
  | zero => intro i S acc _ h2 _; omega
  | succ h ih =>
    intro i S acc h1 h2 p
    unfold compG
    by_cases hl : i < n
    · rw [hi i S acc hl p]
      obtain ⟨l2, hb, q⟩ := step i S acc hl p
      dsimp only
      rw [hb]
      dsimp only
      rcases q with ⟨S1, h3, h4⟩ | ⟨S1, d, S2, h3, h4, h5, h6⟩
      · rw [h3]
        exact ih (i + 1) S1 acc hl (by omega) h4
      · rw [h3]
        dsimp only
        rw [h4]
        dsimp only
        rw [if_pos h5]
        exact ih (i + 1) S2 _ hl (by omega) h6
    · have e : i = n := by omega
      subst e
      rw [hend S acc p]
      exact ⟨S, acc, rfl, p⟩
theorem loopG_ok {tg : Tg} {b : Loc → Sto → RS} {how : Nat} {ds : List D} (n : Nat) (item : Nat → D) (P : Nat → Loc → Sto → Prop)
    (hi : ∀ i l S, i < n → P i l S → itemD how ds S i = some (some (item i))) (hend : ∀ l S, P n l S → itemD how ds S n = some none)
    (step : ∀ i l S, i < n → P i l S → ∃ l2, bindT S tg (item i) l = some l2 ∧ ∃ l3 S3, (b l2 S = .nx l3 S3 ∨ b l2 S = .ct l3 S3) ∧ P (i + 1) l3 S3) :
    ∀ h i l S, i ≤ n → n - i < h → P i l S → ∃ l' S', loopG tg b how ds h i l S = .nx l' S' ∧ P n l' S' := by
  intro h
  induction h with
  | zero => intro i l S _ h2 _; omega
  | succ h ih =>
    intro i l S h1 h2 p
    unfold loopG
    by_cases hl : i < n
    · rw [hi i l S hl p]
      obtain ⟨l2, hb, l3, S3, h3, h4⟩ := step i l S hl p
      dsimp only
      rw [hb]
      dsimp only
      rcases h3 with h3 | h3
      · rw [h3]
        exact ih (i + 1) l3 S3 hl (by omega) h4
      · rw [h3]
        exact ih (i + 1) l3 S3 hl (by omega) h4
    · have e : i = n := by omega
      subst e
      rw [hend l S p]
      exact ⟨l, S, rfl, p⟩
theorem item_range {S : Sto} {n : Int} {i : Nat} (h : -1000000000 < n ∧ n < 1000000000) : itemD 1 [.int n] S i = some (if i < n.toNat then some (.int i) else none) := if_pos h
end EL

/-! ELp3: what holds behind an expression, a statement, a function (weakest preconditions), for the pure proofs. -/
namespace EL
/-! ### choices -/
def iteR {α : Type} (b : Bool) (x y : R α) : R α := match b with
  | true => x
  | false => y
def iteS (b : Bool) (x y : RS) : RS := match b with
  | true => x
  | false => y
def iteF (b : Bool) (x y : RF) : RF := match b with
  | true => x
  | false => y
@[simp] theorem iteR_t {α : Type} (x y : R α) : iteR true x y = x := id rfl
@[simp] theorem iteR_f {α : Type} (x y : R α) : iteR false x y = y := id rfl
@[simp] theorem iteS_t (x y : RS) : iteS true x y = x := id rfl
@[simp] theorem iteS_f (x y : RS) : iteS false x y = y := id rfl
@[simp] theorem iteF_t (x y : RF) : iteF true x y = x := id rfl
@[simp] theorem iteF_f (x y : RF) : iteF false x y = y := id rfl
@[simp] theorem iteR_and (a b : Bool) (S : Sto) : iteR a (.ok b S) (.ok false S) = .ok (a && b) S := by cases a <;> rfl
@[simp] theorem iteR_or (a b : Bool) (S : Sto) : iteR a (.ok true S) (.ok b S) = .ok (a || b) S := by cases a <;> rfl
@[simp] theorem iteR_andD (a b : Bool) (S : Sto) : iteR a (.ok (D.bl b) S) (.ok (D.bl false) S) = .ok (D.bl (a && b)) S := by cases a <;> rfl
@[simp] theorem iteR_orD (a b : Bool) (S : Sto) : iteR a (.ok (D.bl true) S) (.ok (D.bl b) S) = .ok (D.bl (a || b)) S := by cases a <;> rfl
/-- a dummy: simp does not go into what its type names -/
abbrev Ph {β γ : Sort _} (_ : β) (_ : γ) : Type := Unit
/-! ### binds -/
def R.bd {α β : Type} (r : R α) (k : α → Sto → R β) (_ : Ph k k := ()) : R β := r.bind k
theorem bd_eq {α β : Type} (r : R α) (k : α → Sto → R β) : r.bd k = r.bind k := id rfl
def bdS {α : Type} (r : R α) (l : Loc) (k : α → Sto → RS) (_ : Ph k k := ()) : RS := bindS r l k
theorem bdS_eq {α : Type} (r : R α) (l : Loc) (k : α → Sto → RS) : bdS r l k = bindS r l k := id rfl
@[simp] theorem bind_ok {α β : Type} (a : α) (S : Sto) (k : α → Sto → R β) : (R.ok a S).bd k = k a S := id rfl
@[simp] theorem bind_ex {α β : Type} (c : Nat) (fs : Fds) (S : Sto) (k : α → Sto → R β) : (R.ex c fs S : R α).bd k = .ex c fs S := id rfl
@[simp] theorem bind_stuck {α β : Type} (k : α → Sto → R β) : (R.stuck : R α).bd k = .stuck := id rfl
@[simp] theorem bindS_ok {α : Type} (a : α) (S : Sto) (l : Loc) (k : α → Sto → RS) : bdS (.ok a S) l k = k a S := id rfl
@[simp] theorem bindS_ex {α : Type} (c : Nat) (fs : Fds) (S : Sto) (l : Loc) (k : α → Sto → RS) : bdS (R.ex c fs S : R α) l k = .ex c fs l S := id rfl
def seqS (r : RS) (k : Loc → Sto → RS) (_ : Ph k k := ()) : RS := match r with
  | .nx l S => k l S
  | q => q
@[simp] theorem seqS_nx (l : Loc) (S : Sto) (k : Loc → Sto → RS) : seqS (.nx l S) k = k l S := id rfl
@[simp] theorem seqS_rt (d : D) (S : Sto) (k : Loc → Sto → RS) : seqS (.rt d S) k = .rt d S := id rfl
@[simp] theorem seqS_bk (l : Loc) (S : Sto) (k : Loc → Sto → RS) : seqS (.bk l S) k = .bk l S := id rfl
@[simp] theorem seqS_ct (l : Loc) (S : Sto) (k : Loc → Sto → RS) : seqS (.ct l S) k = .ct l S := id rfl
@[simp] theorem seqS_ex (c : Nat) (fs : Fds) (l : Loc) (S : Sto) (k : Loc → Sto → RS) : seqS (.ex c fs l S) k = .ex c fs l S := id rfl
theorem seqS_ite (b : Bool) (x y : RS) (k : Loc → Sto → RS) : seqS (iteS b x y) k = iteS b (seqS x k) (seqS y k) := by cases b <;> rfl
def bB (u : D) (k : Bool → R D) : R D := match u with
  | .bl b => k b
  | _ => .stuck
@[simp] theorem bB_bl (b : Bool) (k : Bool → R D) : bB (.bl b) k = k b := id rfl
def bI (u : D) (k : Int → R (Option Int)) : R (Option Int) := match u with
  | .int b => k b
  | _ => .stuck
@[simp] theorem bI_int (b : Int) (k : Int → R (Option Int)) : bI (.int b) k = k b := id rfl
def optT (o : Option Bool) (S : Sto) : R Bool := match o with
  | some b => .ok b S
  | none => .stuck
@[simp] theorem optT_some (b : Bool) (S : Sto) : optT (some b) S = .ok b S := id rfl
@[simp] theorem optR_some (d : D) (S : Sto) : optR (some d) S = .ok d S := id rfl
@[simp] theorem optS_some (S : Sto) (l : Loc) : optS (some S) l = .nx l S := id rfl
def optL (o : Option Loc) (S : Sto) : RS := match o with
  | some l => .nx l S
  | none => .stuck
@[simp] theorem optL_some (S : Sto) (l : Loc) : optL (some l) S = .nx l S := id rfl
def optV (o : Option (Option D)) (S : Sto) : R D := match o with
  | some (some d) => .ok d S
  | _ => .stuck
@[simp] theorem optV_some (d : D) (S : Sto) : optV (some (some d)) S = .ok d S := id rfl
@[simp] theorem asB_ok (b : Bool) (S : Sto) : asB (.ok (.bl b) S) = .ok b S := id rfl
@[simp] theorem asB_ite (b : Bool) (x y : R D) : asB (iteR b x y) = iteR b (asB x) (asB y) := by cases b <;> rfl
/-! ### nodes -/
section
variable (C : Cn) (l : Loc) (S : Sto)
@[simp] theorem e_var (i : Nat) : evE C (.var i) l S = optV l[i]? S := by
  unfold evE optV
  cases l[i]? with
  | none => rfl
  | some o => cases o <;> rfl
@[simp] theorem e_non : evE C .non l S = .ok .non S := by simp only [evE, bd_eq, bdS_eq]
@[simp] theorem e_bl (b : Bool) : evE C (.bl b) l S = .ok (.bl b) S := by simp only [evE, bd_eq, bdS_eq]
@[simp] theorem e_int (b : Int) : evE C (.int b) l S = .ok (.int b) S := by simp only [evE, bd_eq, bdS_eq]
@[simp] theorem e_str (b : List Nat) : evE C (.str b) l S = .ok (.str b) S := by simp only [evE, bd_eq, bdS_eq]
@[simp] theorem e_gl (g : Nat) : evE C (.gl g) l S = .ok (C.pg.gls g) S := by simp only [evE, bd_eq, bdS_eq]
@[simp] theorem e_bin (b : Bool) (o : Op) (x y : Ex) : evE C (.bin b o x y) l S = (evE C x l S).bd fun u S1 => (evE C y l S1).bd fun v S2 => binD b o u v S2 := by simp only [evE, bd_eq, bdS_eq]
def negD (u : D) (S : Sto) : R D := match u with
  | .int i => .ok (.int (-i)) S
  | _ => .stuck
@[simp] theorem negD_int (i : Int) : negD (.int i) S = .ok (.int (-i)) S := id rfl
@[simp] theorem e_neg (x : Ex) : evE C (.neg x) l S = (evE C x l S).bd fun u S1 => negD u S1 := by simp only [evE, bd_eq, bdS_eq]; rfl
@[simp] theorem e_cmp (o : Cop) (x y : Ex) : evE C (.cmp o x y) l S = (evE C x l S).bd fun u S1 => (evE C y l S1).bd fun v S2 => optR ((cmpD o S2 u v).map .bl) S2 := by simp only [evE, bd_eq, bdS_eq]
@[simp] theorem e_chain (o o' : Cop) (x y z : Ex) : evE C (.chain o o' x y z) l S = (evE C x l S).bd fun u S1 => (evE C y l S1).bd fun v S2 => (optT (cmpD o S2 u v) S2).bd fun b S2 => iteR b ((evE C z l S2).bd fun w S3 => optR ((cmpD o' S3 v w).map .bl) S3) (.ok (.bl false) S2) := by
  simp only [evE, bd_eq, bdS_eq]
  congr 1
  funext u S1
  congr 1
  funext v S2
  cases cmpD o S2 u v with
  | none => rfl
  | some b => cases b <;> rfl
@[simp] theorem e_isN (x : Ex) : evE C (.isN x) l S = (evE C x l S).bd fun u S1 => .ok (.bl (isNon u)) S1 := by simp only [evE, bd_eq, bdS_eq]
@[simp] theorem e_notN (x : Ex) : evE C (.notN x) l S = (evE C x l S).bd fun u S1 => .ok (.bl (!isNon u)) S1 := by simp only [evE, bd_eq, bdS_eq]
@[simp] theorem e_and (x y : Ex) : evE C (.and x y) l S = (evE C x l S).bd fun u S1 => bB u fun b => iteR b (evE C y l S1) (.ok (.bl false) S1) := by
  simp only [evE, bd_eq, bdS_eq]
  congr 1
  funext u S1
  cases u <;> first | rfl | (rename_i b; cases b <;> rfl)
@[simp] theorem e_or (x y : Ex) : evE C (.or x y) l S = (evE C x l S).bd fun u S1 => bB u fun b => iteR b (.ok (.bl true) S1) (evE C y l S1) := by
  simp only [evE, bd_eq, bdS_eq]
  congr 1
  funext u S1
  cases u <;> first | rfl | (rename_i b; cases b <;> rfl)
@[simp] theorem e_not (x : Ex) : evE C (.not x) l S = (evE C x l S).bd fun u S1 => bB u fun b => .ok (.bl (!b)) S1 := by
  simp only [evE, bd_eq, bdS_eq]
  congr 1 <;> (funext u S1; cases u <;> rfl)
@[simp] theorem e_ite (c : Tx) (x y : Ex) : evE C (.ite c x y) l S = (evT C c l S).bd fun b S1 => iteR b (evE C x l S1) (evE C y l S1) := by
  simp only [evE, bd_eq, bdS_eq]
  congr 1 <;> (funext u S1; cases u <;> rfl)
@[simp] theorem e_call (b : Bool) (f : Nat) (as : List Ex) : evE C (.call b f as) l S = (evEs C as l S).bd fun ds S1 => rfE b (C.pg.fn f C.bs ds S1) := by simp only [evE, bd_eq, bdS_eq]
@[simp] theorem e_tup (as : List Ex) : evE C (.tup as) l S = (evEs C as l S).bd fun ds S1 => .ok (.tup ds) S1 := by simp only [evE, bd_eq, bdS_eq]
@[simp] theorem e_lst (b : Bool) (as : List Ex) : evE C (.lst b as) l S = (evEs C as l S).bd fun ds S1 => mkF b (.lst ds) S1 := by simp only [evE, bd_eq, bdS_eq]
def dicD (b : Bool) (o : Option (List (Ky × D))) (S : Sto) : R D := match o with
  | some kvs => if kvs.length ≤ 15 then mkF b (.dK (mergeD [] kvs)) S else .stuck
  | none => .stuck
@[simp] theorem e_dic (b : Bool) (ks vs : List Ex) : evE C (.dic b ks vs) l S = (evEs C ks l S).bd fun ds S1 => dicD b (pairD ds) S1 := by
  simp only [evE, bd_eq, bdS_eq]
  rfl
@[simp] theorem e_dicT (b : Bool) : evE C (.dicT b) l S = mkF b (.dT []) S := by simp only [evE, bd_eq, bdS_eq]
@[simp] theorem e_idx (x i : Ex) : evE C (.idx x i) l S = (evE C x l S).bd fun u S1 => (evE C i l S1).bd fun v S2 => optR (idxD S2 u v) S2 := by simp only [evE, bd_eq, bdS_eq]
@[simp] theorem e_slc (b : Bool) (x : Ex) (lo hi : Option Ex) : evE C (.slc b x lo hi) l S = (evE C x l S).bd fun u S1 => (evO C lo l S1).bd fun p S2 => (evO C hi l S2).bd fun q S3 => slcD b u p q S3 := by simp only [evE, bd_eq, bdS_eq]
@[simp] theorem e_fld (x : Ex) (f : Nat) : evE C (.fld x f) l S = (evE C x l S).bd fun u S1 => optR (fldD S1 u f) S1 := by simp only [evE, bd_eq, bdS_eq]
@[simp] theorem e_exf (i f : Nat) : evE C (.exf i f) l S = optR (fget f C.hx) S := by simp only [evE, bd_eq, bdS_eq]
@[simp] theorem e_bf (b : Bool) (f : Bf) (as : List Ex) : evE C (.bf b f as) l S = (evEs C as l S).bd fun ds S1 => bfD b f ds S1 := by simp only [evE, bd_eq, bdS_eq]
def bmE (m : Bm) (b : Bool) (u : D) (r : R (List D)) : R D := r.bd fun ds S2 => bmD b m u ds S2
@[simp] theorem e_bm (b : Bool) (m : Bm) (x : Ex) (as : List Ex) : evE C (.bm b m x as) l S = (evE C x l S).bd fun u S1 => iteR (rcv m (EL.get S1 u)) ((evEs C as l S1).bd fun ds S2 => bmD b m u ds S2) .stuck := by
  simp only [evE, bd_eq, bdS_eq]
  congr 1
  funext u S1
  cases rcv m (EL.get S1 u) <;> rfl
def isLst : D → Bool
  | .lst _ => true
  | _ => false
@[simp] theorem e_mm (m : Mm) (x : Ex) (as : List Ex) : evE C (.mm m x as) l S = (evE C x l S).bd fun u S1 => iteR (isLst (EL.get S1 u)) ((evEs C as l S1).bd fun ds S2 => mmD C.bs m u ds S2) .stuck := by
  simp only [evE, bd_eq, bdS_eq]
  congr 1
  funext u S1
  cases EL.get S1 u <;> rfl
@[simp] theorem e_isi (x : Ex) (ts : List Ty) : evE C (.isi x ts) l S = (evE C x l S).bd fun u S1 => optR ((anyTy C.pg.sub (EL.get S1 u) ts).map .bl) S1 := by simp only [evE, bd_eq, bdS_eq]
@[simp] theorem e_comp (b : Bool) (tg : Tg) (how : Nat) (it : List Ex) (c : List Tx) (e : Ex) : evE C (.comp b tg how it c e) l S = (evEs C it l S).bd fun ds S1 => (compG tg (wipeL l (tgs tg)) (evTs C c) (evE C e) how ds fuel 0 [] S1).bd fun ys S2 => mkF b (.lst ys) S2 := by simp only [evE, bd_eq, bdS_eq]
@[simp] theorem t_v (x : Ex) : evT C (.v x) l S = (evE C x l S).bd fun u S1 => optT (truD S1 u) S1 := by
  simp only [evT, bd_eq, bdS_eq]
  unfold asT R.bind
  cases evE C x l S with
  | ok d S => simp only; cases truD S d <;> rfl
  | _ => rfl
@[simp] theorem t_b (x : Ex) : evT C (.b x) l S = asB (evE C x l S) := by simp only [evT, bd_eq, bdS_eq]
@[simp] theorem t_not (x : Tx) : evT C (.not x) l S = (evT C x l S).bd fun b S1 => .ok (!b) S1 := by simp only [evT, bd_eq, bdS_eq]
@[simp] theorem t_and (x y : Tx) : evT C (.and x y) l S = (evT C x l S).bd fun b S1 => iteR b (evT C y l S1) (.ok false S1) := by
  simp only [evT, bd_eq, bdS_eq]
  congr 1 <;> (funext u S1; cases u <;> rfl)
@[simp] theorem t_or (x y : Tx) : evT C (.or x y) l S = (evT C x l S).bd fun b S1 => iteR b (.ok true S1) (evT C y l S1) := by
  simp only [evT, bd_eq, bdS_eq]
  congr 1 <;> (funext u S1; cases u <;> rfl)
@[simp] theorem es_nil : evEs C [] l S = .ok [] S := by simp only [evEs, bd_eq, bdS_eq]
@[simp] theorem es_cons (e : Ex) (r : List Ex) : evEs C (e :: r) l S = (evE C e l S).bd fun d S1 => (evEs C r l S1).bd fun ds S2 => .ok (d :: ds) S2 := by simp only [evEs, bd_eq, bdS_eq]
@[simp] theorem o_none : evO C none l S = .ok none S := by simp only [evO, bd_eq, bdS_eq]
@[simp] theorem o_some (e : Ex) : evO C (some e) l S = (evE C e l S).bd fun d S1 => bI d fun i => .ok (some i) S1 := by
  simp only [evO, bd_eq, bdS_eq]
  congr 1 <;> (funext u S1; cases u <;> rfl)
@[simp] theorem ts_nil : evTs C [] l S = .ok true S := by simp only [evTs]
@[simp] theorem ts_one (c : Tx) : evTs C [c] l S = evT C c l S := by simp only [evTs]
@[simp] theorem s_asg (tg : Tg) (e : Ex) : evS C (.asg tg e) l S = bdS (evE C e l S) l fun d S1 => optL (bindT S1 tg d l) S1 := by
  simp only [evS, bd_eq, bdS_eq]
  rfl
@[simp] theorem s_par (is : List Nat) (es : List Ex) : evS C (.par is es) l S = bdS (evEs C es l S) l fun ds S1 => optL (bindTs S1 (is.map .v) ds l) S1 := by
  simp only [evS, bd_eq, bdS_eq]
  rfl
@[simp] theorem s_sub (o i e : Ex) : evS C (.sub o i e) l S = bdS (evE C e l S) l fun d S1 => bdS (evE C o l S1) l fun u S2 => bdS (evE C i l S2) l fun k S3 => optS (subD C.bs u k d S3) l := by simp only [evS, bd_eq, bdS_eq]
def slsO (bs : Nat) (u : D) (i j : Option Int) (d : D) (S : Sto) (l : Loc) : RS := match i, j with
  | some i, some j => optS (slsD bs u i j d S) l
  | _, _ => .stuck
@[simp] theorem slsO_ii (bs : Nat) (u : D) (i j : Int) (d : D) : slsO bs u (some i) (some j) d S l = optS (slsD bs u i j d S) l := id rfl
@[simp] theorem s_slcS (o a b e : Ex) : evS C (.slcS o a b e) l S = bdS (evE C e l S) l fun d S1 => bdS (evE C o l S1) l fun u S2 => bdS (evO C (some a) l S2) l fun i S3 => bdS (evO C (some b) l S3) l fun j S4 => slsO C.bs u i j d S4 l := by
  simp only [evS, bd_eq, bdS_eq]
  rfl
@[simp] theorem s_fldS (o : Ex) (f : Nat) (e : Ex) : evS C (.fldS o f e) l S = bdS (evE C e l S) l fun d S1 => bdS (evE C o l S1) l fun u S2 => optS (fldSD C.bs u f d S2) l := by simp only [evS, bd_eq, bdS_eq]
def augD (o : Op) (u d : D) (S : Sto) : R D := match u, d with
  | .int a, .int b => optR ((binI o a b).map .int) S
  | _, _ => .stuck
@[simp] theorem augD_ii (o : Op) (a b : Int) : augD o (.int a) (.int b) S = optR ((binI o a b).map .int) S := id rfl
@[simp] theorem s_aug (i : Nat) (o : Op) (e : Ex) : evS C (.aug i o e) l S = bdS (optV l[i]? S) l fun u S => bdS (evE C e l S) l fun d S1 => bdS (augD o u d S1) l fun v S2 => .nx (l.set i (some v)) S2 := by
  simp only [evS, bd_eq, bdS_eq]
  cases l[i]? with
  | none => rfl
  | some x => cases x <;> rfl
@[simp] theorem s_exp (e : Ex) : evS C (.exp e) l S = bdS (evE C e l S) l fun _ S1 => .nx l S1 := by simp only [evS, bd_eq, bdS_eq]
@[simp] theorem s_ifs (c : Tx) (a b : List Sm) : evS C (.ifs c a b) l S = bdS (evT C c l S) l fun k S1 => iteS k (evSs C a l S1) (evSs C b l S1) := by
  simp only [evS, bd_eq, bdS_eq]
  congr 1 <;> (funext k S1; cases k <;> rfl)
@[simp] theorem s_whl (c : Tx) (b : List Sm) : evS C (.whl c b) l S = loopW (evT C c) (evSs C b) fuel l S := by simp only [evS, bd_eq, bdS_eq]
@[simp] theorem s_for (tg : Tg) (how : Nat) (it : List Ex) (b : List Sm) : evS C (.for_ tg how it b) l S = bdS (evEs C it l S) l fun ds S1 => loopG tg (evSs C b) how ds fuel 0 l S1 := by simp only [evS, bd_eq, bdS_eq]
@[simp] theorem s_ret (e : Ex) : evS C (.ret e) l S = bdS (evE C e l S) l fun d S1 => .rt d S1 := by simp only [evS, bd_eq, bdS_eq]
@[simp] theorem s_retN : evS C .retN l S = .rt .non S := by simp only [evS, bd_eq, bdS_eq]
@[simp] theorem s_raise (c : Nat) (as : List Ex) : evS C (.raise c as) l S = bdS (evEs C as l S) l fun ds S1 => if ds.length = (C.pg.exf c).length then .ex c ((C.pg.exf c).zip ds) l S1 else .stuck := by simp only [evS, bd_eq, bdS_eq]
@[simp] theorem s_pass : evS C .pass l S = .nx l S := by simp only [evS, bd_eq, bdS_eq]
@[simp] theorem s_cont : evS C .cont l S = .ct l S := by simp only [evS, bd_eq, bdS_eq]
@[simp] theorem s_brk : evS C .brk l S = .bk l S := by simp only [evS, bd_eq, bdS_eq]
@[simp] theorem ss_nil : evSs C [] l S = .nx l S := by simp only [evSs]
@[simp] theorem ss_cons (s : Sm) (r : List Sm) : evSs C (s :: r) l S = seqS (evS C s l S) fun l1 S1 => evSs C r l1 S1 := by
  simp only [evSs]
  rfl
end
/-! ### functions -/
def fin (n0 : Nat) (keep : Bool) : RS → RF
  | .nx _ S1 => exitV n0 keep .non S1
  | .rt d S1 => exitV n0 keep d S1
  | .ex c fs _ S1 => exitX n0 keep c fs S1
  | _ => .stuck
theorem run_fin {pg : Pg} {f : Fd} {bs : Nat} {ds : List D} {S : Sto} (h : ds.length = f.np) : runF pg f bs ds S = fin S.length f.keep (evSs ⟨pg, if f.keep then bs else S.length, []⟩ f.body (ds.map some ++ List.replicate (f.nl - f.np) none) S) := by
  unfold runF
  rw [if_pos h]
  rfl
@[simp] theorem fin_nx (n : Nat) (k : Bool) (l : Loc) (S : Sto) : fin n k (.nx l S) = exitV n k .non S := id rfl
@[simp] theorem fin_rt (n : Nat) (k : Bool) (d : D) (S : Sto) : fin n k (.rt d S) = exitV n k d S := id rfl
@[simp] theorem fin_ex (n : Nat) (k : Bool) (c : Nat) (fs : Fds) (l : Loc) (S : Sto) : fin n k (.ex c fs l S) = exitX n k c fs S := id rfl
theorem fin_ite (n : Nat) (k : Bool) (b : Bool) (x y : RS) : fin n k (iteS b x y) = iteF b (fin n k x) (fin n k y) := by cases b <;> rfl
theorem iteF_bl (a b c : Bool) (S : Sto) : iteF a (.val (.bl b) S) (.val (.bl c) S) = .val (.bl (bif a then b else c)) S := by cases a <;> rfl
theorem iteF_val (a : Bool) (b c : D) (S : Sto) : iteF a (.val b S) (.val c S) = .val (bif a then b else c) S := by cases a <;> rfl
@[simp] theorem rfE_val (b : Bool) (d : D) (S : Sto) : rfE b (.val d S) = .ok d S := id rfl
@[simp] theorem rfE_fresh (b : Bool) (d : D) (S : Sto) : rfE b (.fresh d S) = mkF b d S := id rfl
@[simp] theorem rfE_ex (b : Bool) (c : Nat) (fs : Fds) (S : Sto) : rfE b (.ex c fs S) = .ex c fs S := id rfl
@[simp] theorem mkF_t (c : D) (S : Sto) : mkF true c S = .ok (.cell S.length) (S ++ [c]) := id rfl
@[simp] theorem mkF_f (c : D) (S : Sto) : mkF false c S = .ok c S := id rfl
mutual
theorem resW_nc (n : Nat) (f : Nat → Option D) : ∀ d : D, nc d = true → resW n f d = some d
  | .non, _ => rfl
  | .bl _, _ => rfl
  | .int _, _ => rfl
  | .str _, _ => rfl
  | .tup xs, h => by
    have := resWs_nc n f xs h
    unfold resW
    rw [this]; rfl
  | .lst xs, h => by
    have := resWs_nc n f xs h
    unfold resW
    rw [this]; rfl
  | .scr xs, h => by
    have := resWs_nc n f xs h
    unfold resW
    rw [this]; rfl
  | .dK xs, h => by
    have := resWK_nc n f xs h
    unfold resW
    rw [this]; rfl
  | .dT xs, h => by
    have := resWT_nc n f xs h
    unfold resW
    rw [this]; rfl
  | .obj c xs, h => by
    have := resWF_nc n f xs h
    unfold resW
    rw [this]; rfl
  | .cell _, h => by cases h
theorem resWs_nc (n : Nat) (f : Nat → Option D) : ∀ d : List D, ncs d = true → resWs n f d = some d
  | [], _ => rfl
  | d :: r, h => by
    have h' : (nc d && ncs r) = true := h
    rw [Bool.and_eq_true] at h'
    unfold resWs
    rw [resW_nc n f d h'.1, resWs_nc n f r h'.2]
theorem resWK_nc (n : Nat) (f : Nat → Option D) : ∀ d : List (Ky × D), ncK d = true → resWK n f d = some d
  | [], _ => rfl
  | (k, d) :: r, h => by
    have h' : (nc d && ncK r) = true := h
    rw [Bool.and_eq_true] at h'
    unfold resWK
    rw [resW_nc n f d h'.1, resWK_nc n f r h'.2]
theorem resWT_nc (n : Nat) (f : Nat → Option D) : ∀ d : List (List Ky × D), ncT d = true → resWT n f d = some d
  | [], _ => rfl
  | (k, d) :: r, h => by
    have h' : (nc d && ncT r) = true := h
    rw [Bool.and_eq_true] at h'
    unfold resWT
    rw [resW_nc n f d h'.1, resWT_nc n f r h'.2]
theorem resWF_nc (n : Nat) (f : Nat → Option D) : ∀ d : List (Nat × D), ncF d = true → resWF n f d = some d
  | [], _ => rfl
  | (k, d) :: r, h => by
    have h' : (nc d && ncF r) = true := h
    rw [Bool.and_eq_true] at h'
    unfold resWF
    rw [resW_nc n f d h'.1, resWF_nc n f r h'.2]
end
theorem res_nc {n : Nat} {S : Sto} {h : Nat} {d : D} (e : nc d = true) : res n S h d = some d := by
  cases h <;> exact resW_nc _ _ d e
/-- data without cells goes out as it is -/
theorem exit_nc {n : Nat} {S : Sto} {d : D} (e : nc d = true) : exitV n false d S = .val d (S.take n) := by
  unfold exitV
  rw [if_neg (by decide)]
  cases d with
  | cell m => cases e
  | _ => dsimp only; rw [res_nc e]
@[simp] theorem exit_non (n : Nat) (S : Sto) : exitV n false .non S = .val .non (S.take n) := exit_nc rfl
@[simp] theorem exit_bl (n : Nat) (S : Sto) (b : Bool) : exitV n false (.bl b) S = .val (.bl b) (S.take n) := exit_nc rfl
@[simp] theorem exit_int (n : Nat) (S : Sto) (b : Int) : exitV n false (.int b) S = .val (.int b) (S.take n) := exit_nc rfl
@[simp] theorem exit_str (n : Nat) (S : Sto) (b : List Nat) : exitV n false (.str b) S = .val (.str b) (S.take n) := exit_nc rfl
theorem exit_old {n m : Nat} {S : Sto} (h : m < n) : exitV n false (.cell m) S = .val (.cell m) (S.take n) := by
  unfold exitV
  rw [if_neg (by decide)]
  dsimp only
  rw [if_pos h]
/-- a new cell goes out as data -/
theorem exit_new {n m : Nat} {S : Sto} {c : D} (h : n ≤ m) (hc : S[m]? = some c) (hi : isCont c = true) (e : nc c = true) : exitV n false (.cell m) S = .fresh c (S.take n) := by
  unfold exitV
  rw [if_neg (by decide)]
  dsimp only
  rw [if_neg (by omega), hc]
  dsimp only
  rw [if_pos hi, res_nc e]
theorem exitX_nc {n c : Nat} {fs : Fds} {S : Sto} (e : ncF fs = true) : exitX n false c fs S = .ex c fs (S.take n) := by
  unfold exitX
  rw [if_neg (by decide), resWF_nc _ _ fs e]
/-! ### weakest preconditions -/
def wpR {α : Type} (r : R α) (Q : α → Sto → Prop) (X : Nat → Fds → Sto → Prop) (_ : Ph Q X := ()) : Prop := match r with
  | .ok a S => Q a S
  | .ex c fs S => X c fs S
  | .stuck => False
def wB (d : D) (P : Bool → Prop) : Prop := match d with
  | .bl b => P b
  | _ => False
@[simp] theorem wB_bl (b : Bool) (P : Bool → Prop) : wB (.bl b) P = P b := id rfl
structure KS where
  nx : Loc → Sto → Prop
  rt : D → Sto → Prop
  bk : Loc → Sto → Prop
  ct : Loc → Sto → Prop
  ex : Nat → Fds → Loc → Sto → Prop
def wpS (r : RS) (K : KS) (_ : Ph K K := ()) : Prop := match r with
  | .nx l S => K.nx l S
  | .rt d S => K.rt d S
  | .bk l S => K.bk l S
  | .ct l S => K.ct l S
  | .ex c fs l S => K.ex c fs l S
  | .stuck => False
/-- of a function's end: f: the value is a new one -/
def wpF (r : RF) (Q : Bool → D → Sto → Prop) (X : Nat → Fds → Sto → Prop) (_ : Ph Q X := ()) : Prop := match r with
  | .val d S => Q false d S
  | .fresh d S => Q true d S
  | .ex c fs S => X c fs S
  | .stuck => False
def Br (b : Bool) (P Q : Prop) (_ : Ph P Q := ()) : Prop := (b = true → P) ∧ (b = false → Q)
@[simp] theorem Br_t (P Q : Prop) : Br true P Q = P := propext ⟨fun h => h.1 rfl, fun h => ⟨fun _ => h, fun e => by cases e⟩⟩
@[simp] theorem Br_f (P Q : Prop) : Br false P Q = Q := propext ⟨fun h => h.2 rfl, fun h => ⟨(fun e => by cases e), fun _ => h⟩⟩
theorem Br.mk {b : Bool} {P Q : Prop} (h1 : b = true → P) (h2 : b = false → Q) : Br b P Q := ⟨h1, h2⟩
section
variable {α β : Type} (Q : α → Sto → Prop) (Q' : β → Sto → Prop) (X : Nat → Fds → Sto → Prop) (K : KS) (S : Sto) (l : Loc)
@[simp] theorem w_ok (a : α) : wpR (.ok a S) Q X = Q a S := id rfl
@[simp] theorem w_ex (c : Nat) (fs : Fds) : wpR (.ex c fs S : R α) Q X = X c fs S := id rfl
@[simp] theorem w_stuck : wpR (.stuck : R α) Q X = False := id rfl
@[simp] theorem w_bind (r : R α) (k : α → Sto → R β) : wpR (r.bd k) Q' X = wpR r (fun a S => wpR (k a S) Q' X) X := by cases r <;> rfl
@[simp] theorem w_iteR (b : Bool) (x y : R α) : wpR (iteR b x y) Q X = Br b (wpR x Q X) (wpR y Q X) := by cases b <;> simp
@[simp] theorem w_asB (r : R D) (Q : Bool → Sto → Prop) : wpR (asB r) Q X = wpR r (fun d S => wB d fun b => Q b S) X := by
  cases r with
  | ok d S => cases d <;> simp [asB, wpR, wB]
  | _ => simp [asB, wpR]
@[simp] theorem ws_nx : wpS (.nx l S) K = K.nx l S := id rfl
@[simp] theorem ws_rt (d : D) : wpS (.rt d S) K = K.rt d S := id rfl
@[simp] theorem ws_bk : wpS (.bk l S) K = K.bk l S := id rfl
@[simp] theorem ws_ct : wpS (.ct l S) K = K.ct l S := id rfl
@[simp] theorem ws_ex (c : Nat) (fs : Fds) : wpS (.ex c fs l S) K = K.ex c fs l S := id rfl
@[simp] theorem ws_seq (r : RS) (k : Loc → Sto → RS) : wpS (seqS r k) K = wpS r { K with nx := fun l S => wpS (k l S) K } := by cases r <;> rfl
@[simp] theorem ws_bind (r : R α) (k : α → Sto → RS) : wpS (bdS r l k) K = wpR r (fun a S => wpS (k a S) K) (fun c fs S => K.ex c fs l S) := by cases r <;> rfl
@[simp] theorem ws_ite (b : Bool) (x y : RS) : wpS (iteS b x y) K = Br b (wpS x K) (wpS y K) := by cases b <;> simp
end
@[simp] theorem wf_val (d : D) (S : Sto) (Q : Bool → D → Sto → Prop) (X : Nat → Fds → Sto → Prop) : wpF (.val d S) Q X = Q false d S := id rfl
@[simp] theorem wf_fresh (d : D) (S : Sto) (Q : Bool → D → Sto → Prop) (X : Nat → Fds → Sto → Prop) : wpF (.fresh d S) Q X = Q true d S := id rfl
@[simp] theorem wf_ex (c : Nat) (fs : Fds) (S : Sto) (Q : Bool → D → Sto → Prop) (X : Nat → Fds → Sto → Prop) : wpF (.ex c fs S) Q X = X c fs S := id rfl
@[simp] theorem wf_fin (n : Nat) (k : Bool) (r : RS) (Q : Bool → D → Sto → Prop) (X : Nat → Fds → Sto → Prop) : wpF (fin n k r) Q X = wpS r ⟨fun _ S1 => wpF (exitV n k .non S1) Q X, fun d S1 => wpF (exitV n k d S1) Q X, fun _ _ => False, fun _ _ => False, fun c fs _ S1 => wpF (exitX n k c fs S1) Q X⟩ := by cases r <;> rfl
/-- a function that tells a value; a new one -/
def Ret (r : RF) (P : D → Sto → Prop) : Prop := wpF r (fun f d S => f = false ∧ P d S) fun _ _ _ => False
def Fre (r : RF) (P : D → Sto → Prop) : Prop := wpF r (fun f d S => f = true ∧ P d S) fun _ _ _ => False
theorem Ret.call {r : RF} {P : D → Sto → Prop} {b : Bool} {Q : D → Sto → Prop} {X : Nat → Fds → Sto → Prop} (h : Ret r P) (k : ∀ d S, P d S → Q d S) : wpR (rfE b r) Q X := by
  cases r with
  | val d S => exact k d S h.2
  | fresh d S => cases h.1
  | ex c fs S => exact h.elim
  | stuck => exact h.elim
theorem Fre.call {r : RF} {P : D → Sto → Prop} {b : Bool} {Q : D → Sto → Prop} {X : Nat → Fds → Sto → Prop} (h : Fre r P) (k : ∀ d S, P d S → wpR (mkF b d S) Q X) : wpR (rfE b r) Q X := by
  cases r with
  | val d S => cases h.1
  | fresh d S => exact k d S h.2
  | ex c fs S => exact h.elim
  | stuck => exact h.elim
theorem Ret.eq {r : RF} {P : D → Sto → Prop} (h : Ret r P) : ∃ d S, r = .val d S ∧ P d S := by
  cases r with
  | val d S => exact ⟨d, S, rfl, h.2⟩
  | fresh d S => cases h.1
  | ex c fs S => exact h.elim
  | stuck => exact h.elim
theorem Fre.eq {r : RF} {P : D → Sto → Prop} (h : Fre r P) : ∃ d S, r = .fresh d S ∧ P d S := by
  cases r with
  | fresh d S => exact ⟨d, S, rfl, h.2⟩
  | val d S => cases h.1
  | ex c fs S => exact h.elim
  | stuck => exact h.elim
theorem wpR.mono {α : Type} {r : R α} {P Q : α → Sto → Prop} {X : Nat → Fds → Sto → Prop} (h : wpR r P X) (k : ∀ d S, P d S → Q d S) : wpR r Q X := by
  cases r with
  | ok a S => exact k a S h
  | ex c fs S => exact h
  | stuck => exact h
theorem wpR.eq {α : Type} {r : R α} {P : α → Sto → Prop} (h : wpR r P fun _ _ _ => False) : ∃ d S, r = .ok d S ∧ P d S := by
  cases r with
  | ok a S => exact ⟨a, S, rfl, h⟩
  | ex c fs S => exact h.elim
  | stuck => exact h.elim
def wpL (o : Option Loc) (P : Loc → Prop) : Prop := match o with
  | some l => P l
  | none => False
@[simp] theorem wpL_some (l : Loc) (P : Loc → Prop) : wpL (some l) P = P l := id rfl
theorem wpL.eq {o : Option Loc} {P : Loc → Prop} (h : wpL o P) : ∃ l, o = some l ∧ P l := by
  cases o with
  | none => cases h
  | some l => exact ⟨l, rfl, h⟩
@[simp] theorem tgs_v (i : Nat) : tgs (.v i) = [i] := id rfl
@[simp] theorem tgs_t (ts : List Tg) : tgs (.t ts) = tgss ts := id rfl
@[simp] theorem tgss_nil : tgss [] = [] := id rfl
@[simp] theorem tgss_cons (t : Tg) (ts : List Tg) : tgss (t :: ts) = tgs t ++ tgss ts := id rfl
@[simp] theorem wipe_nil (l : Loc) : wipeL l [] = l := id rfl
@[simp] theorem wipe_cons (l : Loc) (i : Nat) (r : List Nat) : wipeL l (i :: r) = (wipeL l r).set i none := id rfl
/-! ### loops -/
theorem comp_wp {tg : Tg} {l : Loc} {c : Loc → Sto → R Bool} {e : Loc → Sto → R D} {how : Nat} {ds : List D} {S : Sto} {Q : List D → Sto → Prop} {X : Nat → Fds → Sto → Prop} (items : List D) (I : Nat → List D → Sto → Prop) (hl : items.length < 1000000)
    (hi : ∀ i acc S, I i acc S → itemD how ds S i = some items[i]?) (h0 : I 0 [] S)
    (step : ∀ i x acc S, items[i]? = some x → I i acc S → wpL (bindT S tg x l) fun l2 => wpR (c l2 S) (fun b S1 => Br b (wpR (e l2 S1) (fun d S2 => acc.length < big ∧ I (i + 1) (acc ++ [d]) S2) fun _ _ _ => False) (I (i + 1) acc S1)) fun _ _ _ => False)
    (hend : ∀ acc S, I items.length acc S → Q acc S) : wpR (compG tg l c e how ds fuel 0 [] S) Q X := by
  obtain ⟨S', acc', h1, h2⟩ := compG_ok (tg := tg) (l := l) (c := c) (e := e) (how := how) (ds := ds) items.length (fun i => items.getD i .non) (fun i S acc => I i acc S)
    (fun i S acc hl p => by
      rw [hi i acc S p, List.getD_eq_getElem?_getD, List.getElem?_eq_getElem hl]
      rfl)
    (fun S acc p => by rw [hi _ acc S p, List.getElem?_eq_none (Nat.le_refl _)])
    (fun i S acc hl p => by
      obtain ⟨l2, e1, h1⟩ := (step i items[i] acc S (List.getElem?_eq_getElem hl) p).eq
      refine ⟨l2, by rw [List.getD_eq_getElem?_getD, List.getElem?_eq_getElem hl]; exact e1, ?_⟩
      obtain ⟨b, S1, e2, h2⟩ := h1.eq
      cases b with
      | false => exact .inl ⟨S1, e2, h2.2 rfl⟩
      | true =>
        obtain ⟨d, S2, e3, h3, h4⟩ := (h2.1 rfl).eq
        exact .inr ⟨S1, d, S2, e2, e3, h3, h4⟩) fuel 0 S [] (Nat.zero_le _) (by unfold fuel; omega) h0
  rw [h1]
  exact hend _ _ h2
/-- a list made of each item by itself -/
theorem comp_map {tg : Tg} {l : Loc} {c : Loc → Sto → R Bool} {e : Loc → Sto → R D} {how : Nat} {ds : List D} {S : Sto} (items : List D) (p : D → Bool) (g : D → D) (hl : items.length ≤ 100000)
    (hi : ∀ i, itemD how ds S i = some items[i]?)
    (step : ∀ x, x ∈ items → ∃ l2, bindT S tg x l = some l2 ∧ c l2 S = .ok (p x) S ∧ (p x = true → e l2 S = .ok (g x) S)) : compG tg l c e how ds fuel 0 [] S = .ok ((items.filter p).map g) S := by
  have := comp_wp (tg := tg) (l := l) (c := c) (e := e) (how := how) (ds := ds) (S := S) (Q := fun acc S' => S' = S ∧ acc = (items.filter p).map g) (X := fun _ _ _ => False) items (fun i acc S' => S' = S ∧ acc = ((items.take i).filter p).map g) (by omega)
    (fun i acc S' q => by rw [q.1]; exact hi i) ⟨rfl, rfl⟩
    (fun i x acc S' hx q => by
      obtain ⟨q1, q2⟩ := q
      subst q1
      obtain ⟨l2, h1, h2, h3⟩ := step x (List.mem_of_getElem? hx)
      rw [h1, wpL_some, h2]
      have hlt : i < items.length := (List.getElem?_eq_some_iff.mp hx).1
      have et : items.take (i + 1) = items.take i ++ [x] := by
        rw [List.take_succ, hx]; rfl
      refine Br.mk (fun hp => ?_) (fun hp => ?_)
      · rw [h3 hp]
        refine ⟨?_, rfl, ?_⟩
        · rw [q2, List.length_map]
          have : ((items.take i).filter p).length ≤ (items.take i).length := List.length_filter_le _ _
          rw [List.length_take] at this
          show _ < 100000
          omega
        · rw [q2, et, List.filter_append, List.map_append]
          simp [hp]
      · refine ⟨rfl, ?_⟩
        rw [q2, et, List.filter_append]
        simp [hp])
    (fun acc S' q => by
      rw [List.take_length] at q
      exact q)
  obtain ⟨d, S', h1, h2, h3⟩ := this.eq
  rw [h1, h2, h3]
theorem comp_map1 {tg : Tg} {l : Loc} {c : Loc → Sto → R Bool} {e : Loc → Sto → R D} {how : Nat} {ds : List D} {S : Sto} (items : List D) (g : D → D) (hl : items.length ≤ 100000)
    (hi : ∀ i, itemD how ds S i = some items[i]?)
    (step : ∀ x, x ∈ items → ∃ l2, bindT S tg x l = some l2 ∧ c l2 S = .ok true S ∧ e l2 S = .ok (g x) S) : compG tg l c e how ds fuel 0 [] S = .ok (items.map g) S := by
  rw [comp_map items (fun _ => true) g hl hi (fun x hx => by
    obtain ⟨l2, h1, h2, h3⟩ := step x hx
    exact ⟨l2, h1, h2, fun _ => h3⟩)]
  rw [List.filter_eq_self.mpr (fun _ _ => rfl)]
theorem loop_wp {tg : Tg} {b : Loc → Sto → RS} {how : Nat} {ds : List D} {K : KS} (items : List D) (I : Nat → Loc → Sto → Prop) (hl : items.length < 1000000)
    (hi : ∀ i l S, I i l S → itemD how ds S i = some items[i]?)
    (step : ∀ i x l S, items[i]? = some x → I i l S → wpL (bindT S tg x l) fun l2 => wpS (b l2 S) ⟨I (i + 1), K.rt, K.nx, I (i + 1), K.ex⟩)
    (hend : ∀ l S, I items.length l S → K.nx l S) {l : Loc} {S : Sto} (h0 : I 0 l S) : wpS (loopG tg b how ds fuel 0 l S) K := by
  have core : ∀ h i l S, i ≤ items.length → items.length - i < h → I i l S → wpS (loopG tg b how ds h i l S) K := by
    intro h
    induction h with
    | zero => intro i l S _ h2 _; omega
    | succ h ih =>
      intro i l S h1 h2 p
      unfold loopG
      rw [hi i l S p]
      by_cases hlt : i < items.length
      · rw [List.getElem?_eq_getElem hlt]
        obtain ⟨l2, e1, q⟩ := (step i _ l S (List.getElem?_eq_getElem hlt) p).eq
        dsimp only
        rw [e1]
        dsimp only
        revert q
        cases b l2 S with
        | nx l3 S3 => intro q; exact ih (i + 1) l3 S3 hlt (by omega) q
        | ct l3 S3 => intro q; exact ih (i + 1) l3 S3 hlt (by omega) q
        | bk l3 S3 => intro q; exact q
        | rt d S3 => intro q; exact q
        | ex c fs l3 S3 => intro q; exact q
        | stuck => intro q; exact q
      · have e : i = items.length := by omega
        subst e
        rw [List.getElem?_eq_none (Nat.le_refl _)]
        exact hend l S p
  exact core fuel 0 l S (Nat.zero_le _) (by unfold fuel; omega) h0
theorem whl_wp {c : Loc → Sto → R Bool} {b : Loc → Sto → RS} {K : KS} (I : Nat → Loc → Sto → Prop)
    (step : ∀ m l S, I m l S → wpR (c l S) (fun t S1 => Br t (wpS (b l S1) ⟨fun l S => ∃ m', m' < m ∧ I m' l S, K.rt, K.nx, fun l S => ∃ m', m' < m ∧ I m' l S, K.ex⟩) (K.nx l S1)) fun c fs S1 => K.ex c fs l S1)
    {m : Nat} {l : Loc} {S : Sto} (hm : m < 1000000) (h0 : I m l S) : wpS (loopW c b fuel l S) K := by
  have core : ∀ h m l S, m < h → I m l S → wpS (loopW c b h l S) K := by
    intro h
    induction h with
    | zero => intro m l S h2 _; omega
    | succ h ih =>
      intro m l S h2 p
      unfold loopW
      have q := step m l S p
      revert q
      cases c l S with
      | stuck => intro q; exact q
      | ex c fs S1 => intro q; exact q
      | ok t S1 =>
        cases t with
        | false => intro q; simpa using q
        | true =>
          intro q
          have q' : wpS (b l S1) ⟨fun l S => ∃ m', m' < m ∧ I m' l S, K.rt, K.nx, fun l S => ∃ m', m' < m ∧ I m' l S, K.ex⟩ := by simpa using q
          dsimp only
          revert q'
          cases b l S1 with
          | nx l3 S3 => intro q; obtain ⟨m', q1, q2⟩ := q; exact ih m' l3 S3 (by omega) q2
          | ct l3 S3 => intro q; obtain ⟨m', q1, q2⟩ := q; exact ih m' l3 S3 (by omega) q2
          | bk l3 S3 => intro q; exact q
          | rt d S3 => intro q; exact q
          | ex c fs l3 S3 => intro q; exact q
          | stuck => intro q; exact q
  exact core fuel m l S (by rw [fuel_eq]; exact hm) h0
/-! ### items -/
theorem it_lst {xs : List D} {S : Sto} {i : Nat} {x : D} (h : EL.get S x = .lst xs) : itemD 0 [x] S i = some xs[i]? := by
  show item0 [x] S i = _
  simp only [item0, h]
theorem it_tup {xs : List D} {S : Sto} {i : Nat} {x : D} (h : EL.get S x = .tup xs) : itemD 0 [x] S i = some xs[i]? := by
  show item0 [x] S i = _
  simp only [item0, h]
def sgs (x : List Nat) : List D := x.map fun c => .str [c]
theorem it_str {x : List Nat} {S : Sto} {i : Nat} : itemD 0 [.str x] S i = some (sgs x)[i]? := by
  show some _ = _
  unfold sgs
  rw [List.getElem?_map]
def rng (a : Int) (n : Nat) : List D := (List.range n).map fun i : Nat => .int (a + i)
theorem it_rng {n : Int} {S : Sto} {i : Nat} (h : -1000000000 < n ∧ n < 1000000000) : itemD 1 [.int n] S i = some (rng 0 n.toNat)[i]? := by
  rw [item_range h]
  unfold rng
  by_cases q : i < n.toNat
  · rw [if_pos q, List.getElem?_map, List.getElem?_range q]
    simp
  · rw [if_neg q, List.getElem?_eq_none (by simpa using q)]
theorem it_rng2 {a b : Int} {S : Sto} {i : Nat} (h : (-1000000000 < a ∧ a < 1000000000) ∧ -1000000000 < b ∧ b < 1000000000) : itemD 2 [.int a, .int b] S i = some (rng a (b - a).toNat)[i]? := by
  have e : itemD 2 [.int a, .int b] S i = some (if i < (b - a).toNat then some (.int (a + i)) else none) := if_pos h
  rw [e]
  unfold rng
  by_cases q : i < (b - a).toNat
  · rw [if_pos q, List.getElem?_map, List.getElem?_range q]
    simp
  · rw [if_neg q, List.getElem?_eq_none (by simpa using q)]
theorem rng_len (a : Int) (n : Nat) : (rng a n).length = n := by simp [rng]
theorem rng_at {a : Int} {n i : Nat} {x : D} (h : (rng a n)[i]? = some x) : x = .int (a + i) ∧ i < n := by
  unfold rng at h
  rw [List.getElem?_map] at h
  by_cases q : i < n
  · rw [List.getElem?_range q] at h
    exact ⟨by simpa using h.symm, q⟩
  · rw [List.getElem?_eq_none (by simpa using q)] at h
    cases h
theorem rng_mem {a : Int} {n : Nat} {x : D} (h : x ∈ rng a n) : ∃ i : Nat, i < n ∧ x = .int (a + i) := by
  unfold rng at h
  obtain ⟨i, h1, h2⟩ := List.mem_map.mp h
  exact ⟨i, List.mem_range.mp h1, h2.symm⟩
/-! ### the store -/
@[simp] theorem gt_cell (S : Sto) (n : Nat) : EL.get S (.cell n) = S[n]?.getD .non := by
  show S.getD n .non = _
  rw [List.getD_eq_getElem?_getD]
@[simp] theorem gt_int (S : Sto) (n : Int) : EL.get S (.int n) = .int n := id rfl
@[simp] theorem gt_bl (S : Sto) (n : Bool) : EL.get S (.bl n) = .bl n := id rfl
@[simp] theorem gt_str (S : Sto) (n : List Nat) : EL.get S (.str n) = .str n := id rfl
@[simp] theorem gt_non (S : Sto) : EL.get S .non = .non := id rfl
@[simp] theorem gt_lst (S : Sto) (n : List D) : EL.get S (.lst n) = .lst n := id rfl
@[simp] theorem gt_tup (S : Sto) (n : List D) : EL.get S (.tup n) = .tup n := id rfl
@[simp] theorem gt_scr (S : Sto) (n : List D) : EL.get S (.scr n) = .scr n := id rfl
@[simp] theorem gt_dK (S : Sto) (n : List (Ky × D)) : EL.get S (.dK n) = .dK n := id rfl
@[simp] theorem gt_obj (S : Sto) (c : Nat) (n : Fds) : EL.get S (.obj c n) = .obj c n := id rfl
@[simp] theorem app_get0 {A : Sto} {B : Sto} : (A ++ B)[A.length]? = B[0]? := by
  rw [List.getElem?_append_right (Nat.le_refl _), Nat.sub_self]
@[simp] theorem app_get0s {A : Sto} {p : Nat} {v : D} {B : Sto} : (A.set p v ++ B)[A.length]? = B[0]? := by
  have := app_get0 (A := A.set p v) (B := B)
  rwa [List.length_set] at this
@[simp] theorem app_getk {A : Sto} {B : Sto} {j : Nat} : (A ++ B)[A.length + j]? = B[j]? := by
  rw [List.getElem?_append_right (Nat.le_add_right _ _), Nat.add_sub_cancel_left]
@[simp] theorem app_getks {A : Sto} {p : Nat} {v : D} {B : Sto} {j : Nat} : (A.set p v ++ B)[A.length + j]? = B[j]? := by
  have := app_getk (A := A.set p v) (B := B) (j := j)
  rwa [List.length_set] at this
theorem app_setp {A B : Sto} {p : Nat} {v : D} (h : p < A.length) : (A ++ B).set p v = A.set p v ++ B := List.set_append_left _ _ h
@[simp] theorem app_set0 {A B : Sto} {v : D} : (A ++ B).set A.length v = A ++ B.set 0 v := by
  rw [List.set_append_right _ _ (Nat.le_refl _), Nat.sub_self]
@[simp] theorem app_set0s {A B : Sto} {p : Nat} {w v : D} : (A.set p w ++ B).set A.length v = A.set p w ++ B.set 0 v := by
  have := app_set0 (A := A.set p w) (B := B) (v := v)
  rwa [List.length_set] at this
@[simp] theorem app_setk {A B : Sto} {j : Nat} {v : D} : (A ++ B).set (A.length + j) v = A ++ B.set j v := by
  rw [List.set_append_right _ _ (Nat.le_add_right _ _), Nat.add_sub_cancel_left]
@[simp] theorem app_setks {A B : Sto} {p j : Nat} {w v : D} : (A.set p w ++ B).set (A.length + j) v = A.set p w ++ B.set j v := by
  have := app_setk (A := A.set p w) (B := B) (j := j) (v := v)
  rwa [List.length_set] at this
@[simp] theorem app_take {A B : Sto} : (A ++ B).take A.length = A := by simp
@[simp] theorem app_takes {A B : Sto} {p : Nat} {w : D} : (A.set p w ++ B).take A.length = A.set p w := by
  have := app_take (A := A.set p w) (B := B)
  rwa [List.length_set] at this
@[simp] theorem take_sets {A : Sto} {p : Nat} {w : D} : (A.set p w).take A.length = A.set p w := List.take_of_length_le (by simp)
/-! ### operators -/
@[simp] theorem bin_add (b : Bool) (i j : Int) (S : Sto) : binD b .add (.int i) (.int j) S = .ok (.int (i + j)) S := id rfl
@[simp] theorem bin_sub (b : Bool) (i j : Int) (S : Sto) : binD b .sub (.int i) (.int j) S = .ok (.int (i - j)) S := id rfl
@[simp] theorem bin_mul {b : Bool} {i j : Int} {S : Sto} (h : i.natAbs < 18446744073709551616 ∨ j.natAbs < 18446744073709551616) : binD b .mul (.int i) (.int j) S = .ok (.int (i * j)) S := by
  have m : mulOk i j = true := by
    unfold mulOk
    rw [Bool.or_eq_true, decide_eq_true_eq, decide_eq_true_eq]
    exact h
  simp [binD, binI, m]
@[simp] theorem bin_mod {b : Bool} {i j : Int} {S : Sto} (h : 0 < j) : binD b .mod (.int i) (.int j) S = .ok (.int (i % j)) S := by simp [binD, binI, h]
@[simp] theorem bin_fdiv {b : Bool} {i j : Int} {S : Sto} (h : 0 < j) (h2 : j < 1000000000000000000000000000000) : binD b .fdiv (.int i) (.int j) S = .ok (.int (i / j)) S := by simp [binD, binI, h, h2]
@[simp] theorem bin_cat {b : Bool} {i j : List Nat} {S : Sto} (h : i.length + j.length ≤ 100000) : binD b .add (.str i) (.str j) S = .ok (.str (i ++ j)) S := by
  show (if i.length + j.length ≤ big then _ else _) = _
  rw [if_pos (show _ ≤ big from h)]
@[simp] theorem cmp_lt (S : Sto) (i j : Int) : cmpD .lt S (.int i) (.int j) = some (decide (i < j)) := id rfl
@[simp] theorem cmp_le (S : Sto) (i j : Int) : cmpD .le S (.int i) (.int j) = some (decide (i ≤ j)) := id rfl
@[simp] theorem cmp_gt (S : Sto) (i j : Int) : cmpD .gt S (.int i) (.int j) = some (decide (j < i)) := id rfl
@[simp] theorem cmp_ge (S : Sto) (i j : Int) : cmpD .ge S (.int i) (.int j) = some (decide (j ≤ i)) := id rfl
@[simp] theorem cmp_eq_int (S : Sto) (i j : Int) : cmpD .eq S (.int i) (.int j) = some (decide (i = j)) := id rfl
@[simp] theorem cmp_ne_int (S : Sto) (i j : Int) : cmpD .ne S (.int i) (.int j) = some (!decide (i = j)) := id rfl
@[simp] theorem cmp_eq_str (S : Sto) (i j : List Nat) : cmpD .eq S (.str i) (.str j) = some (decide (i = j)) := id rfl
@[simp] theorem cmp_ne_str (S : Sto) (i j : List Nat) : cmpD .ne S (.str i) (.str j) = some (!decide (i = j)) := id rfl
@[simp] theorem map_bl (b : Bool) : Option.map D.bl (some b) = some (.bl b) := id rfl
@[simp] theorem bT_v (S : Sto) (i : Nat) (d : D) (l : Loc) : bindT S (.v i) d l = some (l.set i (some d)) := by simp [bindT]
theorem idx_lst {S : Sto} {x : D} {xs : List D} {i : Int} (h : EL.get S x = .lst xs) (h0 : 0 ≤ i) (h1 : i < xs.length) : idxD S x (.int i) = some (xs[i.toNat]'(by omega)) := by
  unfold idxD
  rw [h]
  dsimp only
  unfold ix
  rw [if_pos h0, if_pos h1]
  exact List.getElem?_eq_getElem (by omega)
theorem idx_str {S : Sto} {x : List Nat} {i : Int} (hb : x.length ≤ 100000) (h0 : 0 ≤ i) (h1 : i < x.length) : idxD S (.str x) (.int i) = some (.str [x[i.toNat]'(by omega)]) := by
  unfold idxD
  show (if x.length ≤ big then _ else _) = _
  rw [if_pos (show _ ≤ big from hb)]
  unfold ix
  rw [if_pos h0, if_pos h1]
  show ((x[i.toNat]?).map fun c => D.str [c]) = _
  rw [List.getElem?_eq_getElem (by omega)]
  rfl
/-! ### builtin functions -/
def lenG : D → Option Nat
  | .lst xs => some xs.length
  | .scr xs => some xs.length
  | .tup xs => some xs.length
  | .str x => if x.length ≤ big then some x.length else none
  | .dK kvs => some kvs.length
  | _ => none
def lenI (o : Option Nat) (S : Sto) : R D := match o with
  | some n => .ok (.int n) S
  | none => .stuck
@[simp] theorem lenI_some (n : Nat) (S : Sto) : lenI (some n) S = .ok (.int n) S := id rfl
@[simp] theorem b_len (b : Bool) (x : D) (S : Sto) : bfD b .len [x] S = lenI (lenG (EL.get S x)) S := by
  show optR ((lenD S x).map fun n => .int n) S = _
  unfold lenD lenG lenI optR
  cases EL.get S x <;> first | rfl | (rename_i x; by_cases h : x.length ≤ big <;> simp [h])
@[simp] theorem lenG_lst (xs : List D) : lenG (.lst xs) = some xs.length := id rfl
@[simp] theorem lenG_scr (xs : List D) : lenG (.scr xs) = some xs.length := id rfl
@[simp] theorem lenG_tup (xs : List D) : lenG (.tup xs) = some xs.length := id rfl
@[simp] theorem lenG_dK (xs : List (Ky × D)) : lenG (.dK xs) = some xs.length := id rfl
@[simp] theorem lenG_str {x : List Nat} (h : x.length ≤ 100000) : lenG (.str x) = some x.length := if_pos h
@[simp] theorem b_max (b : Bool) (i j : Int) (S : Sto) : bfD b .max [.int i, .int j] S = .ok (.int (if j > i then j else i)) S := id rfl
@[simp] theorem b_min (b : Bool) (i j : Int) (S : Sto) : bfD b .min [.int i, .int j] S = .ok (.int (if j < i then j else i)) S := id rfl
@[simp] theorem tru_non (S : Sto) : truD S .non = some false := id rfl
@[simp] theorem tru_bl (S : Sto) (b : Bool) : truD S (.bl b) = some b := id rfl
@[simp] theorem tru_int (S : Sto) (i : Int) : truD S (.int i) = some (i != 0) := id rfl
@[simp] theorem anyTy_nil (s : Nat → Nat → Bool) (d : D) : anyTy s d [] = some false := id rfl
theorem anyTy_cons (s : Nat → Nat → Bool) (d : D) (t : Ty) (r : List Ty) : anyTy s d (t :: r) = match tyD s t d, anyTy s d r with
    | some a, some b => some (a || b)
    | _, _ => none := rfl
theorem sls_eq {bs n : Nat} {i j : Int} {d : D} {S : Sto} {xs ys : List D} (h : S[n]? = some (.lst xs)) (hd : EL.get S d = .lst ys) (h0 : 0 ≤ i) (h1 : i ≤ j) (h2 : xs.length + ys.length < 100000) (h3 : bs ≤ n) (h4 : isCell n d = false) :
    slsD bs (.cell n) i j d S = some (S.set n (.lst (xs.take i.toNat ++ ys ++ xs.drop j.toNat))) := by
  simp only [slsD, h, hd]
  rw [if_pos ⟨⟨h0, h1⟩, h2, by simp [h3], h4⟩]
  rfl
theorem allS_sgs : ∀ x : List Nat, allS (sgs x) = some (x.map fun c => [c])
  | [] => rfl
  | c :: x => by
    show (allS (sgs x)).map _ = _
    rw [allS_sgs x]
    rfl
theorem joinT_sgs : ∀ x : List Nat, joinT [] (x.map fun c => [c]) = x
  | [] => rfl
  | [c] => rfl
  | c :: d :: r => by
    show [c] ++ ([] ++ joinT [] ((d :: r).map fun c => [c])) = _
    rw [joinT_sgs (d :: r)]
    rfl
theorem lenT_sgs : ∀ x : List Nat, lenT 0 (x.map fun c => [c]) = x.length
  | [] => rfl
  | c :: x => by
    show 1 + 0 + lenT 0 (x.map fun c => [c]) = _
    rw [lenT_sgs x, List.length_cons]
    omega
def joinR (sep : List Nat) (d : D) (S : Sto) : R D := match d with
  | .lst xs => (match allS xs with
    | some xs => if lenT sep.length xs ≤ big then .ok (.str (joinT sep xs)) S else .stuck
    | none => .stuck)
  | .tup xs => (match allS xs with
    | some xs => if lenT sep.length xs ≤ big then .ok (.str (joinT sep xs)) S else .stuck
    | none => .stuck)
  | _ => .stuck
@[simp] theorem bm_join (b : Bool) (sep : List Nat) (x : D) (S : Sto) : bmD b .join (.str sep) [x] S = joinR sep (EL.get S x) S := by
  show (match strsD S x with
    | some xs => if lenT sep.length xs ≤ big then R.ok (D.str (joinT sep xs)) S else .stuck
    | none => .stuck) = _
  unfold strsD joinR
  cases EL.get S x <;> rfl
theorem join_sgs {x : List Nat} {S : Sto} (h : x.length ≤ 100000) : joinR [] (.lst (sgs x)) S = .ok (.str x) S := by
  show (match allS (sgs x) with
    | some xs => if lenT ([] : List Nat).length xs ≤ big then R.ok (D.str (joinT [] xs)) S else .stuck
    | none => .stuck) = _
  rw [allS_sgs]
  dsimp only
  rw [List.length_nil, lenT_sgs, joinT_sgs, if_pos (show x.length ≤ big from h)]
@[simp] theorem rcv_join (x : List Nat) : rcv .join (.str x) = true := id rfl
theorem sgs_len (x : List Nat) : (sgs x).length = x.length := by simp [sgs]
theorem sgs_app (x y : List Nat) : sgs x ++ sgs y = sgs (x ++ y) := by simp [sgs]
theorem sgs_take (x : List Nat) (n : Nat) : (sgs x).take n = sgs (x.take n) := by simp [sgs, List.map_take]
theorem sgs_drop (x : List Nat) (n : Nat) : (sgs x).drop n = sgs (x.drop n) := by simp [sgs, List.map_drop]
@[simp] theorem bin_pow {b : Bool} {i j : Int} {S : Sto} (h0 : 0 ≤ j) (h1 : j ≤ 1000) (h2 : i.natAbs < 18446744073709551616) : binD b .pow (.int i) (.int j) S = .ok (.int (i ^ j.toNat)) S := by
  simp [binD, binI, h0, h1, h2]
theorem bin_catl {b : Bool} {x y : D} {xs ys : List D} {S : Sto} (hx : EL.get S x = .lst xs) (hy : EL.get S y = .lst ys) (h : xs.length + ys.length ≤ 100000) : binD b .add x y S = mkF b (.lst (xs ++ ys)) S := by
  have core : binD b .add x y S = match EL.get S x, EL.get S y with
    | .lst xs, .lst ys => (match Op.add with
      | .add => if xs.length + ys.length ≤ big then mkF b (.lst (xs ++ ys)) S else .stuck
      | _ => .stuck)
    | _, _ => .stuck := by
    cases x <;> first | rfl | (cases hx; done) | (cases y <;> first | rfl | (cases hy; done))
  rw [core, hx, hy]
  dsimp only
  rw [if_pos (show _ ≤ big from h)]
@[simp] theorem pairD_nil : pairD [] = some [] := id rfl
@[simp] theorem dicD_nil (b : Bool) (S : Sto) : dicD b (some []) S = mkF b (.dK []) S := id rfl
@[simp] theorem dicD_one (b : Bool) (kv : Ky × D) (S : Sto) : dicD b (some [kv]) S = mkF b (.dK [kv]) S := id rfl
theorem pairD_one {k d : D} {q : Ky} (h : kyOf k = some q) : pairD [k, d] = some [(q, d)] := by
  simp [pairD, h]
@[simp] theorem pairD_str (k : List Nat) (d : D) : pairD [.str k, d] = some [(.s k, d)] := id rfl
@[simp] theorem pairD_int (k : Int) (d : D) : pairD [.int k, d] = some [(.i k, d)] := id rfl
@[simp] theorem anyTy_one (s : Nat → Nat → Bool) (d : D) (t : Ty) : anyTy s d [t] = tyD s t d := by
  show (match tyD s t d, some false with
    | some a, some b => some (a || b)
    | _, _ => none) = _
  cases tyD s t d <;> simp
@[simp] theorem ty_int (s : Nat → Nat → Bool) (t : Ty) (i : Int) : tyD s t (.int i) = some (match t with
    | .int => true
    | _ => false) := id rfl
@[simp] theorem ty_bl (s : Nat → Nat → Bool) (t : Ty) (i : Bool) : tyD s t (.bl i) = some (match t with
    | .int => true
    | .bool => true
    | _ => false) := id rfl
@[simp] theorem ty_non (s : Nat → Nat → Bool) (t : Ty) : tyD s t .non = some false := id rfl
@[simp] theorem ty_str (s : Nat → Nat → Bool) (t : Ty) (i : List Nat) : tyD s t (.str i) = some (match t with
    | .str => true
    | _ => false) := id rfl
@[simp] theorem ty_lst (s : Nat → Nat → Bool) (t : Ty) (i : List D) : tyD s t (.lst i) = some (match t with
    | .list => true
    | _ => false) := id rfl
@[simp] theorem ty_tup (s : Nat → Nat → Bool) (t : Ty) (i : List D) : tyD s t (.tup i) = some (match t with
    | .tuple => true
    | _ => false) := id rfl
@[simp] theorem ty_dK (s : Nat → Nat → Bool) (t : Ty) (i : List (Ky × D)) : tyD s t (.dK i) = some (match t with
    | .dict => true
    | _ => false) := id rfl
@[simp] theorem ty_obj (s : Nat → Nat → Bool) (t : Ty) (c : Nat) (i : Fds) : tyD s t (.obj c i) = some (match t with
    | .cls c' => s c c'
    | _ => false) := id rfl
@[simp] theorem bTs_nil (S : Sto) (l : Loc) : bindTs S [] [] l = some l := by simp [bindTs]
@[simp] theorem bTs_cons (S : Sto) (t : Tg) (ts : List Tg) (d : D) (ds : List D) (l : Loc) : bindTs S (t :: ts) (d :: ds) l = (bindT S t d l).bind (bindTs S ts ds) := by simp [bindTs]
theorem bT_G {S : Sto} {ts : List Tg} {d : D} {ds : List D} {l : Loc} (h : EL.get S d = .lst ds ∨ EL.get S d = .tup ds) : bindT S (.t ts) d l = bindTs S ts ds l := by
  unfold bindT
  rcases h with h | h <;> rw [h]
@[simp] theorem bT_tup (S : Sto) (ts : List Tg) (ds : List D) (l : Loc) : bindT S (.t ts) (.tup ds) l = bindTs S ts ds l := by
  simp only [bindT]
  rfl
end EL

/-! ELp4: more of the calculus: indexing, try, what goes out, repr. -/
namespace EL
/-! ### indexing -/
def idxG : D → D → Option D
  | .lst xs, .int i => (ix xs.length i).bind fun k => xs[k]?
  | .scr xs, .int i => (ix xs.length i).bind fun k => xs[k]?
  | .tup xs, .int i => (ix xs.length i).bind fun k => xs[k]?
  | .str x, .int i => if x.length ≤ big then (ix x.length i).bind fun k => (x[k]?).map fun c => .str [c] else none
  | .dK kvs, k => (kyOf k).bind fun k => dget k kvs
  | _, _ => none
@[simp] theorem idx_G (S : Sto) (x i : D) : idxD S x i = idxG (EL.get S x) i := by
  unfold idxD idxG
  cases EL.get S x <;> cases i <;> rfl
@[simp] theorem ix0 (n : Nat) : ix n 0 = if 0 < n then some 0 else none := by
  unfold ix
  simp
@[simp] theorem ix1 (n : Nat) : ix n 1 = if 1 < n then some 1 else none := by
  unfold ix
  rw [if_pos (by decide)]
  by_cases h : 1 < n
  · rw [if_pos h, if_pos (by omega)]; rfl
  · rw [if_neg h, if_neg (by omega)]
@[simp] theorem ix2 (n : Nat) : ix n 2 = if 2 < n then some 2 else none := by
  unfold ix
  rw [if_pos (by decide)]
  by_cases h : 2 < n
  · rw [if_pos h, if_pos (by omega)]; rfl
  · rw [if_neg h, if_neg (by omega)]
theorem ix_in {n : Nat} {i : Int} (h0 : 0 ≤ i) (h1 : i < n) : ix n i = some i.toNat := by
  unfold ix
  rw [if_pos h0, if_pos h1]
theorem idxG_lst {xs : List D} {i : Int} (h0 : 0 ≤ i) (h1 : i < xs.length) : idxG (.lst xs) (.int i) = some (xs[i.toNat]'(by omega)) := by
  show ((ix xs.length i).bind fun k => xs[k]?) = _
  rw [ix_in h0 h1]
  exact List.getElem?_eq_getElem (by omega)
@[simp] theorem idxG_l (xs : List D) (i : Int) : idxG (.lst xs) (.int i) = (ix xs.length i).bind fun k => xs[k]? := id rfl
@[simp] theorem idxG_t (xs : List D) (i : Int) : idxG (.tup xs) (.int i) = (ix xs.length i).bind fun k => xs[k]? := id rfl
/-! ### what goes out: no cell that is made here -/
mutual
theorem resW_bnd (n : Nat) (f : Nat → Option D) : ∀ d : D, bnd n d = true → resW n f d = some d
  | .non, _ => rfl
  | .bl _, _ => rfl
  | .int _, _ => rfl
  | .str _, _ => rfl
  | .tup xs, h => by
    have := resWs_bnd n f xs h
    unfold resW
    rw [this]; rfl
  | .lst xs, h => by
    have := resWs_bnd n f xs h
    unfold resW
    rw [this]; rfl
  | .scr xs, h => by
    have := resWs_bnd n f xs h
    unfold resW
    rw [this]; rfl
  | .dK xs, h => by
    have := resWK_bnd n f xs h
    unfold resW
    rw [this]; rfl
  | .dT xs, h => by
    have := resWT_bnd n f xs h
    unfold resW
    rw [this]; rfl
  | .obj c xs, h => by
    have := resWF_bnd n f xs h
    unfold resW
    rw [this]; rfl
  | .cell m, h => by
    unfold resW
    exact if_pos (of_decide_eq_true h)
theorem resWs_bnd (n : Nat) (f : Nat → Option D) : ∀ d : List D, bnds n d = true → resWs n f d = some d
  | [], _ => rfl
  | d :: r, h => by
    have h' : (bnd n d && bnds n r) = true := h
    rw [Bool.and_eq_true] at h'
    unfold resWs
    rw [resW_bnd n f d h'.1, resWs_bnd n f r h'.2]
theorem resWK_bnd (n : Nat) (f : Nat → Option D) : ∀ d : List (Ky × D), bndK n d = true → resWK n f d = some d
  | [], _ => rfl
  | (k, d) :: r, h => by
    have h' : (bnd n d && bndK n r) = true := h
    rw [Bool.and_eq_true] at h'
    unfold resWK
    rw [resW_bnd n f d h'.1, resWK_bnd n f r h'.2]
theorem resWT_bnd (n : Nat) (f : Nat → Option D) : ∀ d : List (List Ky × D), bndT n d = true → resWT n f d = some d
  | [], _ => rfl
  | (k, d) :: r, h => by
    have h' : (bnd n d && bndT n r) = true := h
    rw [Bool.and_eq_true] at h'
    unfold resWT
    rw [resW_bnd n f d h'.1, resWT_bnd n f r h'.2]
theorem resWF_bnd (n : Nat) (f : Nat → Option D) : ∀ d : List (Nat × D), bndF n d = true → resWF n f d = some d
  | [], _ => rfl
  | (k, d) :: r, h => by
    have h' : (bnd n d && bndF n r) = true := h
    rw [Bool.and_eq_true] at h'
    unfold resWF
    rw [resW_bnd n f d h'.1, resWF_bnd n f r h'.2]
end
theorem exit_bnd {n : Nat} {S : Sto} {d : D} (e : bnd n d = true) : exitV n false d S = .val d (S.take n) := by
  unfold exitV
  rw [if_neg (by decide)]
  cases d with
  | cell m => exact if_pos (of_decide_eq_true e)
  | _ =>
    dsimp only
    rw [show ∀ h d, bnd n d = true → res n S h d = some d from fun h d e => by cases h <;> exact resW_bnd _ _ d e]
    exact e
theorem exitX_bnd {n c : Nat} {fs : Fds} {S : Sto} (e : bndF n fs = true) : exitX n false c fs S = .ex c fs (S.take n) := by
  unfold exitX
  rw [if_neg (by decide), resWF_bnd _ _ fs e]
/-! ### try -/
@[simp] theorem ws_try (C : Cn) (l : Loc) (S : Sto) (b : List Sm) (cs : List Nat) (ns : List (Option Nat)) (hs : List (List Sm)) (K : KS) : wpS (evS C (.try_ b cs ns hs) l S) K = wpS (evSs C b l S) ⟨K.nx, K.rt, K.bk, K.ct, fun c fs l1 S1 => wpS (evHs C c fs l1 S1 hs cs ns) K⟩ := by
  simp only [evS]
  cases evSs C b l S <;> rfl
@[simp] theorem hs_nil (C : Cn) (c : Nat) (fs : Fds) (l : Loc) (S : Sto) (cs : List Nat) (ns : List (Option Nat)) : evHs C c fs l S [] cs ns = .ex c fs l S := by simp only [evHs]
@[simp] theorem hs_cons (C : Cn) (c : Nat) (fs : Fds) (l : Loc) (S : Sto) (h : List Sm) (hs : List (List Sm)) (k : Nat) (cs : List Nat) (i : Option Nat) (ns : List (Option Nat)) :
    evHs C c fs l S (h :: hs) (k :: cs) (i :: ns) = iteS (C.pg.sub c k) (suiteEnd i (evSs { C with hx := fs } h (gone i l) S)) (evHs C c fs l S hs cs ns) := by
  simp only [evHs]
  cases C.pg.sub c k <;> rfl
@[simp] theorem ws_suite (i : Option Nat) (r : RS) (K : KS) : wpS (suiteEnd i r) K = wpS r ⟨fun l S => K.nx (gone i l) S, K.rt, fun _ _ => False, fun _ _ => False, fun _ _ _ _ => False⟩ := by cases r <;> rfl
@[simp] theorem gone_none (l : Loc) : gone none l = l := id rfl
@[simp] theorem gone_some (i : Nat) (l : Loc) : gone (some i) l = l.set i none := id rfl
@[simp] theorem fget_one (f : Nat) (d : D) (r : Fds) : fget f ((f, d) :: r) = some d := if_pos rfl
/-- a function of whichever end -/
theorem wpF.call {r : RF} {P : Bool → D → Sto → Prop} {Y X : Nat → Fds → Sto → Prop} {b : Bool} {Q : D → Sto → Prop} (h : wpF r P Y) (k1 : ∀ d S, P false d S → Q d S) (k2 : ∀ d S, P true d S → wpR (mkF b d S) Q X) (k3 : ∀ c fs S, Y c fs S → X c fs S) : wpR (rfE b r) Q X := by
  cases r with
  | val d S => exact k1 d S h
  | fresh d S => exact k2 d S h
  | ex c fs S => exact k3 c fs S h
  | stuck => exact h.elim
theorem wpL_imp {o : Option Loc} {P Q : Loc → Prop} (h : wpL o P) (k : ∀ l, P l → Q l) : wpL o Q := by
  cases o with
  | none => exact h
  | some l => exact k l h
theorem ws_mono {r : RS} {K K' : KS} (h1 : ∀ l S, K.nx l S → K'.nx l S) (h2 : ∀ d S, K.rt d S → K'.rt d S) (h3 : ∀ l S, K.bk l S → K'.bk l S) (h4 : ∀ l S, K.ct l S → K'.ct l S) (h5 : ∀ c fs l S, K.ex c fs l S → K'.ex c fs l S) (h : wpS r K) : wpS r K' := by
  cases r with
  | nx l S => exact h1 _ _ h
  | rt l S => exact h2 _ _ h
  | bk l S => exact h3 _ _ h
  | ct l S => exact h4 _ _ h
  | ex c fs l S => exact h5 _ _ _ _ h
  | stuck => exact h
/-- both ways go on alike -/
theorem Br.join {b : Bool} {x y : RS} {K : KS} (I : Loc → Sto → Prop) (hx : b = true → wpS x ⟨I, K.rt, K.bk, K.ct, K.ex⟩) (hy : b = false → wpS y ⟨I, K.rt, K.bk, K.ct, K.ex⟩) (hk : ∀ l S, I l S → K.nx l S) : Br b (wpS x K) (wpS y K) :=
  Br.mk (fun h => ws_mono (K := ⟨I, K.rt, K.bk, K.ct, K.ex⟩) hk (fun _ _ h => h) (fun _ _ h => h) (fun _ _ h => h) (fun _ _ _ _ h => h) (hx h)) fun h => ws_mono (K := ⟨I, K.rt, K.bk, K.ct, K.ex⟩) hk (fun _ _ h => h) (fun _ _ h => h) (fun _ _ h => h) (fun _ _ _ _ h => h) (hy h)
theorem sub_lst {bs n j : Nat} {i : Int} {d : D} {S : Sto} {xs : List D} (h : S[n]? = some (.lst xs)) (hi : ix xs.length i = some j) (hm : may bs n d = true) : subD bs (.cell n) (.int i) d S = some (S.set n (.lst (xs.set j d))) := by
  simp only [subD, h, hi, Option.bind, if_pos hm]
  rfl
theorem app_lst {bs n : Nat} {d : D} {S : Sto} {xs : List D} (h : S[n]? = some (.lst xs)) (hl : xs.length < 100000) (hm : may bs n d = true) : mmD bs .append (.cell n) [d] S = .ok .non (S.set n (.lst (xs ++ [d]))) := by
  simp only [mmD, h]
  exact if_pos ⟨hl, hm⟩
theorem may_new {bs n : Nat} {d : D} (h : bs ≤ n) : may bs n d = true := by
  unfold may
  rw [decide_eq_true h]
  rfl
theorem may_nc {bs n : Nat} {d : D} (h : nc d = true) : may bs n d = true := by
  unfold may
  rw [h, Bool.or_true]
@[simp] theorem isLst_lst (xs : List D) : isLst (.lst xs) = true := id rfl
/-! ### repr -/
def repR (o : Option (List Nat)) (S : Sto) : R D := match o with
  | some t => .ok (.str t) S
  | none => .stuck
@[simp] theorem repR_some (t : List Nat) (S : Sto) : repR (some t) S = .ok (.str t) S := id rfl
@[simp] theorem b_repr (b : Bool) (x : D) (S : Sto) : bfD b .repr [x] S = repR (reprD S x) S := by
  show optR ((reprD S x).map .str) S = _
  unfold repR
  cases reprD S x <;> rfl
theorem repr_of {S : Sto} {x : D} {p : PD} (h : toP S 4 x = some p) (h1 : wP p ≤ 100000) (h2 : p.depth ≤ 40) : ∃ t, reprD S x = some t := by
  unfold reprD
  rw [h]
  exact ⟨_, if_pos ⟨h1, h2⟩⟩
theorem wP_int {i : Int} (h : i.natAbs < 10000000000000000000000000000000000000000) : wP (.int i) = 41 := if_pos h
@[simp] theorem b_int_int (b : Bool) (i : Int) (S : Sto) : bfD b .int [.int i] S = .ok (.int i) S := id rfl
@[simp] theorem b_int_bl (b k : Bool) (S : Sto) : bfD b .int [.bl k] S = .ok (.int (if k then 1 else 0)) S := id rfl
/-! ### texts -/
@[simp] theorem slc_str {b : Bool} {x : List Nat} {lo hi : Option Int} {S : Sto} (h : x.length ≤ 100000) : slcD b (.str x) lo hi S = .ok (.str (cutD x lo hi)) S := by
  show (if x.length ≤ big then _ else _) = _
  rw [if_pos (show _ ≤ big from h)]
theorem cut_len {α : Type} (x : List α) (lo hi : Option Int) : (cutD x lo hi).length ≤ x.length := by
  unfold cutD
  rw [List.length_take, List.length_drop]
  omega
theorem cut_mem {α : Type} {x : List α} {lo hi : Option Int} {c : α} (h : c ∈ cutD x lo hi) : c ∈ x := List.mem_of_mem_drop (List.mem_of_mem_take h)
@[simp] theorem idxG_s {x : List Nat} (h : x.length ≤ 100000) (i : Int) : idxG (.str x) (.int i) = (ix x.length i).bind fun k => (x[k]?).map fun c => .str [c] := if_pos h
@[simp] theorem b_str_int {b : Bool} {i : Int} {S : Sto} (h : i.natAbs < 10000000000000000000000000000000000000000) : bfD b .str [.int i] S = .ok (.str (dec i)) S := by
  show (if small i then _ else _) = _
  unfold small
  rw [if_pos (decide_eq_true h)]
@[simp] theorem b_int_str {b : Bool} {x : List Nat} {S : Sto} (h : figs x = true) : bfD b .int [.str x] S = .ok (.int (numN 0 x)) S := if_pos h
@[simp] theorem bm_find (b : Bool) (x : List Nat) (c : Nat) (S : Sto) : bmD b .find (.str x) [.str [c]] S = .ok (.int (findC c 0 x)) S := id rfl
@[simp] theorem rcv_find (x : List Nat) : rcv .find (.str x) = true := id rfl
theorem dec_len {i : Int} (h : i.natAbs < 10000000000000000000000000000000000000000) : (dec i).length ≤ 41 := by
  have e := PySem.int_text_length_le10 (k := 40) (by decide) (show i.natAbs < 10 ^ 40 by rw [e10]; exact h)
  unfold dec
  have e2 : (PySem.Str.ofString (toString i)).cps.toList.length = (PySem.Str.ofString (toString i)).length := Array.length_toList
  rw [e2, PySem.ofString_length]
  exact e
/-- a text's signs with their places -/
def enuS (x : List Nat) : List D := (List.range x.length).map fun i => .tup [.int (i : Nat), .str [x.getD i 0]]
theorem it_enuS {x : List Nat} {S : Sto} {i : Nat} : itemD 3 [.str x] S i = some (enuS x)[i]? := by
  show some ((x[i]?).map fun c => D.tup [.int i, .str [c]]) = _
  unfold enuS
  by_cases h : i < x.length
  · rw [List.getElem?_map, List.getElem?_range h, List.getElem?_eq_getElem h, Option.map_some, Option.map_some, List.getD_eq_getElem?_getD, List.getElem?_eq_getElem h]
    rfl
  · rw [List.getElem?_eq_none (by omega), List.getElem?_eq_none (by simp; omega)]
    rfl
theorem enuS_len (x : List Nat) : (enuS x).length = x.length := by simp [enuS]
theorem enuS_at {x : List Nat} {i : Nat} {d : D} (h : (enuS x)[i]? = some d) : ∃ hi : i < x.length, d = .tup [.int (i : Nat), .str [x[i]]] := by
  have hi : i < x.length := by
    have := (List.getElem?_eq_some_iff.mp h).1
    rwa [enuS_len] at this
  refine ⟨hi, ?_⟩
  unfold enuS at h
  rw [List.getElem?_map, List.getElem?_range hi] at h
  have h := (Option.some.inj h).symm
  rw [h]
  show D.tup [.int (i : Nat), .str [x.getD i 0]] = _
  rw [List.getD_eq_getElem?_getD, List.getElem?_eq_getElem hi]
  rfl
theorem all_map {α : Type} (f : α → Bool) : ∀ l : List α, allB (l.map fun c => D.bl (f c)) = some (l.map f)
  | [] => rfl
  | c :: l => by
    show (allB (l.map fun c => D.bl (f c))).map _ = _
    rw [all_map f l]
    rfl
def allR (o : Option (List Bool)) (S : Sto) : R D := match o with
  | some bs => .ok (.bl (bs.all id)) S
  | none => .stuck
@[simp] theorem allR_some (l : List Bool) (S : Sto) : allR (some l) S = .ok (.bl (l.all id)) S := id rfl
@[simp] theorem b_all (b : Bool) (xs : List D) (S : Sto) : bfD b .all [.lst xs] S = allR (allB xs) S := by
  show optR ((allB xs).map fun bs => D.bl (bs.all id)) S = _
  unfold allR
  cases allB xs <;> rfl
@[simp] theorem in_sign (S : Sto) (c : Nat) (z : List Nat) : cmpD .in_ S (.str [c]) (.str z) = some (decide (c ∈ z)) := id rfl
@[simp] theorem nin_sign (S : Sto) (c : Nat) (z : List Nat) : cmpD .nin S (.str [c]) (.str z) = some (!decide (c ∈ z)) := id rfl
end EL

/-! ELp5: more of the calculus: objects, slices, split, enumerate, copies. -/
namespace EL

section
variable (C : Cn) (l : Loc) (S : Sto)
@[simp] theorem e_isB (k : Bool) (x : Ex) : evE C (.isB k x) l S = (evE C x l S).bd fun u S1 => optR ((isBl k u).map .bl) S1 := by simp only [evE, bd_eq, bdS_eq]
@[simp] theorem e_notB (k : Bool) (x : Ex) : evE C (.notB k x) l S = (evE C x l S).bd fun u S1 => optR ((isBl k u).map fun b => .bl (!b)) S1 := by simp only [evE, bd_eq, bdS_eq]
def revG (b : Bool) (d : D) (S : Sto) : R D := match d with
  | .lst xs => mkF b (.lst xs.reverse) S
  | _ => .stuck
@[simp] theorem revG_l (b : Bool) (xs : List D) : revG b (.lst xs) S = mkF b (.lst xs.reverse) S := id rfl
@[simp] theorem e_rev (b : Bool) (x : Ex) : evE C (.rev b x) l S = (evE C x l S).bd fun u S1 => revG b (EL.get S1 u) S1 := by
  simp only [evE, bd_eq, bdS_eq]
  rfl
def oM {α : Type} (o : Option Nat) (k : Nat → R α) (_ : Ph k k := ()) : R α := match o with
  | some f => k f
  | none => .stuck
@[simp] theorem oM_some {α : Type} (f : Nat) (k : Nat → R α) : oM (some f) k = k f := id rfl
def mthO (pg : Pg) (m : Nat) (d : D) : Option Nat := match d with
  | .obj c _ => pg.mth c m
  | _ => none
@[simp] theorem mthO_obj (pg : Pg) (m c : Nat) (fs : Fds) : mthO pg m (.obj c fs) = pg.mth c m := id rfl
@[simp] theorem e_meth (b : Bool) (m : Nat) (o : Ex) (as : List Ex) : evE C (.meth b m o as) l S = (evE C o l S).bd fun u S1 => oM (mthO C.pg m (EL.get S1 u)) fun f => (evEs C as l S1).bd fun ds S2 => rfE b (C.pg.fn f C.bs (u :: ds) S2) := by
  simp only [evE, bd_eq, bdS_eq]
  congr 1
  funext u S1
  unfold oM mthO
  cases EL.get S1 u <;> first | rfl | (dsimp only; cases C.pg.mth _ m <;> rfl)
@[simp] theorem e_make (b : Bool) (c : Nat) (as : List Ex) : evE C (.make b c as) l S = (evEs C as l S).bd fun ds S1 => oM (C.pg.ini c) fun f => madeE b S1.length (C.pg.fn f (if b then C.bs else S1.length) (.cell S1.length :: ds) (S1 ++ [.obj c []])) := by
  simp only [evE, bd_eq, bdS_eq]
  rfl
end
@[simp] theorem w_oM {α : Type} (f : Nat) (k : Nat → R α) (Q : α → Sto → Prop) (X : Nat → Fds → Sto → Prop) : wpR (oM (some f) k) Q X = wpR (k f) Q X := id rfl
@[simp] theorem isB_bl (k b : Bool) : isBl k (.bl b) = some (decide (b = k)) := id rfl
@[simp] theorem isB_int (k : Bool) (i : Int) : isBl k (.int i) = some false := id rfl
@[simp] theorem ws_tryE (C : Cn) (l : Loc) (S : Sto) (b : List Sm) (cs : List Nat) (ns : List (Option Nat)) (hs : List (List Sm)) (el : List Sm) (K : KS) :
    wpS (evS C (.tryE b cs ns hs el) l S) K = wpS (evSs C b l S) ⟨fun l1 S1 => wpS (evSs C el l1 S1) K, K.rt, K.bk, K.ct, fun c fs l1 S1 => wpS (evHs C c fs l1 S1 hs cs ns) K⟩ := by
  simp only [evS]
  cases evSs C b l S <;> rfl
/-- an object that is data -/
theorem made_w {r : RF} {S : Sto} {Q : D → Sto → Prop} {X Y : Nat → Fds → Sto → Prop} (h : wpF r (fun f d S' => f = false ∧ d = .non ∧ ∃ o, S' = S ++ [o] ∧ isCont o = true ∧ nc o = true ∧ Q o S) Y)
    (hx : ∀ c fs S', Y c fs S' → ncF fs = true ∧ X c fs (S'.take S.length)) : wpR (madeE false S.length r) Q X := by
  cases r with
  | val d S' =>
    obtain ⟨_, rfl, o, rfl, h1, h2, q⟩ := h
    show wpR (rfE false (exitV S.length false (.cell S.length) (S ++ [o]))) Q X
    rw [exit_new (c := o) (Nat.le_refl _) (by simp) h1 h2]
    simpa using q
  | fresh d S' => obtain ⟨e, _⟩ := h; cases e
  | ex c fs S' =>
    obtain ⟨h1, h2⟩ := hx c fs S' h
    show wpR (rfE false (exitX S.length false c fs S')) Q X
    rw [exitX_nc h1]
    exact h2
  | stuck => exact h.elim
/-! ### fields -/
def fldG (f : Nat) (d : D) : Option D := match d with
  | .obj _ fs => fget f fs
  | _ => none
@[simp] theorem fld_G (S : Sto) (x : D) (f : Nat) : fldD S x f = fldG f (EL.get S x) := by
  unfold fldD fldG
  cases EL.get S x <;> rfl
@[simp] theorem fldG_obj (f c : Nat) (fs : Fds) : fldG f (.obj c fs) = fget f fs := id rfl
@[simp] theorem fget_nil (f : Nat) : fget f [] = none := id rfl
theorem fget_cons (f g : Nat) (d : D) (r : Fds) : fget f ((g, d) :: r) = if g = f then some d else fget f r := id rfl
theorem fput_cons (f g : Nat) (d e : D) (r : Fds) : fput f d ((g, e) :: r) = if g = f then (f, d) :: r else (g, e) :: fput f d r := id rfl
@[simp] theorem fput_nil (f : Nat) (d : D) : fput f d [] = [(f, d)] := id rfl
theorem fldS_obj {bs n c f : Nat} {fs : Fds} {d : D} {S : Sto} (h : S[n]? = some (.obj c fs)) (hm : may bs n d = true) (hl : fs.length < 100) : fldSD bs (.cell n) f d S = some (S.set n (.obj c (fput f d fs))) := by
  simp only [fldSD, h]
  exact if_pos ⟨hm, hl⟩
/-! ### operators -/
@[simp] theorem bin_times {b : Bool} {x : List Nat} {k : Int} {S : Sto} (h1 : k.natAbs ≤ 100000) (h2 : x.length * k.toNat ≤ 100000) : binD b .mul (.str x) (.int k) S = .ok (.str (List.replicate k.toNat x).flatten) S := by
  show (if k.natAbs ≤ big ∧ x.length * k.toNat ≤ big then _ else _) = _
  rw [if_pos ⟨h1, h2⟩]
@[simp] theorem bin_tup {b : Bool} {x y : List D} {S : Sto} (h : x.length + y.length ≤ 100000) : binD b .add (.tup x) (.tup y) S = .ok (.tup (x ++ y)) S := by
  show (if x.length + y.length ≤ big then _ else _) = _
  rw [if_pos (show _ ≤ big from h)]
/-! ### slices -/
def slcG (b : Bool) (d : D) (lo hi : Option Int) (S : Sto) : R D := match d with
  | .lst xs => mkF b (.lst (cutD xs lo hi)) S
  | .str x => if x.length ≤ big then .ok (.str (cutD x lo hi)) S else .stuck
  | .tup xs => .ok (.tup (cutD xs lo hi)) S
  | _ => .stuck
@[simp] theorem slc_G (b : Bool) (x : D) (lo hi : Option Int) (S : Sto) : slcD b x lo hi S = slcG b (EL.get S x) lo hi S := by
  unfold slcD slcG
  cases EL.get S x <;> rfl
@[simp] theorem slcG_l (b : Bool) (xs : List D) (lo hi : Option Int) (S : Sto) : slcG b (.lst xs) lo hi S = mkF b (.lst (cutD xs lo hi)) S := id rfl
@[simp] theorem slcG_t (b : Bool) (xs : List D) (lo hi : Option Int) (S : Sto) : slcG b (.tup xs) lo hi S = .ok (.tup (cutD xs lo hi)) S := id rfl
@[simp] theorem slcG_s {b : Bool} {x : List Nat} {lo hi : Option Int} {S : Sto} (h : x.length ≤ 100000) : slcG b (.str x) lo hi S = .ok (.str (cutD x lo hi)) S := by
  show (if x.length ≤ big then _ else _) = _
  rw [if_pos (show _ ≤ big from h)]
theorem sli_pos {n d : Nat} {i : Int} (h : 0 ≤ i) : sli n d (some i) = min i.toNat n := if_neg (by omega)
theorem cut_to {α : Type} (xs : List α) {i : Int} (h : 0 ≤ i) : cutD xs none (some i) = xs.take i.toNat := by
  unfold cutD
  rw [sli_pos h]
  show (xs.drop 0).take (min i.toNat xs.length - 0) = _
  rw [List.drop_zero, Nat.sub_zero, List.take_eq_take_iff]
  omega
theorem cut_from {α : Type} (xs : List α) {i : Int} (h : 0 ≤ i) : cutD xs (some i) none = xs.drop i.toNat := by
  unfold cutD
  rw [sli_pos h]
  show (xs.drop (min i.toNat xs.length)).take (xs.length - _) = _
  by_cases hl : i.toNat ≤ xs.length
  · rw [Nat.min_eq_left hl, List.take_of_length_le (by simp)]
  · rw [Nat.min_eq_right (by omega), List.drop_of_length_le (by omega), List.drop_of_length_le (by omega)]
    simp
theorem cut_mid {α : Type} (xs : List α) {i j : Int} (h : 0 ≤ i) (h2 : i ≤ j) : cutD xs (some i) (some j) = (xs.drop i.toNat).take (j.toNat - i.toNat) := by
  unfold cutD
  rw [sli_pos h, sli_pos (by omega)]
  by_cases hl : i.toNat ≤ xs.length
  · rw [Nat.min_eq_left hl, List.take_eq_take_iff, List.length_drop]
    omega
  · rw [List.drop_of_length_le (by omega), List.drop_of_length_le (by omega)]
    simp
/-! ### copies -/
def listR (b : Bool) (d : D) (S : Sto) : R D := match d with
  | .lst xs => mkF b (.lst xs) S
  | .tup xs => mkF b (.lst xs) S
  | _ => .stuck
@[simp] theorem b_list (b : Bool) (x : D) (S : Sto) : bfD b .list [x] S = listR b (EL.get S x) S := by
  show (match listD S x with
    | some xs => mkF b (.lst xs) S
    | none => .stuck) = _
  unfold listD listR
  cases EL.get S x <;> rfl
@[simp] theorem listR_l (b : Bool) (xs : List D) (S : Sto) : listR b (.lst xs) S = mkF b (.lst xs) S := id rfl
@[simp] theorem listR_t (b : Bool) (xs : List D) (S : Sto) : listR b (.tup xs) S = mkF b (.lst xs) S := id rfl
def tupR (x d : D) (S : Sto) : R D := match d with
  | .lst xs => .ok (.tup xs) S
  | .tup _ => .ok x S
  | _ => .stuck
@[simp] theorem b_tuple (b : Bool) (x : D) (S : Sto) : bfD b .tuple [x] S = tupR x (EL.get S x) S := by
  show (match EL.get S x with
    | .lst xs => R.ok (D.tup xs) S
    | .tup xs => R.ok x S
    | _ => R.stuck) = _
  unfold tupR
  cases EL.get S x <;> rfl
@[simp] theorem tupR_l (x : D) (xs : List D) (S : Sto) : tupR x (.lst xs) S = .ok (.tup xs) S := id rfl
@[simp] theorem tupR_t (x : D) (xs : List D) (S : Sto) : tupR x (.tup xs) S = .ok x S := id rfl
/-! ### split, extend, pop -/
@[simp] theorem rcv_split (x : List Nat) : rcv .split (.str x) = true := id rfl
theorem bm_split {b : Bool} {x : List Nat} {c : Nat} {S : Sto} (hc : c < 256) (h : x.length ≤ 100000) : bmD b .split (.str x) [.str [c]] S = mkF b (.lst ((splC c [] x).map .str)) S := by
  show (if c < 256 ∧ x.length ≤ big then _ else _) = _
  rw [if_pos ⟨hc, h⟩]
theorem pop_lst {bs n : Nat} {i : Int} {S : Sto} {xs : List D} (h : S[n]? = some (.lst xs)) (hl : xs.length ≤ 100000) (h0 : 0 ≤ i) (h1 : i < xs.length) : mmD bs .popAt (.cell n) [.int i] S = .ok (xs[i.toNat]'(by omega)) (S.set n (.lst (xs.eraseIdx i.toNat))) := by
  simp only [mmD, h, popD]
  rw [if_pos (show _ ≤ big from hl), ix_in h0 h1]
  simp only [Option.bind]
  rw [List.getElem?_eq_getElem (by omega)]
  rfl
theorem ext_lst {bs n : Nat} {y : D} {S : Sto} {xs ys : List D} (h : S[n]? = some (.lst xs)) (hy : EL.get S y = .lst ys) (hl : xs.length + ys.length < 100000) (hm : (decide (bs ≤ n) || ncs ys) = true) : mmD bs .extend (.cell n) [y] S = .ok .non (S.set n (.lst (xs ++ ys))) := by
  simp only [mmD, h, hy]
  exact if_pos ⟨hl, hm⟩
/-! ### enumerate -/
def enuL (xs : List D) : List D := (List.range xs.length).map fun i => .tup [.int (i : Nat), xs.getD i .non]
theorem enuL_get (xs : List D) (i : Nat) : (enuL xs)[i]? = (xs[i]?).map fun d => D.tup [.int i, d] := by
  unfold enuL
  by_cases h : i < xs.length
  · rw [List.getElem?_map, List.getElem?_range h, List.getElem?_eq_getElem h, Option.map_some, Option.map_some, List.getD_eq_getElem?_getD, List.getElem?_eq_getElem h]
    rfl
  · rw [List.getElem?_eq_none (by simp; omega), List.getElem?_eq_none (by omega)]
    rfl
theorem it_enuL {x : D} {xs : List D} {S : Sto} {i : Nat} (h : EL.get S x = .lst xs) : itemD 3 [x] S i = some (enuL xs)[i]? := by
  rw [enuL_get]
  show item3 [x] S i = _
  simp only [item3, h]
theorem it_enuT {x : D} {xs : List D} {S : Sto} {i : Nat} (h : EL.get S x = .tup xs) : itemD 3 [x] S i = some (enuL xs)[i]? := by
  rw [enuL_get]
  show item3 [x] S i = _
  simp only [item3, h]
theorem enuL_len (xs : List D) : (enuL xs).length = xs.length := by simp [enuL]
theorem enuL_at {xs : List D} {i : Nat} {d : D} (h : (enuL xs)[i]? = some d) : ∃ hi : i < xs.length, d = .tup [.int (i : Nat), xs[i]] := by
  have hi : i < xs.length := by
    have := (List.getElem?_eq_some_iff.mp h).1
    rwa [enuL_len] at this
  refine ⟨hi, ?_⟩
  rw [enuL_get, List.getElem?_eq_getElem hi] at h
  exact (Option.some.inj h).symm
theorem it_rngN {n : Nat} {S : Sto} {i : Nat} (h : n < 1000000000) : itemD 1 [.int (n : Int)] S i = some (rng 0 n)[i]? := it_rng (n := (n : Int)) (by omega)
theorem get_app {S B : Sto} {x c : D} (h : EL.get S x = c) (hc : c ≠ .non) : EL.get (S ++ B) x = c := by
  cases x with
  | cell n =>
    have h2 : S.getD n .non = c := h
    show (S ++ B).getD n .non = c
    rw [List.getD_eq_getElem?_getD] at h2 ⊢
    by_cases hn : n < S.length
    · rw [List.getElem?_append_left hn]
      exact h2
    · rw [List.getElem?_eq_none (by omega)] at h2
      exact absurd h2.symm hc
  | _ => exact h
/-! ### flat things -/
theorem ncs_all {xs : List D} : ncs xs = true ↔ ∀ d ∈ xs, nc d = true := by
  induction xs with
  | nil => exact ⟨fun _ d hd => (by cases hd), fun _ => rfl⟩
  | cons x xs ih =>
    show (nc x && ncs xs) = true ↔ _
    rw [Bool.and_eq_true, ih]
    simp
theorem ncs_str (xs : List (List Nat)) : ncs (xs.map .str) = true := ncs_all.mpr fun d hd => by
  obtain ⟨x, _, rfl⟩ := List.mem_map.mp hd
  rfl
theorem allS_str : ∀ xs : List (List Nat), allS (xs.map .str) = some xs
  | [] => rfl
  | x :: xs => by
    show (allS (xs.map .str)).map _ = _
    rw [allS_str xs]
    rfl
theorem joinR_strs {sep : List Nat} {xs : List (List Nat)} {S : Sto} (h : lenT sep.length xs ≤ 100000) : joinR sep (.lst (xs.map .str)) S = .ok (.str (joinT sep xs)) S := by
  show (match allS (xs.map .str) with
    | some xs => if lenT sep.length xs ≤ big then R.ok (D.str (joinT sep xs)) S else .stuck
    | none => .stuck) = _
  rw [allS_str]
  exact if_pos h
theorem lenT_le {n m : Nat} : ∀ {xs : List (List Nat)}, (∀ x ∈ xs, x.length ≤ m) → lenT n xs ≤ xs.length * (m + n)
  | [], _ => Nat.zero_le _
  | x :: r, h => by
    show x.length + n + lenT n r ≤ _
    have h1 := h x List.mem_cons_self
    have h2 := lenT_le (n := n) fun y hy => h y (List.mem_cons_of_mem _ hy)
    rw [List.length_cons, Nat.succ_mul]
    omega
theorem all_flat {xs : List (List Nat)} : (xs.map D.str).all flatD = true := by
  rw [List.all_eq_true]
  intro d hd
  obtain ⟨x, _, rfl⟩ := List.mem_map.mp hd
  rfl
/-- whether a text stands in a list of texts -/
theorem in_strs {S : Sto} {x : List Nat} {y : D} {xs : List (List Nat)} (h : EL.get S y = .lst (xs.map .str) ∨ EL.get S y = .tup (xs.map .str)) : inD S (.str x) y = some (decide (x ∈ xs)) := by
  have core : anyEq S (.str x) (xs.map .str) = some (decide (x ∈ xs)) := by
    unfold anyEq
    rw [all_flat]
    show some ((xs.map D.str).any fun y => eqF y (.str x)) = _
    congr 1
    rw [List.any_map, Bool.eq_iff_iff, List.any_eq_true, decide_eq_true_eq]
    constructor
    · rintro ⟨z, hz, e⟩
      have : z = x := of_decide_eq_true e
      exact this ▸ hz
    · exact fun hx => ⟨x, hx, decide_eq_true rfl⟩
  have ny : ∀ z, y ≠ .str z := fun z e => by
    subst e
    rcases h with h | h <;> cases h
  unfold inD
  split
  · exact absurd rfl (ny _)
  · rcases h with h | h <;> (rw [h]; dsimp only; rw [core]; rfl)
/-- a part of which only the next end is reached -/
theorem ws_go {r : RS} {I : Loc → Sto → Prop} {K : KS} (h : wpS r ⟨I, fun _ _ => False, fun _ _ => False, fun _ _ => False, fun _ _ _ _ => False⟩) (k : ∀ l S, I l S → K.nx l S) : wpS r K := by
  cases r with
  | nx l S => exact k l S h
  | rt d S => exact False.elim h
  | bk l S => exact False.elim h
  | ct l S => exact False.elim h
  | ex c fs l S => exact False.elim h
  | stuck => exact False.elim h
theorem wpR.go {α : Type} {r : R α} {P Q : α → Sto → Prop} {X : Nat → Fds → Sto → Prop} (h : wpR r P fun _ _ _ => False) (k : ∀ d S, P d S → Q d S) : wpR r Q X := by
  cases r with
  | ok a S => exact k a S h
  | ex c fs S => exact h.elim
  | stuck => exact h.elim
end EL

/-! ELp6: which data have a repr, whatever the store. -/
namespace EL
def wKy (k : Ky) : Nat := wP (kyP k)
mutual
/-- how large a text repr makes -/
def wD : D → Nat
  | .non => 4
  | .bl _ => 5
  | .int i => if i.natAbs < 10000000000000000000000000000000000000000 then 41 else 1000000
  | .str x => if x.all (fun c => decide (c < 1114112)) then 10 * x.length + 2 else 1000000
  | .lst xs => wDs xs + 3
  | .tup xs => wDs xs + 3
  | .dK kvs => wDk kvs + 3
  | .scr _ => 1000000
  | .dT _ => 1000000
  | .obj _ _ => 1000000
  | .cell _ => 1000000
def wDs : List D → Nat
  | [] => 0
  | d :: r => wD d + 2 + wDs r
def wDk : List (Ky × D) → Nat
  | [] => 0
  | (k, d) :: r => wKy k + wD d + 4 + wDk r
end
mutual
def dD : D → Nat
  | .lst xs => dDs xs + 1
  | .tup xs => dDs xs + 1
  | .dK kvs => dDk kvs + 1
  | _ => 0
def dDs : List D → Nat
  | [] => 0
  | d :: r => max (dD d) (dDs r)
def dDk : List (Ky × D) → Nat
  | [] => 0
  | (k, d) :: r => max (max (kyP k).depth (dD d)) (dDk r)
end
mutual
theorem pl_ok : ∀ d : D, wD d ≤ 100000 → nc d = true ∧ ∃ p, (∀ f, toPW f d = some p) ∧ wP p = wD d ∧ p.depth = dD d
  | .non, _ => ⟨rfl, .none, fun _ => rfl, rfl, rfl⟩
  | .bl b, _ => ⟨rfl, .bool b, fun _ => rfl, rfl, rfl⟩
  | .int i, _ => ⟨rfl, .int i, fun _ => rfl, rfl, rfl⟩
  | .str x, _ => ⟨rfl, .str ⟨x.toArray⟩, fun _ => rfl, rfl, rfl⟩
  | .tup xs, h => by
    obtain ⟨h0, ps, h1, h2, h3⟩ := pls_ok xs (Nat.le_trans (Nat.le_add_right _ 3) h)
    exact ⟨h0, .tuple ps, fun f => by show (toPWs f xs).map _ = _; rw [h1]; rfl, by show wPs ps + 3 = _; rw [h2]; rfl, by show PySem.PyData.depthAll ps + 1 = _; rw [h3]; rfl⟩
  | .lst xs, h => by
    obtain ⟨h0, ps, h1, h2, h3⟩ := pls_ok xs (Nat.le_trans (Nat.le_add_right _ 3) h)
    exact ⟨h0, .list ps, fun f => by show (toPWs f xs).map _ = _; rw [h1]; rfl, by show wPs ps + 3 = _; rw [h2]; rfl, by show PySem.PyData.depthAll ps + 1 = _; rw [h3]; rfl⟩
  | .dK xs, h => by
    obtain ⟨h0, ps, h1, h2, h3⟩ := plk_ok xs (Nat.le_trans (Nat.le_add_right _ 3) h)
    exact ⟨h0, .dict ps, fun f => by show (toPWK f xs).map _ = _; rw [h1]; rfl, by show wPk ps + 3 = _; rw [h2]; rfl, by rw [show (PySem.PyData.dict ps).depth = dDk xs + 1 from h3]; rfl⟩
  | .scr _, h => absurd h (by show ¬ (1000000 ≤ 100000); decide)
  | .dT _, h => absurd h (by show ¬ (1000000 ≤ 100000); decide)
  | .obj _ _, h => absurd h (by show ¬ (1000000 ≤ 100000); decide)
  | .cell _, h => absurd h (by show ¬ (1000000 ≤ 100000); decide)
theorem pls_ok : ∀ ds : List D, wDs ds ≤ 100000 → ncs ds = true ∧ ∃ ps, (∀ f, toPWs f ds = some ps) ∧ wPs ps = wDs ds ∧ PySem.PyData.depthAll ps = dDs ds
  | [], _ => ⟨rfl, [], fun _ => rfl, rfl, rfl⟩
  | d :: r, h => by
    have h : wD d + 2 + wDs r ≤ 100000 := h
    obtain ⟨a0, p, a1, a2, a3⟩ := pl_ok d (by omega)
    obtain ⟨b0, ps, b1, b2, b3⟩ := pls_ok r (by omega)
    refine ⟨by show (nc d && ncs r) = true; rw [a0, b0]; rfl, p :: ps, fun f => ?_, ?_, ?_⟩
    · unfold toPWs
      rw [a1, b1]
    · show wP p + 2 + wPs ps = _
      rw [a2, b2]; rfl
    · show max p.depth (PySem.PyData.depthAll ps) = _
      rw [a3, b3]; rfl
theorem plk_ok : ∀ ds : List (Ky × D), wDk ds ≤ 100000 → ncK ds = true ∧ ∃ ps, (∀ f, toPWK f ds = some ps) ∧ wPk ps = wDk ds ∧ (PySem.PyData.dict ps).depth = dDk ds + 1
  | [], _ => ⟨rfl, [], fun _ => rfl, rfl, rfl⟩
  | (k, d) :: r, h => by
    have h : wKy k + wD d + 4 + wDk r ≤ 100000 := h
    obtain ⟨a0, p, a1, a2, a3⟩ := pl_ok d (by omega)
    obtain ⟨b0, ps, b1, b2, b3⟩ := plk_ok r (by omega)
    refine ⟨by show (nc d && ncK r) = true; rw [a0, b0]; rfl, (kyP k, p) :: ps, fun f => ?_, ?_, ?_⟩
    · unfold toPWK
      rw [a1, b1]
    · show wP (kyP k) + wP p + 4 + wPk ps = _
      rw [a2, b2]; rfl
    · have b3 : PySem.PyData.depthKv ps + 1 = dDk r + 1 := b3
      show max (max (kyP k).depth p.depth) (PySem.PyData.depthKv ps) + 1 = max (max (kyP k).depth (dD d)) (dDk r) + 1
      rw [a3, Nat.add_right_cancel b3]
end
/-- data small enough to be shown -/
def Sm1 (d : D) : Prop := wD d ≤ 100000 ∧ dD d ≤ 40
theorem Sm1.nc {d : D} (h : Sm1 d) : nc d = true := (pl_ok d h.1).1
/-- its text -/
theorem Sm1.rp {d : D} (h : Sm1 d) : ∃ t, (∀ S, reprD S d = some t) ∧ ∀ (S : Sto) n, S[n]? = some d → reprD S (.cell n) = some t := by
  obtain ⟨_, p, h1, h2, h3⟩ := pl_ok d h.1
  have hc : wP p ≤ big ∧ p.depth ≤ 40 := ⟨h2 ▸ h.1, h3 ▸ h.2⟩
  refine ⟨p.shown.cps.toList, fun S => ?_, fun S n e => ?_⟩
  · unfold reprD
    rw [show toP S 4 d = some p from h1 _]
    exact if_pos hc
  · unfold reprD
    have : toP S 4 (.cell n) = some p := by
      show (match S[n]? with
        | some c => toP S 3 c
        | none => none) = _
      rw [e]
      exact h1 _
    rw [this]
    exact if_pos hc
theorem Sm1.of {d : D} (h : wD d ≤ 100000) (h2 : dD d ≤ 40) : Sm1 d := ⟨h, h2⟩
@[simp] theorem wD_non : wD .non = 4 := id rfl
@[simp] theorem wD_bl (b : Bool) : wD (.bl b) = 5 := id rfl
theorem wD_int {i : Int} (h : i.natAbs < 10000000000000000000000000000000000000000) : wD (.int i) = 41 := if_pos h
theorem wD_str {x : List Nat} (h : ∀ c ∈ x, c < 1114112) : wD (.str x) = 10 * x.length + 2 := if_pos (by rw [List.all_eq_true]; exact fun c hc => decide_eq_true (h c hc))
@[simp] theorem wD_lst (xs : List D) : wD (.lst xs) = wDs xs + 3 := id rfl
@[simp] theorem wD_tup (xs : List D) : wD (.tup xs) = wDs xs + 3 := id rfl
@[simp] theorem wDs_nil : wDs [] = 0 := id rfl
@[simp] theorem wDs_cons (d : D) (r : List D) : wDs (d :: r) = wD d + 2 + wDs r := id rfl
@[simp] theorem dD_lst (xs : List D) : dD (.lst xs) = dDs xs + 1 := id rfl
@[simp] theorem dD_tup (xs : List D) : dD (.tup xs) = dDs xs + 1 := id rfl
@[simp] theorem dDs_nil : dDs [] = 0 := id rfl
@[simp] theorem dDs_cons (d : D) (r : List D) : dDs (d :: r) = max (dD d) (dDs r) := id rfl
@[simp] theorem dD_non : dD .non = 0 := id rfl
@[simp] theorem dD_bl (b : Bool) : dD (.bl b) = 0 := id rfl
@[simp] theorem dD_int (i : Int) : dD (.int i) = 0 := id rfl
@[simp] theorem dD_str (x : List Nat) : dD (.str x) = 0 := id rfl
theorem wDs_app : ∀ xs ys : List D, wDs (xs ++ ys) = wDs xs + wDs ys
  | [], ys => by simp
  | x :: xs, ys => by
    rw [List.cons_append, wDs_cons, wDs_cons, wDs_app xs ys]
    omega
theorem dDs_app : ∀ xs ys : List D, dDs (xs ++ ys) = max (dDs xs) (dDs ys)
  | [], ys => by simp
  | x :: xs, ys => by
    rw [List.cons_append, dDs_cons, dDs_cons, dDs_app xs ys]
    omega
theorem wDs_le {xs : List D} {m : Nat} (h : ∀ d ∈ xs, wD d ≤ m) : wDs xs ≤ xs.length * (m + 2) := by
  induction xs with
  | nil => exact Nat.zero_le _
  | cons x xs ih =>
    have h1 := h x List.mem_cons_self
    have h2 := ih fun d hd => h d (List.mem_cons_of_mem _ hd)
    rw [wDs_cons, List.length_cons, Nat.succ_mul]
    omega
theorem dDs_le {xs : List D} {m : Nat} (h : ∀ d ∈ xs, dD d ≤ m) : dDs xs ≤ m := by
  induction xs with
  | nil => exact Nat.zero_le _
  | cons x xs ih =>
    have h1 := h x List.mem_cons_self
    have h2 := ih fun d hd => h d (List.mem_cons_of_mem _ hd)
    rw [dDs_cons]
    omega
theorem dDs_mem {xs : List D} {d : D} (h : d ∈ xs) : dD d ≤ dDs xs := by
  induction xs with
  | nil => cases h
  | cons x xs ih =>
    rw [dDs_cons]
    rcases List.mem_cons.mp h with rfl | h
    · omega
    · have := ih h
      omega
theorem wDs_mem {xs : List D} {d : D} (h : d ∈ xs) : wD d + 2 ≤ wDs xs := by
  induction xs with
  | nil => cases h
  | cons x xs ih =>
    rw [wDs_cons]
    rcases List.mem_cons.mp h with rfl | h
    · omega
    · have := ih h
      omega
/-! ### == of data -/
mutual
/-- no dict within -/
def nd : D → Bool
  | .dK _ => false
  | .lst xs => nds xs
  | .tup xs => nds xs
  | _ => true
def nds : List D → Bool
  | [] => true
  | d :: r => nd d && nds r
end
mutual
theorem lay_ok (f : Nat → Option PD) : ∀ (d : D) (p : PD), wD d ≤ 100000 → nd d = true → toPW f d = some p → p.canLay0 = true
  | .non, _, _, _, e => by cases e; rfl
  | .bl b, _, _, _, e => by cases e; rfl
  | .int i, _, _, _, e => by cases e; rfl
  | .str x, _, h, _, e => by
    cases e
    show (x.toArray).all (fun c => decide (c < 1114112)) = true
    have h : (if x.all (fun c => decide (c < 1114112)) then 10 * x.length + 2 else 1000000) ≤ 100000 := h
    cases q : x.all (fun c => decide (c < 1114112)) with
    | true => simpa using q
    | false =>
      rw [q] at h
      exact absurd (show 1000000 ≤ 100000 from h) (by decide)
  | .tup xs, p, h, n, e => by
    have e : (toPWs f xs).map PySem.PyData.tuple = some p := e
    cases q : toPWs f xs with
    | none => rw [q] at e; cases e
    | some ps =>
      rw [q] at e
      cases e
      exact lays_ok f xs ps (Nat.le_trans (Nat.le_add_right _ 3) h) n q
  | .lst xs, p, h, n, e => by
    have e : (toPWs f xs).map PySem.PyData.list = some p := e
    cases q : toPWs f xs with
    | none => rw [q] at e; cases e
    | some ps =>
      rw [q] at e
      cases e
      exact lays_ok f xs ps (Nat.le_trans (Nat.le_add_right _ 3) h) n q
  | .dK xs, _, _, n, _ => by cases n
  | .scr _, _, h, _, _ => absurd h (by show ¬ (1000000 ≤ 100000); decide)
  | .dT _, _, h, _, _ => absurd h (by show ¬ (1000000 ≤ 100000); decide)
  | .obj _ _, _, h, _, _ => absurd h (by show ¬ (1000000 ≤ 100000); decide)
  | .cell _, _, h, _, _ => absurd h (by show ¬ (1000000 ≤ 100000); decide)
theorem lays_ok (f : Nat → Option PD) : ∀ (ds : List D) (ps : List PD), wDs ds ≤ 100000 → nds ds = true → toPWs f ds = some ps → PySem.PyData.canLayAll0 ps = true
  | [], _, _, _, e => by cases e; rfl
  | d :: r, ps, h, n, e => by
    have h : wD d + 2 + wDs r ≤ 100000 := h
    have n : (nd d && nds r) = true := n
    rw [Bool.and_eq_true] at n
    have e : (match toPW f d, toPWs f r with
      | some a, some b => some (a :: b)
      | _, _ => none) = some ps := e
    cases q : toPW f d with
    | none => rw [q] at e; cases e
    | some p =>
      cases q2 : toPWs f r with
      | none => rw [q, q2] at e; cases e
      | some qs =>
        rw [q, q2] at e
        cases e
        show (p.canLay0 && PySem.PyData.canLayAll0 qs) = true
        rw [lay_ok f d p (by omega) n.1 q, lays_ok f r qs (by omega) n.2 q2]
        rfl
end
/-- what == tells of closed data -/
def eqB (x y : D) : Bool := match toPW (fun _ => none) x, toPW (fun _ => none) y with
  | some p, some q => PySem.PyData.eqv p q
  | _, _ => false
/-- a cell that is none stands nowhere -/
def Lv (S : Sto) (d : D) : Prop := ∀ n, d = .cell n → n < S.length
theorem toP_get {S : Sto} {d : D} (h : Lv S d) (s : Sm1 (EL.get S d)) : toP S 4 d = toPW (fun _ => none) (EL.get S d) := by
  obtain ⟨_, p, h1, _, _⟩ := pl_ok _ s.1
  cases d with
  | cell n =>
    have hn := h n rfl
    have e : EL.get S (.cell n) = S[n] := by
      show S.getD n .non = _
      rw [List.getD_eq_getElem?_getD, List.getElem?_eq_getElem hn]
      rfl
    rw [e] at h1 s ⊢
    show (match S[n]? with
      | some c => toP S 3 c
      | none => none) = _
    rw [List.getElem?_eq_getElem hn, h1]
    exact h1 _
  | _ => exact (h1 _).trans (h1 _).symm
theorem eq_g {S : Sto} {x y : D} (hx : Lv S x) (hy : Lv S y) (sx : Sm1 (EL.get S x)) (sy : Sm1 (EL.get S y)) (nx : nd (EL.get S x) = true) (ny : nd (EL.get S y) = true) :
    (match toP S 4 x, toP S 4 y with
    | some p, some q => if PySem.SeqAt.shaped p && PySem.SeqAt.shaped q then some (PySem.PyData.eqv p q) else none
    | _, _ => none) = some (eqB (EL.get S x) (EL.get S y)) := by
  obtain ⟨_, p, h1, _, h2⟩ := pl_ok _ sx.1
  obtain ⟨_, q, k1, _, k2⟩ := pl_ok _ sy.1
  have sp : PySem.SeqAt.shaped p = true := by
    show (p.canLay0 && decide (p.depth ≤ 64)) = true
    rw [lay_ok (fun _ => none) _ p sx.1 nx (h1 _), decide_eq_true (by have := sx.2; omega)]
    rfl
  have sq : PySem.SeqAt.shaped q = true := by
    show (q.canLay0 && decide (q.depth ≤ 64)) = true
    rw [lay_ok (fun _ => none) _ q sy.1 ny (k1 _), decide_eq_true (by have := sy.2; omega)]
    rfl
  rw [toP_get hx sx, toP_get hy sy]
  unfold eqB
  rw [h1, k1]
  dsimp only
  rw [sp, sq]
  rfl
theorem toPWs_len {f : Nat → Option PD} : ∀ {ds : List D} {ps : List PD}, toPWs f ds = some ps → ps.length = ds.length
  | [], ps, e => by cases e; rfl
  | d :: r, ps, e => by
    have e : (match toPW f d, toPWs f r with
      | some a, some b => some (a :: b)
      | _, _ => none) = some ps := e
    cases q : toPW f d with
    | none => rw [q] at e; cases e
    | some p =>
      cases q2 : toPWs f r with
      | none => rw [q, q2] at e; cases e
      | some qs =>
        rw [q, q2] at e
        cases e
        show qs.length + 1 = r.length + 1
        rw [toPWs_len q2]
theorem eqvAll_len : ∀ {ps qs : List PD}, PySem.PyData.eqvAll ps qs = true → ps.length = qs.length
  | [], [], _ => rfl
  | [], _ :: _, e => by cases e
  | _ :: _, [], e => by cases e
  | p :: ps, q :: qs, e => by
    have e : (PySem.PyData.eqv p q && PySem.PyData.eqvAll ps qs) = true := by rw [PySem.PyData.eqvAll] at e; exact e
    rw [Bool.and_eq_true] at e
    show ps.length + 1 = qs.length + 1
    rw [eqvAll_len e.2]
theorem eqB_lens {x y : D} (h : lenNe x y = true) : eqB x y = false := by
  unfold lenNe at h
  split at h
  · rename_i xs ys
    unfold eqB
    split
    · rename_i p q hp hq
      have hp : (toPWs (fun _ => none) xs).map PySem.PyData.list = some p := hp
      have hq : (toPWs (fun _ => none) ys).map PySem.PyData.list = some q := hq
      obtain ⟨ps, h1, rfl⟩ := Option.map_eq_some_iff.mp hp
      obtain ⟨qs, h2, rfl⟩ := Option.map_eq_some_iff.mp hq
      cases e : PySem.PyData.eqv (.list ps) (.list qs) with
      | false => rfl
      | true =>
        have e : PySem.PyData.eqvAll ps qs = true := by rw [PySem.PyData.eqv] at e; exact e
        have := eqvAll_len e
        rw [toPWs_len h1, toPWs_len h2] at this
        rw [this] at h
        simp at h
    · rfl
  · rename_i xs ys
    unfold eqB
    split
    · rename_i p q hp hq
      have hp : (toPWK (fun _ => none) xs).map PySem.PyData.dict = some p := hp
      have hq : (toPWs (fun _ => none) ys).map PySem.PyData.tuple = some q := hq
      obtain ⟨ps, h1, rfl⟩ := Option.map_eq_some_iff.mp hp
      obtain ⟨qs, h2, rfl⟩ := Option.map_eq_some_iff.mp hq
      rfl
    · rfl
  · rename_i xs ys
    unfold eqB
    split
    · rename_i p q hp hq
      have hp : (toPWs (fun _ => none) xs).map PySem.PyData.tuple = some p := hp
      have hq : (toPWK (fun _ => none) ys).map PySem.PyData.dict = some q := hq
      obtain ⟨ps, h1, rfl⟩ := Option.map_eq_some_iff.mp hp
      obtain ⟨qs, h2, rfl⟩ := Option.map_eq_some_iff.mp hq
      rfl
    · rfl
  · cases h
theorem eq_gl {S : Sto} {x y : D} (hx : Lv S x) (hy : Lv S y) (sx : Sm1 (EL.get S x)) (sy : Sm1 (EL.get S y)) (nx : nd (EL.get S x) = true) (ny : nd (EL.get S y) = true) (h : ∀ i, x ≠ .int i) (h2 : ∀ i, x ≠ .str i) :
    eqD S x y = some (eqB (EL.get S x) (EL.get S y)) := by
  have := eq_g hx hy sx sy nx ny
  unfold eqD
  split
  · exact absurd rfl (h _)
  · exact absurd rfl (h2 _)
  · split
    · rename_i z
      rw [eqB_lens z]
    · exact this
theorem eqB_nil {xs : List D} (h : wDs xs ≤ 90000) : eqB (.lst xs) (.lst []) = xs.isEmpty := by
  obtain ⟨_, ps, h1, _, _⟩ := pls_ok xs (by omega)
  unfold eqB
  have e : toPW (fun _ => none) (.lst xs) = some (.list ps) := by
    show (toPWs _ xs).map _ = _
    rw [h1]; rfl
  rw [e, show toPW (fun _ => none) (.lst []) = some (.list []) from rfl]
  cases xs with
  | nil =>
    have := h1 fun _ => none
    cases this
    rfl
  | cons x xs =>
    have := h1 fun _ => none
    have : (match toPW (fun _ => none) x, toPWs (fun _ => none) xs with
      | some a, some b => some (a :: b)
      | _, _ => none) = some ps := this
    split at this
    · cases this
      rfl
    · cases this
theorem eq_nil {S : Sto} {L : List D} : cmpD .eq S (.lst L) (.lst []) = some L.isEmpty := by
  have e : cmpD .eq S (.lst L) (.lst []) = eqD S (.lst L) (.lst []) := by unfold cmpD; rfl
  rw [e]
  show (if lenNe (.lst L) (.lst []) = true then _ else _) = _
  cases L with
  | nil =>
    show (match some (PySem.PyData.list []), some (PySem.PyData.list []) with
      | some p, some q => if (PySem.SeqAt.shaped p && PySem.SeqAt.shaped q) = true then some (PySem.PyData.eqv p q) else none
      | x, x_1 => none) = _
    decide +kernel
  | cons x L => rfl
theorem ne_nil {S : Sto} {L : List D} : cmpD .ne S (.lst L) (.lst []) = some (!L.isEmpty) := by
  have e : cmpD .ne S (.lst L) (.lst []) = (cmpD .eq S (.lst L) (.lst [])).map (!·) := by unfold cmpD; rfl
  rw [e, eq_nil]
  rfl
theorem nds_all {xs : List D} : nds xs = true ↔ ∀ d ∈ xs, nd d = true := by
  induction xs with
  | nil => exact ⟨fun _ d hd => (by cases hd), fun _ => rfl⟩
  | cons x xs ih =>
    show (nd x && nds xs) = true ↔ _
    rw [Bool.and_eq_true, ih]
    simp
/-- the text of closed data -/
def rpT (d : D) : List Nat := (reprD [] d).getD []
theorem rep_g {S : Sto} {d : D} (h : Lv S d) (s : Sm1 (EL.get S d)) : reprD S d = some (rpT (EL.get S d)) := by
  obtain ⟨t, h1, _⟩ := s.rp
  have e : toP S 4 d = toP [] 4 (EL.get S d) := by
    obtain ⟨_, p, k1, _⟩ := pl_ok _ s.1
    rw [toP_get h s, k1]
    exact (k1 _).symm
  unfold rpT
  rw [h1]
  have := h1 []
  unfold reprD at this ⊢
  rw [e]
  exact this
@[simp] theorem nd_str (x : List Nat) : nd (.str x) = true := id rfl
@[simp] theorem nd_int (x : Int) : nd (.int x) = true := id rfl
@[simp] theorem nd_non : nd .non = true := id rfl
@[simp] theorem nd_bl (b : Bool) : nd (.bl b) = true := id rfl
@[simp] theorem nd_lst (xs : List D) : nd (.lst xs) = nds xs := id rfl
@[simp] theorem nd_tup (xs : List D) : nd (.tup xs) = nds xs := id rfl
@[simp] theorem nds_nil : nds [] = true := id rfl
@[simp] theorem nds_cons (x : D) (xs : List D) : nds (x :: xs) = (nd x && nds xs) := id rfl
@[simp] theorem b_divmod {b : Bool} {i j : Int} {S : Sto} (h0 : 0 < j) (h : j < 1073741824) : bfD b .divmod [.int i, .int j] S = .ok (.tup [.int (i / j), .int (i % j)]) S := if_pos ⟨h0, h⟩
theorem join_l {sep : List Nat} {xs : List (List Nat)} {ds : List D} {S : Sto} (e : ds = xs.map .str) (h : lenT sep.length xs ≤ 100000) : joinR sep (.lst ds) S = .ok (.str (joinT sep xs)) S := e ▸ joinR_strs h
theorem joinT_len (sep : List Nat) : ∀ xs : List (List Nat), (joinT sep xs).length ≤ lenT sep.length xs
  | [] => Nat.le_refl _
  | [x] => by
    show x.length ≤ x.length + sep.length + 0
    omega
  | x :: y :: r => by
    have := joinT_len sep (y :: r)
    show (x ++ (sep ++ joinT sep (y :: r))).length ≤ x.length + sep.length + lenT sep.length (y :: r)
    rw [List.length_append, List.length_append]
    omega
theorem joinT_all {sep : List Nat} {P : Nat → Prop} (hs : ∀ c ∈ sep, P c) : ∀ {xs : List (List Nat)}, (∀ x ∈ xs, ∀ c ∈ x, P c) → ∀ c ∈ joinT sep xs, P c
  | [], _ => fun c hc => by cases hc
  | [x], h => h x List.mem_cons_self
  | x :: y :: r, h => fun c hc => by
    have hc : c ∈ x ++ (sep ++ joinT sep (y :: r)) := hc
    rcases List.mem_append.mp hc with hc | hc
    · exact h x List.mem_cons_self c hc
    · rcases List.mem_append.mp hc with hc | hc
      · exact hs c hc
      · exact joinT_all hs (fun z hz => h z (List.mem_cons_of_mem _ hz)) c hc
/-! ### numbers in figures -/
theorem dec_lt {i : Int} : ∀ c ∈ dec i, c < 1114112 := fun c hc => by
  have e : dec i = (toString i).toList.map Char.toNat := PyProof.Rows.signs_ofString _
  rw [e] at hc
  obtain ⟨ch, _, rfl⟩ := List.mem_map.mp hc
  have h : ch.val.toNat.isValidChar := ch.valid
  show ch.val.toNat < 1114112
  rcases h with h | h <;> omega
end EL

/-! ELp7: calculus: get, index, capital letters, sorted, dict(..), f'..'. -/
namespace EL
/-! ### get -/
def dgG (d : D) (k e : D) (S : Sto) : R D := match d with
  | .dK kvs => (match kyOf k with
    | some q => .ok ((dget q kvs).getD e) S
    | none => .stuck)
  | _ => .stuck
theorem dgD_G (S : Sto) (x k d : D) : dgD S x k d = dgG (EL.get S x) k d S := by
  unfold dgD dgG
  cases EL.get S x <;> rfl
@[simp] theorem bm_get (b : Bool) (x k : D) (S : Sto) : bmD b .get x [k] S = dgG (EL.get S x) k .non S := (show bmD b .get x [k] S = dgD S x k .non by cases x <;> rfl).trans (dgD_G _ _ _ _)
@[simp] theorem bm_get2 (b : Bool) (x k d : D) (S : Sto) : bmD b .get2 x [k, d] S = dgG (EL.get S x) k d S := (show bmD b .get2 x [k, d] S = dgD S x k d by cases x <;> rfl).trans (dgD_G _ _ _ _)
@[simp] theorem dgG_str (kvs : List (Ky × D)) (k : List Nat) (d : D) (S : Sto) : dgG (.dK kvs) (.str k) d S = .ok ((dget (.s k) kvs).getD d) S := id rfl
@[simp] theorem dgG_int (kvs : List (Ky × D)) (k : Int) (d : D) (S : Sto) : dgG (.dK kvs) (.int k) d S = .ok ((dget (.i k) kvs).getD d) S := id rfl
@[simp] theorem rcv_get (kvs : List (Ky × D)) : rcv .get (.dK kvs) = true := id rfl
@[simp] theorem rcv_get2 (kvs : List (Ky × D)) : rcv .get2 (.dK kvs) = true := id rfl
/-! ### index -/
def ixG (d y : D) (S : Sto) : R D := match d with
  | .lst ys => if (flatD y && ys.all flatD) = true then (match ixF y 0 ys with
    | some j => .ok (.int (j : Nat)) S
    | none => .stuck) else .stuck
  | _ => .stuck
@[simp] theorem bm_index (b : Bool) (x y : D) (S : Sto) : bmD b .index x [y] S = ixG (EL.get S x) y S := (show bmD b .index x [y] S = ixD S x y by cases x <;> rfl).trans (by
  unfold ixD ixG
  cases EL.get S x <;> rfl)
@[simp] theorem rcv_index (xs : List D) : rcv .index (.lst xs) = true := id rfl
theorem ixF_str {y : List Nat} : ∀ {xs : List (List Nat)} {i : Nat}, y ∈ xs → ixF (.str y) i (xs.map .str) = some (i + xs.idxOf y)
  | [], _, h => by cases h
  | x :: r, i, h => by
    show (if eqF (.str x) (.str y) then some i else ixF (.str y) (i + 1) (r.map .str)) = _
    by_cases e : x = y
    · subst e
      rw [if_pos (show eqF (.str x) (.str x) = true from decide_eq_true rfl), List.idxOf_cons_self]
      rfl
    · rw [if_neg (by show ¬ decide (x = y) = true; simpa using e), ixF_str (by
        rcases List.mem_cons.mp h with h | h
        · exact absurd h.symm e
        · exact h), List.idxOf_cons]
      have e3 : (x == y) = false := by simpa using e
      rw [e3]
      show some (i + 1 + _) = some (i + (_ + 1))
      congr 1
      omega
theorem ixG_str {y : List Nat} {xs : List (List Nat)} {S : Sto} (h : y ∈ xs) : ixG (.lst (xs.map .str)) (.str y) S = .ok (.int (xs.idxOf y : Nat)) S := by
  have hf : (flatD (.str y) && (xs.map D.str).all flatD) = true := by rw [all_flat]; rfl
  unfold ixG
  dsimp only
  rw [if_pos hf, ixF_str h]
  simp
/-! ### capital letters -/
@[simp] theorem rcv_upper (x : List Nat) : rcv .upper (.str x) = true := id rfl
theorem bm_upper {b : Bool} {x : List Nat} {S : Sto} (h : x.length ≤ 100000) (h2 : ∀ c ∈ x, c < 128) : bmD b .upper (.str x) [] S = .ok (.str (x.map upC)) S := by
  show (if x.length ≤ big ∧ (x.all fun c => decide (c < 128)) = true then _ else _) = _
  rw [if_pos ⟨h, List.all_eq_true.mpr fun c hc => decide_eq_true (h2 c hc)⟩]
/-! ### sorted, dict -/
def srtG (b : Bool) (d : D) (S : Sto) : R D := match d with
  | .lst xs => (match allI xs with
    | some ns => if ns.length < 64 then mkF b (.lst ((sortI ns).map .int)) S else .stuck
    | none => .stuck)
  | _ => .stuck
@[simp] theorem b_sorted (b : Bool) (x : D) (S : Sto) : bfD b .sorted [x] S = srtG b (EL.get S x) S := by
  show srtD b S x = _
  unfold srtD srtG
  cases EL.get S x <;> rfl
theorem allI_int : ∀ ns : List Int, allI (ns.map .int) = some ns
  | [] => rfl
  | i :: r => by
    show (allI (r.map .int)).map _ = _
    rw [allI_int r]
    rfl
theorem srtG_int {b : Bool} {ns : List Int} {S : Sto} (h : ns.length < 64) : srtG b (.lst (ns.map .int)) S = mkF b (.lst ((sortI ns).map .int)) S := by
  unfold srtG
  dsimp only
  rw [allI_int]
  exact if_pos h
def dicG (b : Bool) (d : D) (S : Sto) : R D := match d with
  | .dK kvs => mkF b (.dK kvs) S
  | .lst xs => (match pairT xs with
    | some kvs => mkF b (.dK (mergeD [] kvs)) S
    | none => .stuck)
  | _ => .stuck
@[simp] theorem b_dict (b : Bool) (x : D) (S : Sto) : bfD b .dict [x] S = dicG b (EL.get S x) S := by
  show dicC b S x = _
  unfold dicC dicG
  cases EL.get S x <;> rfl
@[simp] theorem dicG_d (b : Bool) (kvs : List (Ky × D)) (S : Sto) : dicG b (.dK kvs) S = mkF b (.dK kvs) S := id rfl
/-! ### f'..' -/
section
variable (C : Cn) (l : Loc) (S : Sto)
@[simp] theorem e_fst (as : List Ex) : evE C (.fst as) l S = evFs C as [] l S := by simp only [evE]
@[simp] theorem fs_end (acc : List Nat) : evFs C [] acc l S = .ok (.str acc) S := by simp only [evFs]
def fsO (C : Cn) (r : List Ex) (acc : List Nat) (l : Loc) (o : Option (List Nat)) (S : Sto) : R D := match o with
  | some y => if acc.length + y.length ≤ big then evFs C r (acc ++ y) l S else .stuck
  | none => .stuck
@[simp] theorem fs_step (e : Ex) (r : List Ex) (acc : List Nat) : evFs C (e :: r) acc l S = (evE C e l S).bd fun d S1 => fsO C r acc l (fmtD d) S1 := by
  simp only [evFs, bd_eq]
  rfl
theorem fsO_ok {r : List Ex} {acc y : List Nat} (h : acc.length + y.length ≤ 100000) : fsO C r acc l (some y) S = evFs C r (acc ++ y) l S := if_pos h
end
theorem fmt_str {x : List Nat} (h : x.length ≤ 100000) : fmtD (.str x) = some x := if_pos h
theorem fmt_int {i : Int} (h : i.natAbs < 10000000000000000000000000000000000000000) : fmtD (.int i) = some (dec i) := if_pos (decide_eq_true h)
end EL

/-! ELp8: things: closed data of no more than so much, or cells with lists of such; names; what stays of the store. -/
namespace EL
/-- closed data of no more than so much, or a cell with a list of such -/
def Pt (m : Nat) (S : Sto) (d : D) : Prop := (wD d ≤ m ∧ dD d ≤ 3 ∧ ∀ xs, d ≠ .lst xs) ∨ ∃ n xs, d = .cell n ∧ S[n]? = some (.lst xs) ∧ wD (.lst xs) ≤ m ∧ dD (.lst xs) ≤ 3
theorem wD_scr {xs : List D} {m : Nat} (hm : m ≤ 100000) (h : wD (.scr xs) ≤ m) : False := absurd (Nat.le_trans (show 1000000 ≤ m from h) hm) (by decide)
theorem wD_dT {xs} {m : Nat} (hm : m ≤ 100000) (h : wD (.dT xs) ≤ m) : False := absurd (Nat.le_trans (show 1000000 ≤ m from h) hm) (by decide)
theorem wD_obj {c xs} {m : Nat} (hm : m ≤ 100000) (h : wD (.obj c xs) ≤ m) : False := absurd (Nat.le_trans (show 1000000 ≤ m from h) hm) (by decide)
theorem wD_cell {c} {m : Nat} (hm : m ≤ 100000) (h : wD (.cell c) ≤ m) : False := absurd (Nat.le_trans (show 1000000 ≤ m from h) hm) (by decide)
theorem wD_str_inv {x : List Nat} {m : Nat} (hm : m ≤ 100000) (h : wD (.str x) ≤ m) : 10 * x.length + 2 ≤ m ∧ ∀ c ∈ x, c < 1114112 := by
  have h : (if x.all (fun c => decide (c < 1114112)) then 10 * x.length + 2 else 1000000) ≤ m := h
  cases q : x.all (fun c => decide (c < 1114112)) with
  | true =>
    rw [q] at h
    exact ⟨h, fun c hc => of_decide_eq_true (List.all_eq_true.mp q c hc)⟩
  | false =>
    rw [q] at h
    exact absurd (Nat.le_trans (show 1000000 ≤ m from h) hm) (by decide)
inductive Kind (S : Sto) : D → Prop where
  | non : Kind S .non
  | bl (b : Bool) : Kind S (.bl b)
  | int (i : Int) : Kind S (.int i)
  | str (x : List Nat) (h : x.length ≤ 10000) (h2 : ∀ c ∈ x, c < 1114112) : Kind S (.str x)
  | tup (xs : List D) : Kind S (.tup xs)
  | lst (xs : List D) : Kind S (.lst xs)
  | dK (xs : List (Ky × D)) : Kind S (.dK xs)
  | cell (n : Nat) (xs : List D) (h : S[n]? = some (.lst xs)) : Kind S (.cell n)
theorem Pt.kind {m : Nat} {S : Sto} {d : D} (hm : m ≤ 100000) (h : Pt m S d) : Kind S d := by
  rcases h with ⟨h, _⟩ | ⟨n, xs, rfl, e, _⟩
  · cases d with
    | non => exact .non
    | bl b => exact .bl b
    | int i => exact .int i
    | str x =>
      have := wD_str_inv hm h
      exact .str x (by omega) this.2
    | tup xs => exact .tup xs
    | lst xs => exact .lst xs
    | dK xs => exact .dK xs
    | scr xs => exact (wD_scr hm h).elim
    | dT xs => exact (wD_dT hm h).elim
    | obj c xs => exact (wD_obj hm h).elim
    | cell c => exact (wD_cell hm h).elim
  · exact .cell n xs e
theorem Kind.of_wD {S : Sto} {d : D} {m : Nat} (hm : m ≤ 100000) (h : wD d ≤ m) : Kind S d := by
  cases d with
  | non => exact .non
  | bl b => exact .bl b
  | int i => exact .int i
  | str x =>
    have := wD_str_inv hm h
    exact .str x (by omega) this.2
  | tup xs => exact .tup xs
  | lst xs => exact .lst xs
  | dK xs => exact .dK xs
  | scr xs => exact (wD_scr hm h).elim
  | dT xs => exact (wD_dT hm h).elim
  | obj c xs => exact (wD_obj hm h).elim
  | cell c => exact (wD_cell hm h).elim
theorem get_at {S : Sto} {n : Nat} {c : D} (h : S[n]? = some c) : EL.get S (.cell n) = c := by simp [h]
theorem val_of {r : RF} {v : D} {S : Sto} (h : Ret r fun d S' => d = v ∧ S = S') : r = .val v S := by
  obtain ⟨d, S', e, rfl, rfl⟩ := h.eq
  exact e
theorem fre_of {r : RF} {v : D} {S : Sto} (h : Fre r fun d S' => d = v ∧ S = S') : r = .fresh v S := by
  obtain ⟨d, S', e, rfl, rfl⟩ := h.eq
  exact e
theorem it_seq {S : Sto} {x : D} {xs : List D} (h : EL.get S x = .lst xs ∨ EL.get S x = .tup xs) (i : Nat) : itemD 0 [x] S i = some xs[i]? := by
  have : item0 [x] S i = some xs[i]? := by
    simp only [item0]
    rcases h with h | h <;> rw [h]
  exact this
theorem idx_mem {L : List D} {z : Int} (h0 : 0 ≤ z) (h1 : z < (L.length : Nat)) : ∃ x ∈ L, idxG (.lst L) (.int z) = some x := ⟨_, List.getElem_mem _, idxG_lst h0 h1⟩
/-! ### names -/
def Nm (x : List Nat) : Prop := (1 ≤ x.length ∧ x.length ≤ 6) ∧ ∀ c ∈ x, 97 ≤ c ∧ c ≤ 122
def lts : List Nat := [97, 98, 99, 100, 101, 102, 103, 104, 105, 106, 107, 108, 109, 110, 111, 112, 113, 114, 115, 116, 117, 118, 119, 120, 121, 122]
theorem lts_iff (c : Nat) : c ∈ lts ↔ 97 ≤ c ∧ c ≤ 122 := by
  unfold lts
  simp
  omega
instance (x : List Nat) : Decidable (Nm x) := by unfold Nm; infer_instance
theorem Nm.short {x : List Nat} (h : Nm x) : x.length ≤ 100000 := by
  have := h.1
  omega
theorem Nm.lt {x : List Nat} (h : Nm x) : ∀ c ∈ x, c < 1114112 := fun c hc => by have := h.2 c hc; omega
theorem wD_nm {x : List Nat} (h : Nm x) : wD (.str x) ≤ 62 := by
  rw [wD_str h.lt]
  have := h.1
  omega
def nameB : D → Bool
  | .str x => decide (Nm x)
  | _ => false
theorem nameB_str {d : D} (h : nameB d = true) : ∃ x, d = .str x ∧ Nm x := by
  cases d <;> simp [nameB] at h
  exact ⟨_, rfl, h⟩
def numB (lo hi : Int) : D → Bool
  | .int i => decide (lo ≤ i) && decide (i ≤ hi)
  | _ => false
theorem num_of {lo hi : Int} {d : D} (h : numB lo hi d = true) : ∃ i, d = .int i ∧ lo ≤ i ∧ i ≤ hi := by
  cases d <;> simp [numB] at h
  exact ⟨_, rfl, h⟩
theorem exitX_1 {c f : Nat} {S : Sto} {x : D} (h : bnd S.length x = true) : exitX S.length false c [(f, x)] S = .ex c [(f, x)] S := by
  rw [exitX_bnd (by show (bnd S.length x && true) = true; rw [h]; rfl), List.take_length]
theorem wDs_take {xs : List D} (i : Nat) : wDs (xs.take i) ≤ wDs xs := by
  have := wDs_app (xs.take i) (xs.drop i)
  rw [List.take_append_drop] at this
  omega
theorem wDs_drop {xs : List D} (i : Nat) : wDs (xs.drop i) ≤ wDs xs := by
  have := wDs_app (xs.take i) (xs.drop i)
  rw [List.take_append_drop] at this
  omega
theorem wDs_cut {xs : List D} {i j : Nat} (h : i ≤ j) : wDs (xs.take i) + wDs (xs.drop j) ≤ wDs xs := by
  have h1 := wDs_app (xs.take i) (xs.drop i)
  rw [List.take_append_drop] at h1
  have h2 : xs.drop j = (xs.drop i).drop (j - i) := by rw [List.drop_drop]; congr 1; omega
  have h3 := wDs_drop (xs := xs.drop i) (j - i)
  rw [h2]
  omega
/-! ### bounds -/
mutual
theorem bnd_le {a b : Nat} (h : a ≤ b) : ∀ {d : D}, bnd a d = true → bnd b d = true
  | .tup xs, e => bnds_le h (ds := xs) e
  | .lst xs, e => bnds_le h (ds := xs) e
  | .scr xs, e => bnds_le h (ds := xs) e
  | .dK xs, e => bndK_le h (ds := xs) e
  | .dT xs, e => bndT_le h (ds := xs) e
  | .obj _ xs, e => bndF_le h (ds := xs) e
  | .cell n, e => decide_eq_true (Nat.lt_of_lt_of_le (of_decide_eq_true (show decide (n < a) = true from e)) h)
  | .non, _ => rfl
  | .bl _, _ => rfl
  | .int _, _ => rfl
  | .str _, _ => rfl
theorem bnds_le {a b : Nat} (h : a ≤ b) : ∀ {ds : List D}, bnds a ds = true → bnds b ds = true
  | [], _ => rfl
  | _ :: _, e => and2.mpr ⟨bnd_le h (and2.mp e).1, bnds_le h (and2.mp e).2⟩
theorem bndK_le {a b : Nat} (h : a ≤ b) : ∀ {ds : List (Ky × D)}, bndK a ds = true → bndK b ds = true
  | [], _ => rfl
  | (_, _) :: _, e => and2.mpr ⟨bnd_le h (and2.mp e).1, bndK_le h (and2.mp e).2⟩
theorem bndT_le {a b : Nat} (h : a ≤ b) : ∀ {ds : List (List Ky × D)}, bndT a ds = true → bndT b ds = true
  | [], _ => rfl
  | (_, _) :: _, e => and2.mpr ⟨bnd_le h (and2.mp e).1, bndT_le h (and2.mp e).2⟩
theorem bndF_le {a b : Nat} (h : a ≤ b) : ∀ {ds : List (Nat × D)}, bndF a ds = true → bndF b ds = true
  | [], _ => rfl
  | (_, _) :: _, e => and2.mpr ⟨bnd_le h (and2.mp e).1, bndF_le h (and2.mp e).2⟩
end
theorem made_k {r : RF} {S : Sto} {Q : D → Sto → Prop} {X : Nat → Fds → Sto → Prop} (h : wpF r (fun f d S' => f = false ∧ d = .non ∧ ∃ o, exitV S.length false (.cell S.length) S' = .fresh o S ∧ Q o S) (fun c fs S' => bndF S.length fs = true ∧ X c fs (S'.take S.length))) : wpR (madeE false S.length r) Q X := by
  cases r with
  | val d S' =>
    obtain ⟨_, rfl, o, e, q⟩ := h
    show wpR (rfE false (exitV S.length false (.cell S.length) S')) Q X
    rw [e]
    exact q
  | fresh d S' => cases h.1
  | ex c fs S' =>
    show wpR (rfE false (exitX S.length false c fs S')) Q X
    rw [exitX_bnd h.1]
    exact h.2
  | stuck => exact h.elim
theorem dDs_sub {xs ys : List D} (h : ∀ d ∈ xs, d ∈ ys) : dDs xs ≤ dDs ys := dDs_le fun d hd => dDs_mem (h d hd)
end EL

/-! ELp9: == of a thing with itself; the greatest and least of numbers. -/
namespace EL
mutual
theorem eqv_me (f : Nat → Option PD) : ∀ (d : D) (p : PD), wD d ≤ 100000 → nd d = true → toPW f d = some p → PySem.PyData.eqv p p = true
  | .non, _, _, _, e => by cases e; rfl
  | .bl b, _, _, _, e => by cases e; cases b <;> rfl
  | .int i, _, _, _, e => by cases e; exact beq_self_eq_true _
  | .str x, _, h, _, e => by cases e; exact beq_self_eq_true _
  | .tup xs, p, h, n, e => by
    have e : (toPWs f xs).map PySem.PyData.tuple = some p := e
    cases q : toPWs f xs with
    | none => rw [q] at e; cases e
    | some ps =>
      rw [q] at e
      cases e
      exact eqvs_me f xs ps (Nat.le_trans (Nat.le_add_right _ 3) h) n q
  | .lst xs, p, h, n, e => by
    have e : (toPWs f xs).map PySem.PyData.list = some p := e
    cases q : toPWs f xs with
    | none => rw [q] at e; cases e
    | some ps =>
      rw [q] at e
      cases e
      exact eqvs_me f xs ps (Nat.le_trans (Nat.le_add_right _ 3) h) n q
  | .dK xs, _, _, n, _ => by cases n
  | .scr _, _, h, _, _ => absurd h (by show ¬ (1000000 ≤ 100000); decide)
  | .dT _, _, h, _, _ => absurd h (by show ¬ (1000000 ≤ 100000); decide)
  | .obj _ _, _, h, _, _ => absurd h (by show ¬ (1000000 ≤ 100000); decide)
  | .cell _, _, h, _, _ => absurd h (by show ¬ (1000000 ≤ 100000); decide)
theorem eqvs_me (f : Nat → Option PD) : ∀ (ds : List D) (ps : List PD), wDs ds ≤ 100000 → nds ds = true → toPWs f ds = some ps → PySem.PyData.eqvAll ps ps = true
  | [], _, _, _, e => by cases e; rfl
  | d :: r, ps, h, n, e => by
    have h : wD d + 2 + wDs r ≤ 100000 := h
    have n : (nd d && nds r) = true := n
    rw [Bool.and_eq_true] at n
    have e : (match toPW f d, toPWs f r with
      | some a, some b => some (a :: b)
      | _, _ => none) = some ps := e
    cases q : toPW f d with
    | none => rw [q] at e; cases e
    | some p =>
      cases q2 : toPWs f r with
      | none => rw [q, q2] at e; cases e
      | some qs =>
        rw [q, q2] at e
        cases e
        show (PySem.PyData.eqv p p && PySem.PyData.eqvAll qs qs) = true
        rw [eqv_me f d p (by omega) n.1 q, eqvs_me f r qs (by omega) n.2 q2]
        rfl
end
theorem eqB_me {d : D} (h : Sm1 d) (n : nd d = true) : eqB d d = true := by
  obtain ⟨_, p, h1, _, _⟩ := pl_ok _ h.1
  unfold eqB
  rw [h1]
  exact eqv_me (fun _ => none) d p h.1 n (h1 _)
/-- alike: the same behind both -/
theorem eq_me {S : Sto} {x y c : D} (ex : EL.get S x = c) (ey : EL.get S y = c) (hx : Lv S x) (hy : Lv S y) (s : Sm1 c) (n : nd c = true) (h : ∀ i, x ≠ .int i) (h2 : ∀ i, x ≠ .str i) : cmpD .eq S x y = some true := by
  have e : cmpD .eq S x y = eqD S x y := by unfold cmpD; rfl
  rw [e, eq_gl hx hy (ex ▸ s) (ey ▸ s) (ex ▸ n) (ey ▸ n) h h2, ex, ey, eqB_me s n]
theorem ne_me {S : Sto} {x y c : D} (ex : EL.get S x = c) (ey : EL.get S y = c) (hx : Lv S x) (hy : Lv S y) (s : Sm1 c) (n : nd c = true) (h : ∀ i, x ≠ .int i) (h2 : ∀ i, x ≠ .str i) : cmpD .ne S x y = some false := by
  have e : cmpD .ne S x y = (cmpD .eq S x y).map (!·) := by unfold cmpD; rfl
  rw [e, eq_me ex ey hx hy s n h h2]
  rfl
theorem Lv.lst {S : Sto} {xs : List D} : Lv S (.lst xs) := fun n e => by cases e
theorem Lv.tup {S : Sto} {xs : List D} : Lv S (.tup xs) := fun n e => by cases e
theorem Lv.at {S : Sto} {n : Nat} (h : n < S.length) : Lv S (.cell n) := fun m e => by cases e; exact h
/-! ### the greatest, the least -/
theorem b_max1 {b : Bool} {i : Int} {ns : List Int} {S : Sto} : bfD b .max [.lst ((i :: ns).map .int)] S = .ok (.int (mxI i ns)) S := by
  show optR (mxD S (.lst ((i :: ns).map .int))) S = _
  unfold mxD
  show optR (match allI ((i :: ns).map D.int) with
    | some (i :: r) => some (.int (mxI i r))
    | _ => none) S = _
  rw [allI_int]
  rfl
theorem b_min1 {b : Bool} {i : Int} {ns : List Int} {S : Sto} : bfD b .min [.lst ((i :: ns).map .int)] S = .ok (.int (mnI i ns)) S := by
  show optR (mnD S (.lst ((i :: ns).map .int))) S = _
  unfold mnD
  show optR (match allI ((i :: ns).map D.int) with
    | some (i :: r) => some (.int (mnI i r))
    | _ => none) S = _
  rw [allI_int]
  rfl
theorem mxI_is : ∀ (ns : List Int) (i : Int), mxI i ns ∈ i :: ns ∧ ∀ x ∈ i :: ns, x ≤ mxI i ns
  | [], i => ⟨List.mem_cons_self, fun x hx => by rw [List.mem_singleton.mp hx]; exact Int.le_refl _⟩
  | j :: r, i => by
    have ih := mxI_is r (if j > i then j else i)
    have e : mxI i (j :: r) = mxI (if j > i then j else i) r := rfl
    rw [e]
    refine ⟨?_, fun x hx => ?_⟩
    · rcases List.mem_cons.mp ih.1 with h | h
      · rw [h]
        split <;> simp
      · exact List.mem_cons_of_mem _ (List.mem_cons_of_mem _ h)
    · have h0 := ih.2 _ List.mem_cons_self
      rcases List.mem_cons.mp hx with rfl | hx
      · refine Int.le_trans ?_ h0
        split <;> omega
      · rcases List.mem_cons.mp hx with rfl | hx
        · refine Int.le_trans ?_ h0
          split <;> omega
        · exact ih.2 x (List.mem_cons_of_mem _ hx)
theorem mnI_is : ∀ (ns : List Int) (i : Int), mnI i ns ∈ i :: ns ∧ ∀ x ∈ i :: ns, mnI i ns ≤ x
  | [], i => ⟨List.mem_cons_self, fun x hx => by rw [List.mem_singleton.mp hx]; exact Int.le_refl _⟩
  | j :: r, i => by
    have ih := mnI_is r (if j < i then j else i)
    have e : mnI i (j :: r) = mnI (if j < i then j else i) r := rfl
    rw [e]
    refine ⟨?_, fun x hx => ?_⟩
    · rcases List.mem_cons.mp ih.1 with h | h
      · rw [h]
        split <;> simp
      · exact List.mem_cons_of_mem _ (List.mem_cons_of_mem _ h)
    · have h0 := ih.2 _ List.mem_cons_self
      rcases List.mem_cons.mp hx with rfl | hx
      · refine Int.le_trans h0 ?_
        split <;> omega
      · rcases List.mem_cons.mp hx with rfl | hx
        · refine Int.le_trans h0 ?_
          split <;> omega
        · exact ih.2 x (List.mem_cons_of_mem _ hx)
end EL

namespace EL
def c_is_whole : Fd := ⟨3, 3, false, [(.ret (.and (.isi (.var 0) [.int]) (.and (.not (.isi (.var 0) [.bool])) (.chain .le .le (.var 1) (.var 0) (.var 2)))))]⟩
def x_is_name_1 : Ex := (.comp false (.v 1) 0 [(.var 0)] [] (.cmp .in_ (.var 1) (.gl 0)))
def c_is_name : Fd := ⟨1, 2, false, [(.ifs (.or (.not (.b (.isi (.var 0) [.str]))) (.not (.b (.chain .le .le (.int 1) (.bf false .len [(.var 0)]) (.int 6))))) [(.ret (.bl false))] []),
  (.ret (.bf true .all [x_is_name_1]))]⟩
def c_two_figures : Fd := ⟨1, 1, false, [(.ifs (.b (.cmp .lt (.var 0) (.int 10))) [(.ret (.bin true .add (.str [48]) (.bf false .str [(.var 0)])))] []),
  (.ret (.bf true .str [(.var 0)]))]⟩
def c_time_text : Fd := ⟨1, 5, false, [(.ifs (.not (.b (.call false 0 [(.var 0), (.int 0), (.gl 2)]))) [(.raise 4 [(.var 0)])] []),
  (.asg (.t [(.v 1), (.v 2)]) (.bf false .divmod [(.var 0), (.gl 1)])),
  (.asg (.t [(.v 3), (.v 4)]) (.bf false .divmod [(.var 2), (.int 60)])),
  (.ret (.bin true .add (.bin false .add (.bin false .add (.bin false .add (.bf false .str [(.var 1)]) (.str [46])) (.call false 2 [(.var 3)])) (.str [46])) (.call false 2 [(.var 4)])))]⟩
def s_minutes_until_1 : Sm := (.for_ (.v 3) 0 [(.tup [(.var 0), (.var 1)])] [(.ifs (.not (.b (.call false 0 [(.var 3), (.int 0), (.bin false .sub (.bin false .mul (.gl 1) (.var 2)) (.int 1))]))) [(.raise 4 [(.var 3)])] [])])
def c_minutes_until : Fd := ⟨3, 4, false, [(.ifs (.not (.b (.call false 0 [(.var 2), (.int 1), (.int 7)]))) [(.raise 5 [(.var 2)])] []),
  s_minutes_until_1,
  (.ret (.bin true .mod (.bin false .sub (.var 1) (.var 0)) (.bin false .mul (.gl 1) (.var 2))))]⟩
def c_Timetable_span : Fd := ⟨1, 1, false, [(.ret (.bin true .mul (.gl 10) (.fld (.var 0) 8)))]⟩
def c_need_time : Fd := ⟨2, 2, false, [(.ifs (.not (.b (.call false 0 [(.var 1), (.int 0), (.bin false .sub (.meth false 0 (.var 0) []) (.int 1))]))) [(.raise 4 [(.var 1)])] [])]⟩
def c_Train_name : Fd := ⟨1, 1, false, [(.ret (.fld (.var 0) 2))]⟩
def c_Train_leave : Fd := ⟨1, 1, false, [(.ret (.fld (.var 0) 5))]⟩
def c_Train_takes : Fd := ⟨1, 1, false, [(.ret (.fld (.var 0) 7))]⟩
def c_Timetable_days : Fd := ⟨1, 1, false, [(.ret (.fld (.var 0) 8))]⟩
def c_Timetable_trains : Fd := ⟨1, 1, false, [(.ret (.bf true .list [(.fld (.var 0) 10)]))]⟩
def s_under_way_1 : Sm := (.for_ (.v 3) 0 [(.meth false 5 (.var 0) [])] [(.ifs (.b (.cmp .lt (.call false 4 [(.meth false 2 (.var 3) []), (.var 1), (.meth false 4 (.var 0) [])]) (.meth false 3 (.var 3) []))) [(.exp (.mm .append (.var 2) [(.meth false 1 (.var 3) [])]))] [])])
def c_under_way : Fd := ⟨2, 4, false, [(.exp (.call false 6 [(.var 0), (.var 1)])),
  (.asg (.v 2) (.lst true [])),
  s_under_way_1,
  (.ret (.var 2))]⟩
def x_busiest_1 : Ex := (.comp false (.v 3) 0 [(.meth false 5 (.var 0) [])] [] (.meth false 2 (.var 3) []))
def s_busiest_2 : Sm := (.for_ (.v 2) 0 [(.bf false .sorted [(.bin false .add (.lst false [(.int 0)]) x_busiest_1)])] [(.asg (.v 4) (.bf false .len [(.call false 12 [(.var 0), (.var 2)])])),
    (.ifs (.b (.cmp .gt (.var 4) (.idx (.var 1) (.int 1)))) [(.asg (.v 1) (.tup [(.var 2), (.var 4)]))] [])])
def c_busiest : Fd := ⟨1, 5, false, [(.asg (.v 1) (.tup [(.int 0), (.int 0)])),
  s_busiest_2,
  (.ret (.var 1))]⟩
def s_need_places_1 : Sm := (.for_ (.v 2) 0 [(.var 0)] [(.ifs (.not (.b (.call false 1 [(.var 2)]))) [(.raise 6 [(.var 2)])] []),
    (.ifs (.b (.cmp .in_ (.var 2) (.var 1))) [(.raise 7 [(.var 2)])] []),
    (.exp (.mm .append (.var 1) [(.var 2)]))])
def c_need_places : Fd := ⟨1, 3, false, [(.ifs (.not (.b (.isi (.var 0) [.list, .tuple]))) [(.raise 10 [(.var 0)])] []),
  (.ifs (.not (.b (.chain .le .le (.int 1) (.bf false .len [(.var 0)]) (.gl 3)))) [(.raise 11 [(.bf false .len [(.var 0)])])] []),
  (.asg (.v 1) (.lst true [])),
  s_need_places_1]⟩
def c_is_road : Fd := ⟨2, 5, false, [(.ifs (.or (.not (.b (.isi (.var 1) [.tuple]))) (.b (.cmp .ne (.bf false .len [(.var 1)]) (.int 3)))) [(.ret (.bl false))] []),
  (.asg (.t [(.v 2), (.v 3), (.v 4)]) (.var 1)),
  (.ifs (.or (.not (.b (.call false 1 [(.var 2)]))) (.or (.not (.b (.call false 1 [(.var 3)]))) (.b (.cmp .eq (.var 2) (.var 3))))) [(.ret (.bl false))] []),
  (.ret (.and (.cmp .in_ (.var 2) (.var 0)) (.and (.cmp .in_ (.var 3) (.var 0)) (.call false 0 [(.var 4), (.int 1), (.gl 5)]))))]⟩
def s_need_roads_1 : Sm := (.for_ (.v 2) 0 [(.var 1)] [(.ifs (.not (.b (.call false 15 [(.var 0), (.var 2)]))) [(.raise 9 [(.var 2)])] [])])
def c_need_roads : Fd := ⟨2, 3, false, [(.ifs (.not (.b (.isi (.var 1) [.list, .tuple]))) [(.raise 10 [(.var 1)])] []),
  (.ifs (.b (.cmp .gt (.bf false .len [(.var 1)]) (.gl 4))) [(.raise 11 [(.bf false .len [(.var 1)])])] []),
  s_need_roads_1]⟩
def s_are_unlike_names_1 : Sm := (.for_ (.t [(.v 3), (.v 4)]) 3 [(.var 0)] [(.ifs (.or (.not (.b (.call false 1 [(.var 4)]))) (.b (.cmp .in_ (.var 4) (.slc false (.var 0) none (some (.var 3)))))) [(.ret (.bl false))] [])])
def c_are_unlike_names : Fd := ⟨3, 5, false, [(.ifs (.or (.not (.b (.isi (.var 0) [.list, .tuple]))) (.not (.b (.chain .le .le (.var 1) (.bf false .len [(.var 0)]) (.var 2))))) [(.ret (.bl false))] []),
  s_are_unlike_names_1,
  (.ret (.bl true))]⟩
def c__law_cell : Fd := ⟨2, 2, false, [(.ifs (.b (.cmp .lt (.var 1) (.bf false .len [(.var 0)]))) [(.ret (.idx (.var 0) (.var 1)))] []),
  (.ret (.bin true .add (.bin false .mul (.int 7919) (.var 1)) (.int 89)))]⟩
def c__law_box : Fd := ⟨1, 1, false, [(.ret (.lst true [(.bf false .max [(.int 0), (.bin false .sub (.var 0) (.bin false .pow (.int 10) (.int 18)))]), (.bin false .mod (.var 0) (.int 2147483629)), (.int 0)]))]⟩
def c__law_take : Fd := ⟨2, 4, false, [(.ifs (.b (.cmp .gt (.idx (.var 0) (.int 0)) (.int 0))) [(.asg (.v 2) (.bin false .mod (.idx (.var 0) (.int 0)) (.var 1))),
    (.sub (.var 0) (.int 0) (.bin false .fdiv (.idx (.var 0) (.int 0)) (.var 1))),
    (.ret (.var 2))] []),
  (.sub (.var 0) (.int 2) (.bin false .add (.idx (.var 0) (.int 2)) (.int 1))),
  (.asg (.v 3) (.bin false .mod (.bin false .pow (.bin false .add (.bin false .add (.idx (.var 0) (.int 1)) (.bin false .mul (.int 104729) (.idx (.var 0) (.int 2)))) (.int 89)) (.int 5)) (.int 2147483647))),
  (.asg (.v 3) (.bin false .mod (.bin false .pow (.bin false .add (.var 3) (.bin false .mul (.int 48271) (.idx (.var 0) (.int 2)))) (.int 3)) (.int 2147483629))),
  (.ret (.bin true .mod (.bin false .fdiv (.var 3) (.int 16)) (.var 1)))]⟩
def x__law_names_1 : Ex := (.comp true (.v 7) 1 [(.var 1)] [] (.idx (.var 6) (.bin false .mod (.bin false .add (.var 4) (.bin false .mul (.int 3) (.var 7))) (.int 14))))
def x__law_names_2 : Ex := (.comp false (.v 7) 1 [(.int 5)] [] (.idx (.var 2) (.call false 20 [(.var 0), (.int 26)])))
def x__law_names_3 : Ex := (.comp true (.v 7) 1 [(.var 1)] [] (.slc false (.bin false .add (.var 8) (.idx (.var 2) (.var 4))) none (some (.bin false .add (.int 1) (.bin false .mod (.bin false .add (.var 4) (.var 7)) (.int 6))))))
def x__law_names_4 : Ex := (.comp true (.v 7) 1 [(.var 1)] [] (.bin false .add (.bin false .add (.slc false (.var 8) none (some (.var 9))) (.idx (.var 2) (.bin false .mod (.bin false .add (.var 4) (.bin false .mul (.var 5) (.var 7))) (.int 26)))) (.slc false (.var 8) (some (.var 9)) none)))
def c__law_names : Fd := ⟨2, 10, false, [(.asg (.v 2) (.str [97, 98, 99, 100, 101, 102, 103, 104, 105, 106, 107, 108, 109, 110, 111, 112, 113, 114, 115, 116, 117, 118, 119, 120, 121, 122])),
  (.asg (.v 3) (.call false 20 [(.var 0), (.int 4)])),
  (.asg (.v 4) (.call false 20 [(.var 0), (.int 26)])),
  (.asg (.v 5) (.idx (.lst false [(.int 1), (.int 3), (.int 5), (.int 7), (.int 9), (.int 11), (.int 15), (.int 25)]) (.call false 20 [(.var 0), (.int 8)]))),
  (.ifs (.b (.cmp .eq (.var 3) (.int 0))) [(.asg (.v 6) (.lst false [(.str [116, 114, 97, 105, 110]), (.str [116, 117, 114, 110]), (.str [112, 108, 97, 99, 101]), (.str [114, 111, 97, 100]), (.str [100, 97, 121, 115]), (.str [108, 105, 103, 104, 116]), (.str [115, 116, 97, 121]), (.str [110, 111, 110, 101]), (.str [111, 112, 101, 110]), (.str [112, 117, 116]), (.str [100, 114, 121]), (.str [97])])),
    (.asg (.v 6) (.bin false .add (.var 6) (.lst false [(.str [104, 111, 109, 101]), (.str [120])]))),
    (.ret x__law_names_1)] []),
  (.asg (.v 8) (.bm false .join (.str []) [x__law_names_2])),
  (.ifs (.and (.b (.cmp .eq (.var 3) (.int 1))) (.b (.cmp .lt (.var 1) (.int 7)))) [(.ret x__law_names_3)] []),
  (.asg (.v 9) (.call false 20 [(.var 0), (.int 6)])),
  (.asg (.v 8) (.slc false (.var 8) none (some (.call false 20 [(.var 0), (.int 6)])))),
  (.ret x__law_names_4)]⟩
def c__law_long : Fd := ⟨1, 2, false, [(.asg (.v 1) (.call false 20 [(.var 0), (.int 4)])),
  (.ret (.idx (.lst false [(.int 1), (.int 600), (.bin false .add (.int 1) (.call false 20 [(.var 0), (.int 20)])), (.bin false .add (.int 1) (.call false 20 [(.var 0), (.int 600)]))]) (.var 1)))]⟩
def s__law_roads_1 : Sm := (.for_ (.v 3) 2 [(.int 1), (.bf false .len [(.var 1)])] [(.ifs (.b (.cmp .gt (.call false 20 [(.var 0), (.int 8)]) (.int 0))) [(.exp (.mm .append (.var 2) [(.tup [(.idx (.var 1) (.var 3)), (.idx (.var 1) (.call false 20 [(.var 0), (.var 3)])), (.call false 22 [(.var 0)])])]))] [])])
def s__law_roads_2 : Sm := (.for_ (.v 3) 1 [(.bin false .mul (.call false 20 [(.var 0), (.int 6)]) (.bf false .int [(.cmp .gt (.bf false .len [(.var 1)]) (.int 1))]))] [(.asg (.v 4) (.call false 20 [(.var 0), (.bf false .len [(.var 1)])])),
    (.asg (.v 5) (.bin false .mod (.bin false .add (.bin false .add (.var 4) (.int 1)) (.call false 20 [(.var 0), (.bin false .sub (.bf false .len [(.var 1)]) (.int 1))])) (.bf false .len [(.var 1)]))),
    (.exp (.mm .append (.var 2) [(.tup [(.idx (.var 1) (.var 4)), (.idx (.var 1) (.var 5)), (.call false 22 [(.var 0)])])]))])
def c__law_roads : Fd := ⟨2, 6, false, [(.asg (.v 2) (.lst true [])),
  s__law_roads_1,
  s__law_roads_2,
  (.ret (.var 2))]⟩
def c__law_train : Fd := ⟨5, 9, false, [(.asg (.v 5) (.idx (.var 4) (.idx (.lst false [(.int 0), (.int 0), (.int 0), (.int 1), (.int 2)]) (.call false 20 [(.var 0), (.int 5)])))),
  (.asg (.v 6) (.idx (.lst false [(.int 1), (.var 2), (.bin false .add (.int 1) (.call false 20 [(.var 0), (.var 2)])), (.bin false .add (.int 1) (.call false 20 [(.var 0), (.int 300)]))]) (.call false 20 [(.var 0), (.int 4)]))),
  (.asg (.v 7) (.idx (.lst false [(.int 0), (.bin false .sub (.var 2) (.int 1)), (.call false 20 [(.var 0), (.var 2)]), (.bin false .mul (.call false 20 [(.var 0), (.int 24)]) (.int 60))]) (.call false 20 [(.var 0), (.int 4)]))),
  (.asg (.v 8) (.idx (.var 3) (.call false 20 [(.var 0), (.bf false .len [(.var 3)])]))),
  (.ret (.tup [(.var 1), (.lst false [(.var 5)]), (.var 8), (.var 7), (.idx (.var 3) (.call false 20 [(.var 0), (.bf false .len [(.var 3)])])), (.var 6)]))]⟩
def x__law_world_1 : Ex := (.comp true (.v 8) 0 [(.var 6)] [] (.call false 24 [(.var 0), (.var 8), (.bin false .mul (.int 1440) (.var 2)), (.var 3), (.var 4)]))
def s__law_world_2 : Sm := (.for_ (.v 9) 1 [(.bin false .mul (.call false 20 [(.var 0), (.int 3)]) (.bf false .int [(.cmp .ne (.var 7) (.lst false []))]))] [(.asg (.v 10) (.call false 20 [(.var 0), (.bf false .len [(.var 7)])])),
    (.asg (.v 11) (.call false 20 [(.var 0), (.int 3)])),
    (.asg (.v 12) (.slc false (.bin false .add (.slc false (.var 4) (some (.var 11)) none) (.slc false (.var 4) none (some (.var 11)))) none (some (.bin false .add (.int 2) (.call false 20 [(.var 0), (.int 2)]))))),
    (.sub (.var 7) (.var 10) (.bin false .add (.tup [(.idx (.idx (.var 7) (.var 10)) (.int 0)), (.var 12)]) (.slc false (.idx (.var 7) (.var 10)) (some (.int 2)) none)))])
def c__law_world : Fd := ⟨2, 13, false, [(.asg (.v 2) (.idx (.lst false [(.int 1), (.int 1), (.int 2), (.int 7), (.bin false .add (.int 1) (.call false 20 [(.var 0), (.int 7)]))]) (.call false 20 [(.var 0), (.int 5)]))),
  (.asg (.v 3) (.call false 21 [(.var 0), (.bin false .add (.int 1) (.call false 20 [(.var 0), (.int 6)]))])),
  (.asg (.v 4) (.call false 21 [(.var 0), (.int 3)])),
  (.asg (.v 5) (.call false 23 [(.var 0), (.var 3)])),
  (.asg (.v 6) (.call false 21 [(.var 0), (.call false 20 [(.var 0), (.bin false .add (.var 1) (.int 1))])])),
  (.asg (.v 7) x__law_world_1),
  s__law_world_2,
  (.ret (.dic true [(.str [100, 97, 121, 115]), (.var 2), (.str [112, 108, 97, 99, 101, 115]), (.var 3), (.str [114, 111, 97, 100, 115]), (.var 5), (.str [107, 105, 110, 100, 115]), (.var 4), (.str [116, 114, 97, 105, 110, 115]), (.var 7)] []))]⟩
def c_Roads___init__ : Fd := ⟨3, 3, false, [(.exp (.call false 14 [(.var 1)])),
  (.exp (.call false 16 [(.var 1), (.var 2)])),
  (.fldS (.var 0) 0 (.bf false .list [(.var 1)])),
  (.fldS (.var 0) 1 (.bf false .list [(.var 2)]))]⟩
def c_Train___init__ : Fd := ⟨7, 7, false, [(.ifs (.not (.b (.call false 1 [(.var 1)]))) [(.raise 6 [(.var 1)])] []),
  (.ifs (.not (.b (.call false 17 [(.var 2), (.int 1), (.gl 6)]))) [(.raise 12 [(.var 2)])] []),
  (.ifs (.not (.b (.call false 1 [(.var 3)]))) [(.raise 6 [(.var 3)])] []),
  (.ifs (.not (.b (.call false 0 [(.var 4), (.int 0), (.gl 7)]))) [(.raise 4 [(.var 4)])] []),
  (.ifs (.not (.b (.call false 1 [(.var 5)]))) [(.raise 6 [(.var 5)])] []),
  (.ifs (.not (.b (.call false 0 [(.var 6), (.int 1), (.gl 8)]))) [(.raise 4 [(.var 6)])] []),
  (.fldS (.var 0) 2 (.var 1)),
  (.fldS (.var 0) 3 (.bf false .list [(.var 2)])),
  (.fldS (.var 0) 4 (.var 3)),
  (.fldS (.var 0) 5 (.var 4)),
  (.fldS (.var 0) 6 (.var 5)),
  (.fldS (.var 0) 7 (.var 6))]⟩
def c_Roads_places : Fd := ⟨1, 1, false, [(.ret (.bf true .list [(.fld (.var 0) 0)]))]⟩
def c_Train_start : Fd := ⟨1, 1, false, [(.ret (.fld (.var 0) 4))]⟩
def c_Train_end : Fd := ⟨1, 1, false, [(.ret (.fld (.var 0) 6))]⟩
def x_Timetable_names_1 : Ex := (.comp true (.v 1) 0 [(.fld (.var 0) 10)] [] (.meth false 1 (.var 1) []))
def c_Timetable_names : Fd := ⟨1, 2, false, [(.ret x_Timetable_names_1)]⟩
def s_Timetable_need_train_1 : Sm := (.for_ (.v 2) 0 [(.tup [(.meth false 7 (.var 1) []), (.meth false 8 (.var 1) [])])] [(.ifs (.b (.cmp .nin (.var 2) (.meth false 6 (.fld (.var 0) 9) []))) [(.raise 8 [(.var 2)])] [])])
def c_Timetable_need_train : Fd := ⟨2, 3, false, [(.ifs (.not (.b (.isi (.var 1) [(.cls 1)]))) [(.raise 13 [(.var 1)])] []),
  (.ifs (.b (.cmp .in_ (.meth false 1 (.var 1) []) (.meth false 9 (.var 0) []))) [(.raise 7 [(.meth false 1 (.var 1) [])])] []),
  s_Timetable_need_train_1,
  (.ifs (.b (.cmp .ge (.meth false 2 (.var 1) []) (.meth false 0 (.var 0) []))) [(.raise 4 [(.meth false 2 (.var 1) [])])] []),
  (.ifs (.b (.cmp .gt (.meth false 3 (.var 1) []) (.meth false 0 (.var 0) []))) [(.raise 4 [(.meth false 3 (.var 1) [])])] [])]⟩
def c_Train_kinds : Fd := ⟨1, 1, false, [(.ret (.bf true .list [(.fld (.var 0) 3)]))]⟩
def x_Timetable_loose_1 : Ex := (.comp true (.v 1) 0 [(.fld (.var 0) 10)] [(.b (.cmp .gt (.bf false .len [(.meth false 11 (.var 1) [])]) (.int 1)))] (.meth false 1 (.var 1) []))
def c_Timetable_loose : Fd := ⟨1, 2, false, [(.ret x_Timetable_loose_1)]⟩
def s_Timetable___init___1 : Sm := (.for_ (.v 4) 0 [(.var 3)] [(.exp (.meth false 10 (.var 0) [(.var 4)])),
    (.exp (.mm .append (.fld (.var 0) 10) [(.var 4)]))])
def c_Timetable___init__ : Fd := ⟨4, 5, true, [(.ifs (.not (.b (.call false 0 [(.var 1), (.int 1), (.gl 9)]))) [(.raise 5 [(.var 1)])] []),
  (.ifs (.not (.b (.isi (.var 2) [(.cls 0)]))) [(.raise 10 [(.var 2)])] []),
  (.ifs (.not (.b (.isi (.var 3) [.list, .tuple]))) [(.raise 14 [(.var 3)])] []),
  (.ifs (.b (.cmp .gt (.bf false .len [(.var 3)]) (.gl 11))) [(.raise 11 [(.bf false .len [(.var 3)])])] []),
  (.fldS (.var 0) 8 (.var 1)),
  (.fldS (.var 0) 9 (.var 2)),
  (.fldS (.var 0) 10 (.lst true [])),
  s_Timetable___init___1,
  (.ifs (.b (.cmp .gt (.bf false .len [(.meth false 12 (.var 0) [])]) (.gl 12))) [(.raise 15 [(.bf false .len [(.meth false 12 (.var 0) [])])])] [])]⟩
def s__law_table_1 : Sm := (.for_ (.t [(.v 2), (.v 3), (.v 4), (.v 5), (.v 6), (.v 7)]) 0 [(.idx (.var 0) (.str [116, 114, 97, 105, 110, 115]))] [(.exp (.mm .append (.var 1) [(.make false 1 [(.var 2), (.bf false .list [(.var 3)]), (.var 4), (.var 5), (.var 6), (.var 7)])]))])
def c__law_table : Fd := ⟨1, 8, false, [(.asg (.v 1) (.lst true [])),
  s__law_table_1,
  (.ret (.make true 2 [(.idx (.var 0) (.str [100, 97, 121, 115])), (.make false 0 [(.bf false .list [(.idx (.var 0) (.str [112, 108, 97, 99, 101, 115]))]), (.bf false .tuple [(.idx (.var 0) (.str [114, 111, 97, 100, 115]))])]), (.var 1)]))]⟩
def x__law_under_way_1 : Ex := (.comp true (.v 3) 0 [(.idx (.var 0) (.str [116, 114, 97, 105, 110, 115]))] [(.b (.cmp .lt (.bin false .mod (.bin false .sub (.var 1) (.idx (.var 3) (.int 3))) (.var 2)) (.idx (.var 3) (.int 5))))] (.idx (.var 3) (.int 0)))
def c__law_under_way : Fd := ⟨2, 4, false, [(.asg (.v 2) (.bin false .mul (.int 1440) (.idx (.var 0) (.str [100, 97, 121, 115])))),
  (.ret x__law_under_way_1)]⟩
def s__law_busiest_1 : Sm := (.for_ (.v 3) 0 [(.idx (.var 0) (.str [116, 114, 97, 105, 110, 115]))] [(.asg (.v 2) (.bin false .add (.var 2) (.lst false [(.idx (.var 3) (.int 3)), (.bin false .mod (.bin false .add (.idx (.var 3) (.int 3)) (.idx (.var 3) (.int 5))) (.var 1))])))])
def x__law_busiest_2 : Ex := (.comp false (.v 5) 0 [(.var 2)] [] (.bf false .len [(.call false 37 [(.var 0), (.var 5)])]))
def x__law_busiest_3 : Ex := (.comp false (.v 5) 0 [(.var 2)] [(.b (.cmp .eq (.bf false .len [(.call false 37 [(.var 0), (.var 5)])]) (.var 4)))] (.var 5))
def c__law_busiest : Fd := ⟨1, 6, false, [(.asg (.v 1) (.bin false .mul (.int 1440) (.idx (.var 0) (.str [100, 97, 121, 115])))),
  (.asg (.v 2) (.lst false [(.int 0)])),
  s__law_busiest_1,
  (.asg (.v 4) (.bf false .max [x__law_busiest_2])),
  (.ret (.tup [(.bf false .min [x__law_busiest_3]), (.var 4)]))]⟩
def c__law_refused : Fd := ⟨2, 4, false, [(.asg (.v 2) (.lst false [])),
  (.try_ [(.exp (.call false 12 [(.var 0), (.var 1)]))] [4, 3] [some 3, none] [[(.asg (.v 2) (.lst false [(.exf 3 11)]))], [(.asg (.v 2) (.lst false []))]]),
  (.ifs (.b (.isi (.var 1) [.list])) [(.exp (.mm .append (.var 1) [(.str [109, 111, 114, 101])]))] []),
  (.ifs (.b (.isi (.var 1) [.dict])) [(.sub (.var 1) (.str [109, 111, 114, 101]) (.int 1))] []),
  (.ret (.cmp .eq (.bf false .repr [(.var 2)]) (.bf false .repr [(.lst false [(.var 1)])])))]⟩
def s__law_times_1 : Sm := (.for_ (.v 4) 1 [(.bin false .mul (.int 6) (.bf false .int [(.cmp .ne (.idx (.var 1) (.str [116, 114, 97, 105, 110, 115])) (.lst false []))]))] [(.asg (.v 5) (.idx (.idx (.var 1) (.str [116, 114, 97, 105, 110, 115])) (.call false 20 [(.var 0), (.bf false .len [(.idx (.var 1) (.str [116, 114, 97, 105, 110, 115]))])]))),
    (.exp (.mm .append (.var 3) [(.bin false .mod (.bin false .add (.idx (.var 5) (.int 3)) (.idx (.lst false [(.int 0), (.idx (.var 5) (.int 5)), (.bin false .sub (.idx (.var 5) (.int 5)) (.int 1)), (.neg (.int 1)), (.int 1)]) (.call false 20 [(.var 0), (.int 5)]))) (.var 2))]))])
def c__law_times : Fd := ⟨2, 6, false, [(.asg (.v 2) (.bin false .mul (.int 1440) (.idx (.var 1) (.str [100, 97, 121, 115])))),
  (.asg (.v 3) (.lst true [(.int 0), (.bin false .sub (.var 2) (.int 1)), (.call false 20 [(.var 0), (.var 2)])])),
  s__law_times_1,
  (.ret (.var 3))]⟩
def s__law_right_1 : Sm := (.for_ (.v 5) 0 [(.var 2)] [(.asg (.v 6) (.call true 12 [(.var 0), (.var 5)])),
      (.ifs (.or (.not (.b (.isi (.var 6) [.list]))) (.or (.b (.cmp .ne (.var 6) (.call false 37 [(.var 1), (.var 5)]))) (.b (.cmp .gt (.bf false .len [(.var 6)]) (.idx (.var 3) (.int 1)))))) [(.ret (.bl false))] []),
      (.exp (.mm .append (.var 6) [(.str [109, 111, 114, 101])])),
      (.exp (.mm .reverse (.var 6) []))])
def s__law_right_2 : Sm := (.for_ (.v 4) 1 [(.int 2)] [(.ifs (.b (.cmp .ne (.bf false .repr [(.call false 13 [(.var 0)])]) (.bf false .repr [(.var 3)]))) [(.ret (.bl false))] []),
    s__law_right_1])
def c__law_right : Fd := ⟨3, 7, false, [(.asg (.v 3) (.call false 38 [(.var 1)])),
  s__law_right_2,
  (.ret (.bl true))]⟩
def c_Roads_roads : Fd := ⟨1, 1, false, [(.ret (.bf true .list [(.fld (.var 0) 1)]))]⟩
def c_Train_row : Fd := ⟨1, 2, false, [(.asg (.v 1) (.lst false [(.str [116, 114, 97, 105, 110]), (.fld (.var 0) 2), (.bm false .join (.str [43]) [(.fld (.var 0) 3)]), (.fld (.var 0) 4), (.call false 3 [(.fld (.var 0) 5)])])),
  (.ret (.bm true .join (.str [32]) [(.bin false .add (.var 1) (.lst false [(.fld (.var 0) 6), (.bf false .str [(.fld (.var 0) 7)])]))]))]⟩
def x_Timetable_told_1 : Ex := (.comp false (.v 2) 0 [(.fld (.var 0) 10)] [] (.meth false 14 (.var 2) []))
def c_Timetable_told : Fd := ⟨1, 3, false, [(.asg (.v 1) (.bf false .tuple [x_Timetable_told_1])),
  (.ret (.tup [(.fld (.var 0) 8), (.bf false .tuple [(.meth false 6 (.fld (.var 0) 9) [])]), (.bf false .tuple [(.meth false 13 (.fld (.var 0) 9) [])]), (.var 1)]))]⟩
def s_law_1 : Sm := (.for_ (.v 2) 1 [(.bf false .max [(.int 2), (.bf false .min [(.int 5), (.bf false .len [(.var 0)])])])] [(.asg (.v 3) (.call true 19 [(.call false 18 [(.var 0), (.var 2)])])),
    (.asg (.v 4) (.call false 20 [(.var 3), (.int 11)])),
    (.asg (.v 5) (.idx (.lst false [(.int 0), (.int 12), (.int 12), (.int 12), (.int 12), (.int 3), (.int 12), (.int 12)]) (.call false 20 [(.var 3), (.int 8)]))),
    (.asg (.v 6) (.call false 25 [(.var 3), (.var 5)])),
    (.asg (.v 7) (.call false 36 [(.var 6)])),
    (.asg (.v 8) (.bin false .mul (.int 1440) (.idx (.var 6) (.str [100, 97, 121, 115])))),
    (.asg (.v 9) (.idx (.lst false [(.neg (.int 1)), (.var 8), .non, (.bl true), (.bl false), (.str [48, 46, 48, 48, 46, 48, 48]), (.lst true [(.int 0)]), (.tup [(.int 0)]), (.dic true [] []), (.bin false .pow (.int 10) (.int 29)), (.tup [(.lst true [(.int 0)])])]) (.var 4))),
    (.ifs (.or (.not (.b (.call false 39 [(.var 7), (.var 9)]))) (.not (.b (.call false 39 [(.var 7), (.bin true .add (.bin false .add (.var 8) (.int 1)) (.var 4))])))) [(.ret (.bl false))] []),
    (.asg (.v 10) (.call false 40 [(.var 3), (.var 6)])),
    (.ifs (.or (.not (.b (.call false 41 [(.var 7), (.var 6), (.var 10)]))) (.b (.cmp .ne (.meth false 15 (.var 7) []) (.meth false 15 (.call false 36 [(.var 6)]) [])))) [(.ret (.bl false))] []),
    (.ifs (.and (.b (.notN (.var 1))) (.not (.b (.call false 41 [(.idx (.var 1) (.int 0)), (.idx (.var 1) (.int 1)), (.idx (.var 1) (.int 2))])))) [(.ret (.bl false))] []),
    (.asg (.v 1) (.tup [(.var 7), (.var 6), (.var 10)]))])
def c_law : Fd := ⟨1, 11, false, [(.asg (.v 1) .non),
  s_law_1,
  (.ret (.bl true))]⟩
def fds : List Fd := ([c_law, c_Timetable_told, c_Train_row, c_Roads_roads, c__law_right, c__law_times, c__law_refused, c__law_busiest, c__law_under_way, c__law_table, c_Timetable___init__, c_Timetable_loose, c_Train_kinds, c_Timetable_need_train, c_Timetable_names, c_Train_end, c_Train_start, c_Roads_places, c_Train___init__, c_Roads___init__] : List Fd) ++ ([c__law_world, c__law_train, c__law_roads, c__law_long, c__law_names, c__law_take, c__law_box, c__law_cell, c_are_unlike_names, c_need_roads, c_is_road, c_need_places, c_busiest, c_under_way, c_Timetable_trains, c_Timetable_days, c_Train_takes, c_Train_leave, c_Train_name, c_need_time] : List Fd) ++ ([c_Timetable_span, c_minutes_until, c_time_text, c_two_figures, c_is_name, c_is_whole] : List Fd)
def tb : Tb where
  fat := ([("is_whole", none), ("is_name", none), ("two_figures", none), ("time_text", none), ("minutes_until", none), ("Timetable", some "span"), ("need_time", none), ("Train", some "name"), ("Train", some "leave"), ("Train", some "takes"), ("Timetable", some "days"), ("Timetable", some "trains"), ("under_way", none), ("busiest", none), ("need_places", none), ("is_road", none), ("need_roads", none), ("are_unlike_names", none), ("_law_cell", none), ("_law_box", none)] : List (PySem.Str × Option PySem.Str)) ++ ([("_law_take", none), ("_law_names", none), ("_law_long", none), ("_law_roads", none), ("_law_train", none), ("_law_world", none), ("Roads", some "__init__"), ("Train", some "__init__"), ("Roads", some "places"), ("Train", some "start"), ("Train", some "end"), ("Timetable", some "names"), ("Timetable", some "need_train"), ("Train", some "kinds"), ("Timetable", some "loose"), ("Timetable", some "__init__"), ("_law_table", none), ("_law_under_way", none), ("_law_busiest", none), ("_law_refused", none)] : List (PySem.Str × Option PySem.Str)) ++ ([("_law_times", none), ("_law_right", none), ("Roads", some "roads"), ("Train", some "row"), ("Timetable", some "told"), ("law", none)] : List (PySem.Str × Option PySem.Str))
  lv := ([0, 0, 0, 1, 1, 0, 1, 0, 0, 0, 0, 0, 2, 3, 1, 1, 2, 1, 0, 0] : List Nat) ++ ([0, 1, 1, 2, 1, 3, 3, 2, 0, 0, 0, 1, 2, 0, 1, 3, 4, 0, 1, 3] : List Nat) ++ ([1, 4, 0, 2, 3, 5] : List Nat)
  N := ([["thing", "low", "high"],
    ["thing", "sign"],
    ["number"],
    ["minutes", "day", "rest", "hour", "minute"],
    ["one", "other", "days", "time"],
    ["self"],
    ["table", "time"],
    ["self"],
    ["self"],
    ["self"],
    ["self"],
    ["self"],
    ["table", "time", "found", "train"],
    ["table", "best", "time", "train", "many"],
    ["places", "ahead", "place"],
    ["places", "thing", "one", "other", "minutes"],
    ["places", "roads", "road"],
    ["thing", "least", "most", "at", "name"],
    ["_law_script", "_law_k"],
    ["_law_cell_here"]] : List (List PySem.Str)) ++ ([["_law_box_here", "_law_many", "_law_digit", "_law_number"],
    ["_law_box_here", "_law_many", "_law_letters", "_law_way", "_law_first", "_law_step", "_law_words", "_law_k", "_law_stem", "_law_at"],
    ["_law_box_here", "_law_way"],
    ["_law_box_here", "_law_places", "_law_found", "_law_k", "_law_one", "_law_other"],
    ["_law_box_here", "_law_name", "_law_whole", "_law_places", "_law_kinds", "_law_kind", "_law_takes", "_law_leave", "_law_start"],
    ["_law_box_here", "_law_most", "_law_days", "_law_places", "_law_kinds", "_law_roads_here", "_law_names_here", "_law_trains", "_law_name", "_law_k", "_law_at", "_law_turn", "_law_some"],
    ["self", "places", "roads"],
    ["self", "name", "kinds", "start", "leave", "end", "takes"],
    ["self"],
    ["self"],
    ["self"],
    ["self", "train"],
    ["self", "train", "place"],
    ["self"],
    ["self", "train"],
    ["self", "days", "roads", "trains", "train"],
    ["_law_world_here", "_law_trains", "_law_name", "_law_kinds", "_law_start", "_law_leave", "_law_end", "_law_takes"],
    ["_law_world_here", "_law_time", "_law_whole", "_law_row"],
    ["_law_world_here", "_law_whole", "_law_times_here", "_law_row", "_law_most", "_law_time"],
    ["_law_table_here", "_law_thing", "_law_found", "e"]] : List (List PySem.Str)) ++ ([["_law_box_here", "_law_world_here", "_law_whole", "_law_found", "_law_turn", "_law_row"],
    ["_law_table_here", "_law_world_here", "_law_times_here", "_law_due", "_law_lap", "_law_time", "_law_found"],
    ["self"],
    ["self", "words"],
    ["self", "rows", "train"],
    ["_law_script", "_law_ahead", "_law_k", "_law_box_here", "_law_pick", "_law_most", "_law_world_here", "_law_table_here", "_law_whole", "_law_odd", "_law_times_here"]] : List (List PySem.Str))
  gls := [("LETTERS", .str [97, 98, 99, 100, 101, 102, 103, 104, 105, 106, 107, 108, 109, 110, 111, 112, 113, 114, 115, 116, 117, 118, 119, 120, 121, 122]), ("DAY_times", .int 1440), ("LAST", .int 10079), ("MOST_PLACES", .int 6), ("MOST_ROADS", .int 10), ("LONGEST", .int 600), ("MOST_KINDS", .int 3), ("LAST_TIME", .int 10079), ("LONGEST_TRAIN", .int 10080), ("MOST_DAYS", .int 7), ("DAY_table", .int 1440), ("MOST_TRAINS", .int 12), ("MOST_LOOSE", .int 2)]
  cls := [⟨"Roads", false, some 26, [], [(6, 28), (13, 42)], [0]⟩,
    ⟨"Train", false, some 27, [], [(1, 7), (2, 8), (3, 9), (7, 29), (8, 30), (11, 33), (14, 43)], [1]⟩,
    ⟨"Timetable", false, some 35, [], [(0, 5), (4, 10), (5, 11), (9, 31), (10, 32), (12, 34), (15, 44)], [2]⟩,
    ⟨"EngineError", true, none, [], [], [3]⟩,
    ⟨"NoTime", true, none, [11], [], [4, 3]⟩,
    ⟨"NoDays", true, none, [11], [], [5, 3]⟩,
    ⟨"NoName", true, none, [11], [], [6, 3]⟩,
    ⟨"Doubled", true, none, [11], [], [7, 3]⟩,
    ⟨"NoPlace", true, none, [11], [], [8, 3]⟩,
    ⟨"NoRoad", true, none, [11], [], [9, 3]⟩,
    ⟨"NoRoads", true, none, [11], [], [10, 3]⟩,
    ⟨"TooMany", true, none, [12], [], [11, 3]⟩,
    ⟨"NoKinds", true, none, [11], [], [12, 3]⟩,
    ⟨"NoTrain", true, none, [11], [], [13, 3]⟩,
    ⟨"NoTrains", true, none, [11], [], [14, 3]⟩,
    ⟨"Loose", true, none, [12], [], [15, 3]⟩]
  fld := ["spots", "ties", "called", "sorts", "first_place", "leaving", "last_place", "length", "many_days", "own_roads", "own_trains", "found", "many"]
  mnm := ["span", "name", "leave", "takes", "days", "trains", "places", "start", "end", "names", "need_train", "kinds", "loose", "roads", "row", "told"]
def pgA (j : Nat) : Pg := pgOf tb (pgL tb (fds.drop (46 - j)))
@[simp] theorem f3_0 : (pgA 3).fn 0 = runF (pgA 0) c_is_whole := by funext bs ds S; rfl
@[simp] theorem f3_2 : (pgA 3).fn 2 = runF (pgA 2) c_two_figures := by funext bs ds S; rfl
@[simp] theorem f4_0 : (pgA 4).fn 0 = runF (pgA 0) c_is_whole := by funext bs ds S; rfl
@[simp] theorem f6_0 : (pgA 6).fn 0 = runF (pgA 0) c_is_whole := by funext bs ds S; rfl
@[simp] theorem f6_1 : (pgA 6).fn 1 = runF (pgA 1) c_is_name := by funext bs ds S; rfl
@[simp] theorem f6_2 : (pgA 6).fn 2 = runF (pgA 2) c_two_figures := by funext bs ds S; rfl
@[simp] theorem f6_3 : (pgA 6).fn 3 = runF (pgA 3) c_time_text := by funext bs ds S; rfl
@[simp] theorem f6_4 : (pgA 6).fn 4 = runF (pgA 4) c_minutes_until := by funext bs ds S; rfl
@[simp] theorem f6_5 : (pgA 6).fn 5 = runF (pgA 5) c_Timetable_span := by funext bs ds S; rfl
@[simp] theorem f12_0 : (pgA 12).fn 0 = runF (pgA 0) c_is_whole := by funext bs ds S; rfl
@[simp] theorem f12_1 : (pgA 12).fn 1 = runF (pgA 1) c_is_name := by funext bs ds S; rfl
@[simp] theorem f12_2 : (pgA 12).fn 2 = runF (pgA 2) c_two_figures := by funext bs ds S; rfl
@[simp] theorem f12_3 : (pgA 12).fn 3 = runF (pgA 3) c_time_text := by funext bs ds S; rfl
@[simp] theorem f12_4 : (pgA 12).fn 4 = runF (pgA 4) c_minutes_until := by funext bs ds S; rfl
@[simp] theorem f12_5 : (pgA 12).fn 5 = runF (pgA 5) c_Timetable_span := by funext bs ds S; rfl
@[simp] theorem f12_6 : (pgA 12).fn 6 = runF (pgA 6) c_need_time := by funext bs ds S; rfl
@[simp] theorem f12_7 : (pgA 12).fn 7 = runF (pgA 7) c_Train_name := by funext bs ds S; rfl
@[simp] theorem f12_8 : (pgA 12).fn 8 = runF (pgA 8) c_Train_leave := by funext bs ds S; rfl
@[simp] theorem f12_9 : (pgA 12).fn 9 = runF (pgA 9) c_Train_takes := by funext bs ds S; rfl
@[simp] theorem f12_10 : (pgA 12).fn 10 = runF (pgA 10) c_Timetable_days := by funext bs ds S; rfl
@[simp] theorem f12_11 : (pgA 12).fn 11 = runF (pgA 11) c_Timetable_trains := by funext bs ds S; rfl
@[simp] theorem f13_0 : (pgA 13).fn 0 = runF (pgA 0) c_is_whole := by funext bs ds S; rfl
@[simp] theorem f13_1 : (pgA 13).fn 1 = runF (pgA 1) c_is_name := by funext bs ds S; rfl
@[simp] theorem f13_2 : (pgA 13).fn 2 = runF (pgA 2) c_two_figures := by funext bs ds S; rfl
@[simp] theorem f13_3 : (pgA 13).fn 3 = runF (pgA 3) c_time_text := by funext bs ds S; rfl
@[simp] theorem f13_4 : (pgA 13).fn 4 = runF (pgA 4) c_minutes_until := by funext bs ds S; rfl
@[simp] theorem f13_5 : (pgA 13).fn 5 = runF (pgA 5) c_Timetable_span := by funext bs ds S; rfl
@[simp] theorem f13_6 : (pgA 13).fn 6 = runF (pgA 6) c_need_time := by funext bs ds S; rfl
@[simp] theorem f13_7 : (pgA 13).fn 7 = runF (pgA 7) c_Train_name := by funext bs ds S; rfl
@[simp] theorem f13_8 : (pgA 13).fn 8 = runF (pgA 8) c_Train_leave := by funext bs ds S; rfl
@[simp] theorem f13_9 : (pgA 13).fn 9 = runF (pgA 9) c_Train_takes := by funext bs ds S; rfl
@[simp] theorem f13_10 : (pgA 13).fn 10 = runF (pgA 10) c_Timetable_days := by funext bs ds S; rfl
@[simp] theorem f13_11 : (pgA 13).fn 11 = runF (pgA 11) c_Timetable_trains := by funext bs ds S; rfl
@[simp] theorem f13_12 : (pgA 13).fn 12 = runF (pgA 12) c_under_way := by funext bs ds S; rfl
@[simp] theorem f14_1 : (pgA 14).fn 1 = runF (pgA 1) c_is_name := by funext bs ds S; rfl
@[simp] theorem f15_0 : (pgA 15).fn 0 = runF (pgA 0) c_is_whole := by funext bs ds S; rfl
@[simp] theorem f15_1 : (pgA 15).fn 1 = runF (pgA 1) c_is_name := by funext bs ds S; rfl
@[simp] theorem f16_15 : (pgA 16).fn 15 = runF (pgA 15) c_is_road := by funext bs ds S; rfl
@[simp] theorem f17_1 : (pgA 17).fn 1 = runF (pgA 1) c_is_name := by funext bs ds S; rfl
@[simp] theorem f21_20 : (pgA 21).fn 20 = runF (pgA 20) c__law_take := by funext bs ds S; rfl
@[simp] theorem f22_20 : (pgA 22).fn 20 = runF (pgA 20) c__law_take := by funext bs ds S; rfl
@[simp] theorem f23_20 : (pgA 23).fn 20 = runF (pgA 20) c__law_take := by funext bs ds S; rfl
@[simp] theorem f23_22 : (pgA 23).fn 22 = runF (pgA 22) c__law_long := by funext bs ds S; rfl
@[simp] theorem f24_20 : (pgA 24).fn 20 = runF (pgA 20) c__law_take := by funext bs ds S; rfl
@[simp] theorem f25_20 : (pgA 25).fn 20 = runF (pgA 20) c__law_take := by funext bs ds S; rfl
@[simp] theorem f25_21 : (pgA 25).fn 21 = runF (pgA 21) c__law_names := by funext bs ds S; rfl
@[simp] theorem f25_23 : (pgA 25).fn 23 = runF (pgA 23) c__law_roads := by funext bs ds S; rfl
@[simp] theorem f25_24 : (pgA 25).fn 24 = runF (pgA 24) c__law_train := by funext bs ds S; rfl
@[simp] theorem f26_14 : (pgA 26).fn 14 = runF (pgA 14) c_need_places := by funext bs ds S; rfl
@[simp] theorem f26_16 : (pgA 26).fn 16 = runF (pgA 16) c_need_roads := by funext bs ds S; rfl
@[simp] theorem f27_0 : (pgA 27).fn 0 = runF (pgA 0) c_is_whole := by funext bs ds S; rfl
@[simp] theorem f27_1 : (pgA 27).fn 1 = runF (pgA 1) c_is_name := by funext bs ds S; rfl
@[simp] theorem f27_17 : (pgA 27).fn 17 = runF (pgA 17) c_are_unlike_names := by funext bs ds S; rfl
@[simp] theorem f31_0 : (pgA 31).fn 0 = runF (pgA 0) c_is_whole := by funext bs ds S; rfl
@[simp] theorem f31_1 : (pgA 31).fn 1 = runF (pgA 1) c_is_name := by funext bs ds S; rfl
@[simp] theorem f31_2 : (pgA 31).fn 2 = runF (pgA 2) c_two_figures := by funext bs ds S; rfl
@[simp] theorem f31_3 : (pgA 31).fn 3 = runF (pgA 3) c_time_text := by funext bs ds S; rfl
@[simp] theorem f31_4 : (pgA 31).fn 4 = runF (pgA 4) c_minutes_until := by funext bs ds S; rfl
@[simp] theorem f31_5 : (pgA 31).fn 5 = runF (pgA 5) c_Timetable_span := by funext bs ds S; rfl
@[simp] theorem f31_6 : (pgA 31).fn 6 = runF (pgA 6) c_need_time := by funext bs ds S; rfl
@[simp] theorem f31_7 : (pgA 31).fn 7 = runF (pgA 7) c_Train_name := by funext bs ds S; rfl
@[simp] theorem f31_8 : (pgA 31).fn 8 = runF (pgA 8) c_Train_leave := by funext bs ds S; rfl
@[simp] theorem f31_9 : (pgA 31).fn 9 = runF (pgA 9) c_Train_takes := by funext bs ds S; rfl
@[simp] theorem f31_10 : (pgA 31).fn 10 = runF (pgA 10) c_Timetable_days := by funext bs ds S; rfl
@[simp] theorem f31_11 : (pgA 31).fn 11 = runF (pgA 11) c_Timetable_trains := by funext bs ds S; rfl
@[simp] theorem f31_12 : (pgA 31).fn 12 = runF (pgA 12) c_under_way := by funext bs ds S; rfl
@[simp] theorem f31_13 : (pgA 31).fn 13 = runF (pgA 13) c_busiest := by funext bs ds S; rfl
@[simp] theorem f31_14 : (pgA 31).fn 14 = runF (pgA 14) c_need_places := by funext bs ds S; rfl
@[simp] theorem f31_15 : (pgA 31).fn 15 = runF (pgA 15) c_is_road := by funext bs ds S; rfl
@[simp] theorem f31_16 : (pgA 31).fn 16 = runF (pgA 16) c_need_roads := by funext bs ds S; rfl
@[simp] theorem f31_17 : (pgA 31).fn 17 = runF (pgA 17) c_are_unlike_names := by funext bs ds S; rfl
@[simp] theorem f31_18 : (pgA 31).fn 18 = runF (pgA 18) c__law_cell := by funext bs ds S; rfl
@[simp] theorem f31_19 : (pgA 31).fn 19 = runF (pgA 19) c__law_box := by funext bs ds S; rfl
@[simp] theorem f31_20 : (pgA 31).fn 20 = runF (pgA 20) c__law_take := by funext bs ds S; rfl
@[simp] theorem f31_21 : (pgA 31).fn 21 = runF (pgA 21) c__law_names := by funext bs ds S; rfl
@[simp] theorem f31_22 : (pgA 31).fn 22 = runF (pgA 22) c__law_long := by funext bs ds S; rfl
@[simp] theorem f31_23 : (pgA 31).fn 23 = runF (pgA 23) c__law_roads := by funext bs ds S; rfl
@[simp] theorem f31_24 : (pgA 31).fn 24 = runF (pgA 24) c__law_train := by funext bs ds S; rfl
@[simp] theorem f31_25 : (pgA 31).fn 25 = runF (pgA 25) c__law_world := by funext bs ds S; rfl
@[simp] theorem f31_26 : (pgA 31).fn 26 = runF (pgA 26) c_Roads___init__ := by funext bs ds S; rfl
@[simp] theorem f31_27 : (pgA 31).fn 27 = runF (pgA 27) c_Train___init__ := by funext bs ds S; rfl
@[simp] theorem f31_28 : (pgA 31).fn 28 = runF (pgA 28) c_Roads_places := by funext bs ds S; rfl
@[simp] theorem f31_29 : (pgA 31).fn 29 = runF (pgA 29) c_Train_start := by funext bs ds S; rfl
@[simp] theorem f31_30 : (pgA 31).fn 30 = runF (pgA 30) c_Train_end := by funext bs ds S; rfl
@[simp] theorem f32_0 : (pgA 32).fn 0 = runF (pgA 0) c_is_whole := by funext bs ds S; rfl
@[simp] theorem f32_1 : (pgA 32).fn 1 = runF (pgA 1) c_is_name := by funext bs ds S; rfl
@[simp] theorem f32_2 : (pgA 32).fn 2 = runF (pgA 2) c_two_figures := by funext bs ds S; rfl
@[simp] theorem f32_3 : (pgA 32).fn 3 = runF (pgA 3) c_time_text := by funext bs ds S; rfl
@[simp] theorem f32_4 : (pgA 32).fn 4 = runF (pgA 4) c_minutes_until := by funext bs ds S; rfl
@[simp] theorem f32_5 : (pgA 32).fn 5 = runF (pgA 5) c_Timetable_span := by funext bs ds S; rfl
@[simp] theorem f32_6 : (pgA 32).fn 6 = runF (pgA 6) c_need_time := by funext bs ds S; rfl
@[simp] theorem f32_7 : (pgA 32).fn 7 = runF (pgA 7) c_Train_name := by funext bs ds S; rfl
@[simp] theorem f32_8 : (pgA 32).fn 8 = runF (pgA 8) c_Train_leave := by funext bs ds S; rfl
@[simp] theorem f32_9 : (pgA 32).fn 9 = runF (pgA 9) c_Train_takes := by funext bs ds S; rfl
@[simp] theorem f32_10 : (pgA 32).fn 10 = runF (pgA 10) c_Timetable_days := by funext bs ds S; rfl
@[simp] theorem f32_11 : (pgA 32).fn 11 = runF (pgA 11) c_Timetable_trains := by funext bs ds S; rfl
@[simp] theorem f32_12 : (pgA 32).fn 12 = runF (pgA 12) c_under_way := by funext bs ds S; rfl
@[simp] theorem f32_13 : (pgA 32).fn 13 = runF (pgA 13) c_busiest := by funext bs ds S; rfl
@[simp] theorem f32_14 : (pgA 32).fn 14 = runF (pgA 14) c_need_places := by funext bs ds S; rfl
@[simp] theorem f32_15 : (pgA 32).fn 15 = runF (pgA 15) c_is_road := by funext bs ds S; rfl
@[simp] theorem f32_16 : (pgA 32).fn 16 = runF (pgA 16) c_need_roads := by funext bs ds S; rfl
@[simp] theorem f32_17 : (pgA 32).fn 17 = runF (pgA 17) c_are_unlike_names := by funext bs ds S; rfl
@[simp] theorem f32_18 : (pgA 32).fn 18 = runF (pgA 18) c__law_cell := by funext bs ds S; rfl
@[simp] theorem f32_19 : (pgA 32).fn 19 = runF (pgA 19) c__law_box := by funext bs ds S; rfl
@[simp] theorem f32_20 : (pgA 32).fn 20 = runF (pgA 20) c__law_take := by funext bs ds S; rfl
@[simp] theorem f32_21 : (pgA 32).fn 21 = runF (pgA 21) c__law_names := by funext bs ds S; rfl
@[simp] theorem f32_22 : (pgA 32).fn 22 = runF (pgA 22) c__law_long := by funext bs ds S; rfl
@[simp] theorem f32_23 : (pgA 32).fn 23 = runF (pgA 23) c__law_roads := by funext bs ds S; rfl
@[simp] theorem f32_24 : (pgA 32).fn 24 = runF (pgA 24) c__law_train := by funext bs ds S; rfl
@[simp] theorem f32_25 : (pgA 32).fn 25 = runF (pgA 25) c__law_world := by funext bs ds S; rfl
@[simp] theorem f32_26 : (pgA 32).fn 26 = runF (pgA 26) c_Roads___init__ := by funext bs ds S; rfl
@[simp] theorem f32_27 : (pgA 32).fn 27 = runF (pgA 27) c_Train___init__ := by funext bs ds S; rfl
@[simp] theorem f32_28 : (pgA 32).fn 28 = runF (pgA 28) c_Roads_places := by funext bs ds S; rfl
@[simp] theorem f32_29 : (pgA 32).fn 29 = runF (pgA 29) c_Train_start := by funext bs ds S; rfl
@[simp] theorem f32_30 : (pgA 32).fn 30 = runF (pgA 30) c_Train_end := by funext bs ds S; rfl
@[simp] theorem f32_31 : (pgA 32).fn 31 = runF (pgA 31) c_Timetable_names := by funext bs ds S; rfl
@[simp] theorem f34_0 : (pgA 34).fn 0 = runF (pgA 0) c_is_whole := by funext bs ds S; rfl
@[simp] theorem f34_1 : (pgA 34).fn 1 = runF (pgA 1) c_is_name := by funext bs ds S; rfl
@[simp] theorem f34_2 : (pgA 34).fn 2 = runF (pgA 2) c_two_figures := by funext bs ds S; rfl
@[simp] theorem f34_3 : (pgA 34).fn 3 = runF (pgA 3) c_time_text := by funext bs ds S; rfl
@[simp] theorem f34_4 : (pgA 34).fn 4 = runF (pgA 4) c_minutes_until := by funext bs ds S; rfl
@[simp] theorem f34_5 : (pgA 34).fn 5 = runF (pgA 5) c_Timetable_span := by funext bs ds S; rfl
@[simp] theorem f34_6 : (pgA 34).fn 6 = runF (pgA 6) c_need_time := by funext bs ds S; rfl
@[simp] theorem f34_7 : (pgA 34).fn 7 = runF (pgA 7) c_Train_name := by funext bs ds S; rfl
@[simp] theorem f34_8 : (pgA 34).fn 8 = runF (pgA 8) c_Train_leave := by funext bs ds S; rfl
@[simp] theorem f34_9 : (pgA 34).fn 9 = runF (pgA 9) c_Train_takes := by funext bs ds S; rfl
@[simp] theorem f34_10 : (pgA 34).fn 10 = runF (pgA 10) c_Timetable_days := by funext bs ds S; rfl
@[simp] theorem f34_11 : (pgA 34).fn 11 = runF (pgA 11) c_Timetable_trains := by funext bs ds S; rfl
@[simp] theorem f34_12 : (pgA 34).fn 12 = runF (pgA 12) c_under_way := by funext bs ds S; rfl
@[simp] theorem f34_13 : (pgA 34).fn 13 = runF (pgA 13) c_busiest := by funext bs ds S; rfl
@[simp] theorem f34_14 : (pgA 34).fn 14 = runF (pgA 14) c_need_places := by funext bs ds S; rfl
@[simp] theorem f34_15 : (pgA 34).fn 15 = runF (pgA 15) c_is_road := by funext bs ds S; rfl
@[simp] theorem f34_16 : (pgA 34).fn 16 = runF (pgA 16) c_need_roads := by funext bs ds S; rfl
@[simp] theorem f34_17 : (pgA 34).fn 17 = runF (pgA 17) c_are_unlike_names := by funext bs ds S; rfl
@[simp] theorem f34_18 : (pgA 34).fn 18 = runF (pgA 18) c__law_cell := by funext bs ds S; rfl
@[simp] theorem f34_19 : (pgA 34).fn 19 = runF (pgA 19) c__law_box := by funext bs ds S; rfl
@[simp] theorem f34_20 : (pgA 34).fn 20 = runF (pgA 20) c__law_take := by funext bs ds S; rfl
@[simp] theorem f34_21 : (pgA 34).fn 21 = runF (pgA 21) c__law_names := by funext bs ds S; rfl
@[simp] theorem f34_22 : (pgA 34).fn 22 = runF (pgA 22) c__law_long := by funext bs ds S; rfl
@[simp] theorem f34_23 : (pgA 34).fn 23 = runF (pgA 23) c__law_roads := by funext bs ds S; rfl
@[simp] theorem f34_24 : (pgA 34).fn 24 = runF (pgA 24) c__law_train := by funext bs ds S; rfl
@[simp] theorem f34_25 : (pgA 34).fn 25 = runF (pgA 25) c__law_world := by funext bs ds S; rfl
@[simp] theorem f34_26 : (pgA 34).fn 26 = runF (pgA 26) c_Roads___init__ := by funext bs ds S; rfl
@[simp] theorem f34_27 : (pgA 34).fn 27 = runF (pgA 27) c_Train___init__ := by funext bs ds S; rfl
@[simp] theorem f34_28 : (pgA 34).fn 28 = runF (pgA 28) c_Roads_places := by funext bs ds S; rfl
@[simp] theorem f34_29 : (pgA 34).fn 29 = runF (pgA 29) c_Train_start := by funext bs ds S; rfl
@[simp] theorem f34_30 : (pgA 34).fn 30 = runF (pgA 30) c_Train_end := by funext bs ds S; rfl
@[simp] theorem f34_31 : (pgA 34).fn 31 = runF (pgA 31) c_Timetable_names := by funext bs ds S; rfl
@[simp] theorem f34_32 : (pgA 34).fn 32 = runF (pgA 32) c_Timetable_need_train := by funext bs ds S; rfl
@[simp] theorem f34_33 : (pgA 34).fn 33 = runF (pgA 33) c_Train_kinds := by funext bs ds S; rfl
@[simp] theorem f35_0 : (pgA 35).fn 0 = runF (pgA 0) c_is_whole := by funext bs ds S; rfl
@[simp] theorem f35_1 : (pgA 35).fn 1 = runF (pgA 1) c_is_name := by funext bs ds S; rfl
@[simp] theorem f35_2 : (pgA 35).fn 2 = runF (pgA 2) c_two_figures := by funext bs ds S; rfl
@[simp] theorem f35_3 : (pgA 35).fn 3 = runF (pgA 3) c_time_text := by funext bs ds S; rfl
@[simp] theorem f35_4 : (pgA 35).fn 4 = runF (pgA 4) c_minutes_until := by funext bs ds S; rfl
@[simp] theorem f35_5 : (pgA 35).fn 5 = runF (pgA 5) c_Timetable_span := by funext bs ds S; rfl
@[simp] theorem f35_6 : (pgA 35).fn 6 = runF (pgA 6) c_need_time := by funext bs ds S; rfl
@[simp] theorem f35_7 : (pgA 35).fn 7 = runF (pgA 7) c_Train_name := by funext bs ds S; rfl
@[simp] theorem f35_8 : (pgA 35).fn 8 = runF (pgA 8) c_Train_leave := by funext bs ds S; rfl
@[simp] theorem f35_9 : (pgA 35).fn 9 = runF (pgA 9) c_Train_takes := by funext bs ds S; rfl
@[simp] theorem f35_10 : (pgA 35).fn 10 = runF (pgA 10) c_Timetable_days := by funext bs ds S; rfl
@[simp] theorem f35_11 : (pgA 35).fn 11 = runF (pgA 11) c_Timetable_trains := by funext bs ds S; rfl
@[simp] theorem f35_12 : (pgA 35).fn 12 = runF (pgA 12) c_under_way := by funext bs ds S; rfl
@[simp] theorem f35_13 : (pgA 35).fn 13 = runF (pgA 13) c_busiest := by funext bs ds S; rfl
@[simp] theorem f35_14 : (pgA 35).fn 14 = runF (pgA 14) c_need_places := by funext bs ds S; rfl
@[simp] theorem f35_15 : (pgA 35).fn 15 = runF (pgA 15) c_is_road := by funext bs ds S; rfl
@[simp] theorem f35_16 : (pgA 35).fn 16 = runF (pgA 16) c_need_roads := by funext bs ds S; rfl
@[simp] theorem f35_17 : (pgA 35).fn 17 = runF (pgA 17) c_are_unlike_names := by funext bs ds S; rfl
@[simp] theorem f35_18 : (pgA 35).fn 18 = runF (pgA 18) c__law_cell := by funext bs ds S; rfl
@[simp] theorem f35_19 : (pgA 35).fn 19 = runF (pgA 19) c__law_box := by funext bs ds S; rfl
@[simp] theorem f35_20 : (pgA 35).fn 20 = runF (pgA 20) c__law_take := by funext bs ds S; rfl
@[simp] theorem f35_21 : (pgA 35).fn 21 = runF (pgA 21) c__law_names := by funext bs ds S; rfl
@[simp] theorem f35_22 : (pgA 35).fn 22 = runF (pgA 22) c__law_long := by funext bs ds S; rfl
@[simp] theorem f35_23 : (pgA 35).fn 23 = runF (pgA 23) c__law_roads := by funext bs ds S; rfl
@[simp] theorem f35_24 : (pgA 35).fn 24 = runF (pgA 24) c__law_train := by funext bs ds S; rfl
@[simp] theorem f35_25 : (pgA 35).fn 25 = runF (pgA 25) c__law_world := by funext bs ds S; rfl
@[simp] theorem f35_26 : (pgA 35).fn 26 = runF (pgA 26) c_Roads___init__ := by funext bs ds S; rfl
@[simp] theorem f35_27 : (pgA 35).fn 27 = runF (pgA 27) c_Train___init__ := by funext bs ds S; rfl
@[simp] theorem f35_28 : (pgA 35).fn 28 = runF (pgA 28) c_Roads_places := by funext bs ds S; rfl
@[simp] theorem f35_29 : (pgA 35).fn 29 = runF (pgA 29) c_Train_start := by funext bs ds S; rfl
@[simp] theorem f35_30 : (pgA 35).fn 30 = runF (pgA 30) c_Train_end := by funext bs ds S; rfl
@[simp] theorem f35_31 : (pgA 35).fn 31 = runF (pgA 31) c_Timetable_names := by funext bs ds S; rfl
@[simp] theorem f35_32 : (pgA 35).fn 32 = runF (pgA 32) c_Timetable_need_train := by funext bs ds S; rfl
@[simp] theorem f35_33 : (pgA 35).fn 33 = runF (pgA 33) c_Train_kinds := by funext bs ds S; rfl
@[simp] theorem f35_34 : (pgA 35).fn 34 = runF (pgA 34) c_Timetable_loose := by funext bs ds S; rfl
@[simp] theorem f36_0 : (pgA 36).fn 0 = runF (pgA 0) c_is_whole := by funext bs ds S; rfl
@[simp] theorem f36_1 : (pgA 36).fn 1 = runF (pgA 1) c_is_name := by funext bs ds S; rfl
@[simp] theorem f36_2 : (pgA 36).fn 2 = runF (pgA 2) c_two_figures := by funext bs ds S; rfl
@[simp] theorem f36_3 : (pgA 36).fn 3 = runF (pgA 3) c_time_text := by funext bs ds S; rfl
@[simp] theorem f36_4 : (pgA 36).fn 4 = runF (pgA 4) c_minutes_until := by funext bs ds S; rfl
@[simp] theorem f36_5 : (pgA 36).fn 5 = runF (pgA 5) c_Timetable_span := by funext bs ds S; rfl
@[simp] theorem f36_6 : (pgA 36).fn 6 = runF (pgA 6) c_need_time := by funext bs ds S; rfl
@[simp] theorem f36_7 : (pgA 36).fn 7 = runF (pgA 7) c_Train_name := by funext bs ds S; rfl
@[simp] theorem f36_8 : (pgA 36).fn 8 = runF (pgA 8) c_Train_leave := by funext bs ds S; rfl
@[simp] theorem f36_9 : (pgA 36).fn 9 = runF (pgA 9) c_Train_takes := by funext bs ds S; rfl
@[simp] theorem f36_10 : (pgA 36).fn 10 = runF (pgA 10) c_Timetable_days := by funext bs ds S; rfl
@[simp] theorem f36_11 : (pgA 36).fn 11 = runF (pgA 11) c_Timetable_trains := by funext bs ds S; rfl
@[simp] theorem f36_12 : (pgA 36).fn 12 = runF (pgA 12) c_under_way := by funext bs ds S; rfl
@[simp] theorem f36_13 : (pgA 36).fn 13 = runF (pgA 13) c_busiest := by funext bs ds S; rfl
@[simp] theorem f36_14 : (pgA 36).fn 14 = runF (pgA 14) c_need_places := by funext bs ds S; rfl
@[simp] theorem f36_15 : (pgA 36).fn 15 = runF (pgA 15) c_is_road := by funext bs ds S; rfl
@[simp] theorem f36_16 : (pgA 36).fn 16 = runF (pgA 16) c_need_roads := by funext bs ds S; rfl
@[simp] theorem f36_17 : (pgA 36).fn 17 = runF (pgA 17) c_are_unlike_names := by funext bs ds S; rfl
@[simp] theorem f36_18 : (pgA 36).fn 18 = runF (pgA 18) c__law_cell := by funext bs ds S; rfl
@[simp] theorem f36_19 : (pgA 36).fn 19 = runF (pgA 19) c__law_box := by funext bs ds S; rfl
@[simp] theorem f36_20 : (pgA 36).fn 20 = runF (pgA 20) c__law_take := by funext bs ds S; rfl
@[simp] theorem f36_21 : (pgA 36).fn 21 = runF (pgA 21) c__law_names := by funext bs ds S; rfl
@[simp] theorem f36_22 : (pgA 36).fn 22 = runF (pgA 22) c__law_long := by funext bs ds S; rfl
@[simp] theorem f36_23 : (pgA 36).fn 23 = runF (pgA 23) c__law_roads := by funext bs ds S; rfl
@[simp] theorem f36_24 : (pgA 36).fn 24 = runF (pgA 24) c__law_train := by funext bs ds S; rfl
@[simp] theorem f36_25 : (pgA 36).fn 25 = runF (pgA 25) c__law_world := by funext bs ds S; rfl
@[simp] theorem f36_26 : (pgA 36).fn 26 = runF (pgA 26) c_Roads___init__ := by funext bs ds S; rfl
@[simp] theorem f36_27 : (pgA 36).fn 27 = runF (pgA 27) c_Train___init__ := by funext bs ds S; rfl
@[simp] theorem f36_28 : (pgA 36).fn 28 = runF (pgA 28) c_Roads_places := by funext bs ds S; rfl
@[simp] theorem f36_29 : (pgA 36).fn 29 = runF (pgA 29) c_Train_start := by funext bs ds S; rfl
@[simp] theorem f36_30 : (pgA 36).fn 30 = runF (pgA 30) c_Train_end := by funext bs ds S; rfl
@[simp] theorem f36_31 : (pgA 36).fn 31 = runF (pgA 31) c_Timetable_names := by funext bs ds S; rfl
@[simp] theorem f36_32 : (pgA 36).fn 32 = runF (pgA 32) c_Timetable_need_train := by funext bs ds S; rfl
@[simp] theorem f36_33 : (pgA 36).fn 33 = runF (pgA 33) c_Train_kinds := by funext bs ds S; rfl
@[simp] theorem f36_34 : (pgA 36).fn 34 = runF (pgA 34) c_Timetable_loose := by funext bs ds S; rfl
@[simp] theorem f36_35 : (pgA 36).fn 35 = runF (pgA 35) c_Timetable___init__ := by funext bs ds S; rfl
@[simp] theorem f38_37 : (pgA 38).fn 37 = runF (pgA 37) c__law_under_way := by funext bs ds S; rfl
@[simp] theorem f39_12 : (pgA 39).fn 12 = runF (pgA 12) c_under_way := by funext bs ds S; rfl
@[simp] theorem f40_20 : (pgA 40).fn 20 = runF (pgA 20) c__law_take := by funext bs ds S; rfl
@[simp] theorem f41_12 : (pgA 41).fn 12 = runF (pgA 12) c_under_way := by funext bs ds S; rfl
@[simp] theorem f41_13 : (pgA 41).fn 13 = runF (pgA 13) c_busiest := by funext bs ds S; rfl
@[simp] theorem f41_37 : (pgA 41).fn 37 = runF (pgA 37) c__law_under_way := by funext bs ds S; rfl
@[simp] theorem f41_38 : (pgA 41).fn 38 = runF (pgA 38) c__law_busiest := by funext bs ds S; rfl
@[simp] theorem f43_3 : (pgA 43).fn 3 = runF (pgA 3) c_time_text := by funext bs ds S; rfl
@[simp] theorem f44_0 : (pgA 44).fn 0 = runF (pgA 0) c_is_whole := by funext bs ds S; rfl
@[simp] theorem f44_1 : (pgA 44).fn 1 = runF (pgA 1) c_is_name := by funext bs ds S; rfl
@[simp] theorem f44_2 : (pgA 44).fn 2 = runF (pgA 2) c_two_figures := by funext bs ds S; rfl
@[simp] theorem f44_3 : (pgA 44).fn 3 = runF (pgA 3) c_time_text := by funext bs ds S; rfl
@[simp] theorem f44_4 : (pgA 44).fn 4 = runF (pgA 4) c_minutes_until := by funext bs ds S; rfl
@[simp] theorem f44_5 : (pgA 44).fn 5 = runF (pgA 5) c_Timetable_span := by funext bs ds S; rfl
@[simp] theorem f44_6 : (pgA 44).fn 6 = runF (pgA 6) c_need_time := by funext bs ds S; rfl
@[simp] theorem f44_7 : (pgA 44).fn 7 = runF (pgA 7) c_Train_name := by funext bs ds S; rfl
@[simp] theorem f44_8 : (pgA 44).fn 8 = runF (pgA 8) c_Train_leave := by funext bs ds S; rfl
@[simp] theorem f44_9 : (pgA 44).fn 9 = runF (pgA 9) c_Train_takes := by funext bs ds S; rfl
@[simp] theorem f44_10 : (pgA 44).fn 10 = runF (pgA 10) c_Timetable_days := by funext bs ds S; rfl
@[simp] theorem f44_11 : (pgA 44).fn 11 = runF (pgA 11) c_Timetable_trains := by funext bs ds S; rfl
@[simp] theorem f44_12 : (pgA 44).fn 12 = runF (pgA 12) c_under_way := by funext bs ds S; rfl
@[simp] theorem f44_13 : (pgA 44).fn 13 = runF (pgA 13) c_busiest := by funext bs ds S; rfl
@[simp] theorem f44_14 : (pgA 44).fn 14 = runF (pgA 14) c_need_places := by funext bs ds S; rfl
@[simp] theorem f44_15 : (pgA 44).fn 15 = runF (pgA 15) c_is_road := by funext bs ds S; rfl
@[simp] theorem f44_16 : (pgA 44).fn 16 = runF (pgA 16) c_need_roads := by funext bs ds S; rfl
@[simp] theorem f44_17 : (pgA 44).fn 17 = runF (pgA 17) c_are_unlike_names := by funext bs ds S; rfl
@[simp] theorem f44_18 : (pgA 44).fn 18 = runF (pgA 18) c__law_cell := by funext bs ds S; rfl
@[simp] theorem f44_19 : (pgA 44).fn 19 = runF (pgA 19) c__law_box := by funext bs ds S; rfl
@[simp] theorem f44_20 : (pgA 44).fn 20 = runF (pgA 20) c__law_take := by funext bs ds S; rfl
@[simp] theorem f44_21 : (pgA 44).fn 21 = runF (pgA 21) c__law_names := by funext bs ds S; rfl
@[simp] theorem f44_22 : (pgA 44).fn 22 = runF (pgA 22) c__law_long := by funext bs ds S; rfl
@[simp] theorem f44_23 : (pgA 44).fn 23 = runF (pgA 23) c__law_roads := by funext bs ds S; rfl
@[simp] theorem f44_24 : (pgA 44).fn 24 = runF (pgA 24) c__law_train := by funext bs ds S; rfl
@[simp] theorem f44_25 : (pgA 44).fn 25 = runF (pgA 25) c__law_world := by funext bs ds S; rfl
@[simp] theorem f44_26 : (pgA 44).fn 26 = runF (pgA 26) c_Roads___init__ := by funext bs ds S; rfl
@[simp] theorem f44_27 : (pgA 44).fn 27 = runF (pgA 27) c_Train___init__ := by funext bs ds S; rfl
@[simp] theorem f44_28 : (pgA 44).fn 28 = runF (pgA 28) c_Roads_places := by funext bs ds S; rfl
@[simp] theorem f44_29 : (pgA 44).fn 29 = runF (pgA 29) c_Train_start := by funext bs ds S; rfl
@[simp] theorem f44_30 : (pgA 44).fn 30 = runF (pgA 30) c_Train_end := by funext bs ds S; rfl
@[simp] theorem f44_31 : (pgA 44).fn 31 = runF (pgA 31) c_Timetable_names := by funext bs ds S; rfl
@[simp] theorem f44_32 : (pgA 44).fn 32 = runF (pgA 32) c_Timetable_need_train := by funext bs ds S; rfl
@[simp] theorem f44_33 : (pgA 44).fn 33 = runF (pgA 33) c_Train_kinds := by funext bs ds S; rfl
@[simp] theorem f44_34 : (pgA 44).fn 34 = runF (pgA 34) c_Timetable_loose := by funext bs ds S; rfl
@[simp] theorem f44_35 : (pgA 44).fn 35 = runF (pgA 35) c_Timetable___init__ := by funext bs ds S; rfl
@[simp] theorem f44_36 : (pgA 44).fn 36 = runF (pgA 36) c__law_table := by funext bs ds S; rfl
@[simp] theorem f44_37 : (pgA 44).fn 37 = runF (pgA 37) c__law_under_way := by funext bs ds S; rfl
@[simp] theorem f44_38 : (pgA 44).fn 38 = runF (pgA 38) c__law_busiest := by funext bs ds S; rfl
@[simp] theorem f44_39 : (pgA 44).fn 39 = runF (pgA 39) c__law_refused := by funext bs ds S; rfl
@[simp] theorem f44_40 : (pgA 44).fn 40 = runF (pgA 40) c__law_times := by funext bs ds S; rfl
@[simp] theorem f44_41 : (pgA 44).fn 41 = runF (pgA 41) c__law_right := by funext bs ds S; rfl
@[simp] theorem f44_42 : (pgA 44).fn 42 = runF (pgA 42) c_Roads_roads := by funext bs ds S; rfl
@[simp] theorem f44_43 : (pgA 44).fn 43 = runF (pgA 43) c_Train_row := by funext bs ds S; rfl
@[simp] theorem f45_0 : (pgA 45).fn 0 = runF (pgA 0) c_is_whole := by funext bs ds S; rfl
@[simp] theorem f45_1 : (pgA 45).fn 1 = runF (pgA 1) c_is_name := by funext bs ds S; rfl
@[simp] theorem f45_2 : (pgA 45).fn 2 = runF (pgA 2) c_two_figures := by funext bs ds S; rfl
@[simp] theorem f45_3 : (pgA 45).fn 3 = runF (pgA 3) c_time_text := by funext bs ds S; rfl
@[simp] theorem f45_4 : (pgA 45).fn 4 = runF (pgA 4) c_minutes_until := by funext bs ds S; rfl
@[simp] theorem f45_5 : (pgA 45).fn 5 = runF (pgA 5) c_Timetable_span := by funext bs ds S; rfl
@[simp] theorem f45_6 : (pgA 45).fn 6 = runF (pgA 6) c_need_time := by funext bs ds S; rfl
@[simp] theorem f45_7 : (pgA 45).fn 7 = runF (pgA 7) c_Train_name := by funext bs ds S; rfl
@[simp] theorem f45_8 : (pgA 45).fn 8 = runF (pgA 8) c_Train_leave := by funext bs ds S; rfl
@[simp] theorem f45_9 : (pgA 45).fn 9 = runF (pgA 9) c_Train_takes := by funext bs ds S; rfl
@[simp] theorem f45_10 : (pgA 45).fn 10 = runF (pgA 10) c_Timetable_days := by funext bs ds S; rfl
@[simp] theorem f45_11 : (pgA 45).fn 11 = runF (pgA 11) c_Timetable_trains := by funext bs ds S; rfl
@[simp] theorem f45_12 : (pgA 45).fn 12 = runF (pgA 12) c_under_way := by funext bs ds S; rfl
@[simp] theorem f45_13 : (pgA 45).fn 13 = runF (pgA 13) c_busiest := by funext bs ds S; rfl
@[simp] theorem f45_14 : (pgA 45).fn 14 = runF (pgA 14) c_need_places := by funext bs ds S; rfl
@[simp] theorem f45_15 : (pgA 45).fn 15 = runF (pgA 15) c_is_road := by funext bs ds S; rfl
@[simp] theorem f45_16 : (pgA 45).fn 16 = runF (pgA 16) c_need_roads := by funext bs ds S; rfl
@[simp] theorem f45_17 : (pgA 45).fn 17 = runF (pgA 17) c_are_unlike_names := by funext bs ds S; rfl
@[simp] theorem f45_18 : (pgA 45).fn 18 = runF (pgA 18) c__law_cell := by funext bs ds S; rfl
@[simp] theorem f45_19 : (pgA 45).fn 19 = runF (pgA 19) c__law_box := by funext bs ds S; rfl
@[simp] theorem f45_20 : (pgA 45).fn 20 = runF (pgA 20) c__law_take := by funext bs ds S; rfl
@[simp] theorem f45_21 : (pgA 45).fn 21 = runF (pgA 21) c__law_names := by funext bs ds S; rfl
@[simp] theorem f45_22 : (pgA 45).fn 22 = runF (pgA 22) c__law_long := by funext bs ds S; rfl
@[simp] theorem f45_23 : (pgA 45).fn 23 = runF (pgA 23) c__law_roads := by funext bs ds S; rfl
@[simp] theorem f45_24 : (pgA 45).fn 24 = runF (pgA 24) c__law_train := by funext bs ds S; rfl
@[simp] theorem f45_25 : (pgA 45).fn 25 = runF (pgA 25) c__law_world := by funext bs ds S; rfl
@[simp] theorem f45_26 : (pgA 45).fn 26 = runF (pgA 26) c_Roads___init__ := by funext bs ds S; rfl
@[simp] theorem f45_27 : (pgA 45).fn 27 = runF (pgA 27) c_Train___init__ := by funext bs ds S; rfl
@[simp] theorem f45_28 : (pgA 45).fn 28 = runF (pgA 28) c_Roads_places := by funext bs ds S; rfl
@[simp] theorem f45_29 : (pgA 45).fn 29 = runF (pgA 29) c_Train_start := by funext bs ds S; rfl
@[simp] theorem f45_30 : (pgA 45).fn 30 = runF (pgA 30) c_Train_end := by funext bs ds S; rfl
@[simp] theorem f45_31 : (pgA 45).fn 31 = runF (pgA 31) c_Timetable_names := by funext bs ds S; rfl
@[simp] theorem f45_32 : (pgA 45).fn 32 = runF (pgA 32) c_Timetable_need_train := by funext bs ds S; rfl
@[simp] theorem f45_33 : (pgA 45).fn 33 = runF (pgA 33) c_Train_kinds := by funext bs ds S; rfl
@[simp] theorem f45_34 : (pgA 45).fn 34 = runF (pgA 34) c_Timetable_loose := by funext bs ds S; rfl
@[simp] theorem f45_35 : (pgA 45).fn 35 = runF (pgA 35) c_Timetable___init__ := by funext bs ds S; rfl
@[simp] theorem f45_36 : (pgA 45).fn 36 = runF (pgA 36) c__law_table := by funext bs ds S; rfl
@[simp] theorem f45_37 : (pgA 45).fn 37 = runF (pgA 37) c__law_under_way := by funext bs ds S; rfl
@[simp] theorem f45_38 : (pgA 45).fn 38 = runF (pgA 38) c__law_busiest := by funext bs ds S; rfl
@[simp] theorem f45_39 : (pgA 45).fn 39 = runF (pgA 39) c__law_refused := by funext bs ds S; rfl
@[simp] theorem f45_40 : (pgA 45).fn 40 = runF (pgA 40) c__law_times := by funext bs ds S; rfl
@[simp] theorem f45_41 : (pgA 45).fn 41 = runF (pgA 41) c__law_right := by funext bs ds S; rfl
@[simp] theorem f45_42 : (pgA 45).fn 42 = runF (pgA 42) c_Roads_roads := by funext bs ds S; rfl
@[simp] theorem f45_43 : (pgA 45).fn 43 = runF (pgA 43) c_Train_row := by funext bs ds S; rfl
@[simp] theorem f45_44 : (pgA 45).fn 44 = runF (pgA 44) c_Timetable_told := by funext bs ds S; rfl
@[simp] theorem A_sub_0_0 (j : Nat) : (pgA j).sub 0 0 = true := id rfl
@[simp] theorem A_sub_0_1 (j : Nat) : (pgA j).sub 0 1 = false := id rfl
@[simp] theorem A_sub_0_2 (j : Nat) : (pgA j).sub 0 2 = false := id rfl
@[simp] theorem A_ini_0 (j : Nat) : (pgA j).ini 0 = some 26 := id rfl
@[simp] theorem A_mth_0_6 (j : Nat) : (pgA j).mth 0 6 = some 28 := id rfl
@[simp] theorem A_mth_0_13 (j : Nat) : (pgA j).mth 0 13 = some 42 := id rfl
@[simp] theorem A_sub_1_0 (j : Nat) : (pgA j).sub 1 0 = false := id rfl
@[simp] theorem A_sub_1_1 (j : Nat) : (pgA j).sub 1 1 = true := id rfl
@[simp] theorem A_sub_1_2 (j : Nat) : (pgA j).sub 1 2 = false := id rfl
@[simp] theorem A_ini_1 (j : Nat) : (pgA j).ini 1 = some 27 := id rfl
@[simp] theorem A_mth_1_1 (j : Nat) : (pgA j).mth 1 1 = some 7 := id rfl
@[simp] theorem A_mth_1_2 (j : Nat) : (pgA j).mth 1 2 = some 8 := id rfl
@[simp] theorem A_mth_1_3 (j : Nat) : (pgA j).mth 1 3 = some 9 := id rfl
@[simp] theorem A_mth_1_7 (j : Nat) : (pgA j).mth 1 7 = some 29 := id rfl
@[simp] theorem A_mth_1_8 (j : Nat) : (pgA j).mth 1 8 = some 30 := id rfl
@[simp] theorem A_mth_1_11 (j : Nat) : (pgA j).mth 1 11 = some 33 := id rfl
@[simp] theorem A_mth_1_14 (j : Nat) : (pgA j).mth 1 14 = some 43 := id rfl
@[simp] theorem A_sub_2_0 (j : Nat) : (pgA j).sub 2 0 = false := id rfl
@[simp] theorem A_sub_2_1 (j : Nat) : (pgA j).sub 2 1 = false := id rfl
@[simp] theorem A_sub_2_2 (j : Nat) : (pgA j).sub 2 2 = true := id rfl
@[simp] theorem A_ini_2 (j : Nat) : (pgA j).ini 2 = some 35 := id rfl
@[simp] theorem A_mth_2_0 (j : Nat) : (pgA j).mth 2 0 = some 5 := id rfl
@[simp] theorem A_mth_2_4 (j : Nat) : (pgA j).mth 2 4 = some 10 := id rfl
@[simp] theorem A_mth_2_5 (j : Nat) : (pgA j).mth 2 5 = some 11 := id rfl
@[simp] theorem A_mth_2_9 (j : Nat) : (pgA j).mth 2 9 = some 31 := id rfl
@[simp] theorem A_mth_2_10 (j : Nat) : (pgA j).mth 2 10 = some 32 := id rfl
@[simp] theorem A_mth_2_12 (j : Nat) : (pgA j).mth 2 12 = some 34 := id rfl
@[simp] theorem A_mth_2_15 (j : Nat) : (pgA j).mth 2 15 = some 44 := id rfl
@[simp] theorem A_sub_3_3 (j : Nat) : (pgA j).sub 3 3 = true := id rfl
@[simp] theorem A_sub_3_4 (j : Nat) : (pgA j).sub 3 4 = false := id rfl
@[simp] theorem A_sub_3_5 (j : Nat) : (pgA j).sub 3 5 = false := id rfl
@[simp] theorem A_sub_3_6 (j : Nat) : (pgA j).sub 3 6 = false := id rfl
@[simp] theorem A_sub_3_7 (j : Nat) : (pgA j).sub 3 7 = false := id rfl
@[simp] theorem A_sub_3_8 (j : Nat) : (pgA j).sub 3 8 = false := id rfl
@[simp] theorem A_sub_3_9 (j : Nat) : (pgA j).sub 3 9 = false := id rfl
@[simp] theorem A_sub_3_10 (j : Nat) : (pgA j).sub 3 10 = false := id rfl
@[simp] theorem A_sub_3_11 (j : Nat) : (pgA j).sub 3 11 = false := id rfl
@[simp] theorem A_sub_3_12 (j : Nat) : (pgA j).sub 3 12 = false := id rfl
@[simp] theorem A_sub_3_13 (j : Nat) : (pgA j).sub 3 13 = false := id rfl
@[simp] theorem A_sub_3_14 (j : Nat) : (pgA j).sub 3 14 = false := id rfl
@[simp] theorem A_sub_3_15 (j : Nat) : (pgA j).sub 3 15 = false := id rfl
@[simp] theorem A_exf_3 (j : Nat) : (pgA j).exf 3 = [] := id rfl
@[simp] theorem A_sub_4_3 (j : Nat) : (pgA j).sub 4 3 = true := id rfl
@[simp] theorem A_sub_4_4 (j : Nat) : (pgA j).sub 4 4 = true := id rfl
@[simp] theorem A_sub_4_5 (j : Nat) : (pgA j).sub 4 5 = false := id rfl
@[simp] theorem A_sub_4_6 (j : Nat) : (pgA j).sub 4 6 = false := id rfl
@[simp] theorem A_sub_4_7 (j : Nat) : (pgA j).sub 4 7 = false := id rfl
@[simp] theorem A_sub_4_8 (j : Nat) : (pgA j).sub 4 8 = false := id rfl
@[simp] theorem A_sub_4_9 (j : Nat) : (pgA j).sub 4 9 = false := id rfl
@[simp] theorem A_sub_4_10 (j : Nat) : (pgA j).sub 4 10 = false := id rfl
@[simp] theorem A_sub_4_11 (j : Nat) : (pgA j).sub 4 11 = false := id rfl
@[simp] theorem A_sub_4_12 (j : Nat) : (pgA j).sub 4 12 = false := id rfl
@[simp] theorem A_sub_4_13 (j : Nat) : (pgA j).sub 4 13 = false := id rfl
@[simp] theorem A_sub_4_14 (j : Nat) : (pgA j).sub 4 14 = false := id rfl
@[simp] theorem A_sub_4_15 (j : Nat) : (pgA j).sub 4 15 = false := id rfl
@[simp] theorem A_exf_4 (j : Nat) : (pgA j).exf 4 = [11] := id rfl
@[simp] theorem A_sub_5_3 (j : Nat) : (pgA j).sub 5 3 = true := id rfl
@[simp] theorem A_sub_5_4 (j : Nat) : (pgA j).sub 5 4 = false := id rfl
@[simp] theorem A_sub_5_5 (j : Nat) : (pgA j).sub 5 5 = true := id rfl
@[simp] theorem A_sub_5_6 (j : Nat) : (pgA j).sub 5 6 = false := id rfl
@[simp] theorem A_sub_5_7 (j : Nat) : (pgA j).sub 5 7 = false := id rfl
@[simp] theorem A_sub_5_8 (j : Nat) : (pgA j).sub 5 8 = false := id rfl
@[simp] theorem A_sub_5_9 (j : Nat) : (pgA j).sub 5 9 = false := id rfl
@[simp] theorem A_sub_5_10 (j : Nat) : (pgA j).sub 5 10 = false := id rfl
@[simp] theorem A_sub_5_11 (j : Nat) : (pgA j).sub 5 11 = false := id rfl
@[simp] theorem A_sub_5_12 (j : Nat) : (pgA j).sub 5 12 = false := id rfl
@[simp] theorem A_sub_5_13 (j : Nat) : (pgA j).sub 5 13 = false := id rfl
@[simp] theorem A_sub_5_14 (j : Nat) : (pgA j).sub 5 14 = false := id rfl
@[simp] theorem A_sub_5_15 (j : Nat) : (pgA j).sub 5 15 = false := id rfl
@[simp] theorem A_exf_5 (j : Nat) : (pgA j).exf 5 = [11] := id rfl
@[simp] theorem A_sub_6_3 (j : Nat) : (pgA j).sub 6 3 = true := id rfl
@[simp] theorem A_sub_6_4 (j : Nat) : (pgA j).sub 6 4 = false := id rfl
@[simp] theorem A_sub_6_5 (j : Nat) : (pgA j).sub 6 5 = false := id rfl
@[simp] theorem A_sub_6_6 (j : Nat) : (pgA j).sub 6 6 = true := id rfl
@[simp] theorem A_sub_6_7 (j : Nat) : (pgA j).sub 6 7 = false := id rfl
@[simp] theorem A_sub_6_8 (j : Nat) : (pgA j).sub 6 8 = false := id rfl
@[simp] theorem A_sub_6_9 (j : Nat) : (pgA j).sub 6 9 = false := id rfl
@[simp] theorem A_sub_6_10 (j : Nat) : (pgA j).sub 6 10 = false := id rfl
@[simp] theorem A_sub_6_11 (j : Nat) : (pgA j).sub 6 11 = false := id rfl
@[simp] theorem A_sub_6_12 (j : Nat) : (pgA j).sub 6 12 = false := id rfl
@[simp] theorem A_sub_6_13 (j : Nat) : (pgA j).sub 6 13 = false := id rfl
@[simp] theorem A_sub_6_14 (j : Nat) : (pgA j).sub 6 14 = false := id rfl
@[simp] theorem A_sub_6_15 (j : Nat) : (pgA j).sub 6 15 = false := id rfl
@[simp] theorem A_exf_6 (j : Nat) : (pgA j).exf 6 = [11] := id rfl
@[simp] theorem A_sub_7_3 (j : Nat) : (pgA j).sub 7 3 = true := id rfl
@[simp] theorem A_sub_7_4 (j : Nat) : (pgA j).sub 7 4 = false := id rfl
@[simp] theorem A_sub_7_5 (j : Nat) : (pgA j).sub 7 5 = false := id rfl
@[simp] theorem A_sub_7_6 (j : Nat) : (pgA j).sub 7 6 = false := id rfl
@[simp] theorem A_sub_7_7 (j : Nat) : (pgA j).sub 7 7 = true := id rfl
@[simp] theorem A_sub_7_8 (j : Nat) : (pgA j).sub 7 8 = false := id rfl
@[simp] theorem A_sub_7_9 (j : Nat) : (pgA j).sub 7 9 = false := id rfl
@[simp] theorem A_sub_7_10 (j : Nat) : (pgA j).sub 7 10 = false := id rfl
@[simp] theorem A_sub_7_11 (j : Nat) : (pgA j).sub 7 11 = false := id rfl
@[simp] theorem A_sub_7_12 (j : Nat) : (pgA j).sub 7 12 = false := id rfl
@[simp] theorem A_sub_7_13 (j : Nat) : (pgA j).sub 7 13 = false := id rfl
@[simp] theorem A_sub_7_14 (j : Nat) : (pgA j).sub 7 14 = false := id rfl
@[simp] theorem A_sub_7_15 (j : Nat) : (pgA j).sub 7 15 = false := id rfl
@[simp] theorem A_exf_7 (j : Nat) : (pgA j).exf 7 = [11] := id rfl
@[simp] theorem A_sub_8_3 (j : Nat) : (pgA j).sub 8 3 = true := id rfl
@[simp] theorem A_sub_8_4 (j : Nat) : (pgA j).sub 8 4 = false := id rfl
@[simp] theorem A_sub_8_5 (j : Nat) : (pgA j).sub 8 5 = false := id rfl
@[simp] theorem A_sub_8_6 (j : Nat) : (pgA j).sub 8 6 = false := id rfl
@[simp] theorem A_sub_8_7 (j : Nat) : (pgA j).sub 8 7 = false := id rfl
@[simp] theorem A_sub_8_8 (j : Nat) : (pgA j).sub 8 8 = true := id rfl
@[simp] theorem A_sub_8_9 (j : Nat) : (pgA j).sub 8 9 = false := id rfl
@[simp] theorem A_sub_8_10 (j : Nat) : (pgA j).sub 8 10 = false := id rfl
@[simp] theorem A_sub_8_11 (j : Nat) : (pgA j).sub 8 11 = false := id rfl
@[simp] theorem A_sub_8_12 (j : Nat) : (pgA j).sub 8 12 = false := id rfl
@[simp] theorem A_sub_8_13 (j : Nat) : (pgA j).sub 8 13 = false := id rfl
@[simp] theorem A_sub_8_14 (j : Nat) : (pgA j).sub 8 14 = false := id rfl
@[simp] theorem A_sub_8_15 (j : Nat) : (pgA j).sub 8 15 = false := id rfl
@[simp] theorem A_exf_8 (j : Nat) : (pgA j).exf 8 = [11] := id rfl
@[simp] theorem A_sub_9_3 (j : Nat) : (pgA j).sub 9 3 = true := id rfl
@[simp] theorem A_sub_9_4 (j : Nat) : (pgA j).sub 9 4 = false := id rfl
@[simp] theorem A_sub_9_5 (j : Nat) : (pgA j).sub 9 5 = false := id rfl
@[simp] theorem A_sub_9_6 (j : Nat) : (pgA j).sub 9 6 = false := id rfl
@[simp] theorem A_sub_9_7 (j : Nat) : (pgA j).sub 9 7 = false := id rfl
@[simp] theorem A_sub_9_8 (j : Nat) : (pgA j).sub 9 8 = false := id rfl
@[simp] theorem A_sub_9_9 (j : Nat) : (pgA j).sub 9 9 = true := id rfl
@[simp] theorem A_sub_9_10 (j : Nat) : (pgA j).sub 9 10 = false := id rfl
@[simp] theorem A_sub_9_11 (j : Nat) : (pgA j).sub 9 11 = false := id rfl
@[simp] theorem A_sub_9_12 (j : Nat) : (pgA j).sub 9 12 = false := id rfl
@[simp] theorem A_sub_9_13 (j : Nat) : (pgA j).sub 9 13 = false := id rfl
@[simp] theorem A_sub_9_14 (j : Nat) : (pgA j).sub 9 14 = false := id rfl
@[simp] theorem A_sub_9_15 (j : Nat) : (pgA j).sub 9 15 = false := id rfl
@[simp] theorem A_exf_9 (j : Nat) : (pgA j).exf 9 = [11] := id rfl
@[simp] theorem A_sub_10_3 (j : Nat) : (pgA j).sub 10 3 = true := id rfl
@[simp] theorem A_sub_10_4 (j : Nat) : (pgA j).sub 10 4 = false := id rfl
@[simp] theorem A_sub_10_5 (j : Nat) : (pgA j).sub 10 5 = false := id rfl
@[simp] theorem A_sub_10_6 (j : Nat) : (pgA j).sub 10 6 = false := id rfl
@[simp] theorem A_sub_10_7 (j : Nat) : (pgA j).sub 10 7 = false := id rfl
@[simp] theorem A_sub_10_8 (j : Nat) : (pgA j).sub 10 8 = false := id rfl
@[simp] theorem A_sub_10_9 (j : Nat) : (pgA j).sub 10 9 = false := id rfl
@[simp] theorem A_sub_10_10 (j : Nat) : (pgA j).sub 10 10 = true := id rfl
@[simp] theorem A_sub_10_11 (j : Nat) : (pgA j).sub 10 11 = false := id rfl
@[simp] theorem A_sub_10_12 (j : Nat) : (pgA j).sub 10 12 = false := id rfl
@[simp] theorem A_sub_10_13 (j : Nat) : (pgA j).sub 10 13 = false := id rfl
@[simp] theorem A_sub_10_14 (j : Nat) : (pgA j).sub 10 14 = false := id rfl
@[simp] theorem A_sub_10_15 (j : Nat) : (pgA j).sub 10 15 = false := id rfl
@[simp] theorem A_exf_10 (j : Nat) : (pgA j).exf 10 = [11] := id rfl
@[simp] theorem A_sub_11_3 (j : Nat) : (pgA j).sub 11 3 = true := id rfl
@[simp] theorem A_sub_11_4 (j : Nat) : (pgA j).sub 11 4 = false := id rfl
@[simp] theorem A_sub_11_5 (j : Nat) : (pgA j).sub 11 5 = false := id rfl
@[simp] theorem A_sub_11_6 (j : Nat) : (pgA j).sub 11 6 = false := id rfl
@[simp] theorem A_sub_11_7 (j : Nat) : (pgA j).sub 11 7 = false := id rfl
@[simp] theorem A_sub_11_8 (j : Nat) : (pgA j).sub 11 8 = false := id rfl
@[simp] theorem A_sub_11_9 (j : Nat) : (pgA j).sub 11 9 = false := id rfl
@[simp] theorem A_sub_11_10 (j : Nat) : (pgA j).sub 11 10 = false := id rfl
@[simp] theorem A_sub_11_11 (j : Nat) : (pgA j).sub 11 11 = true := id rfl
@[simp] theorem A_sub_11_12 (j : Nat) : (pgA j).sub 11 12 = false := id rfl
@[simp] theorem A_sub_11_13 (j : Nat) : (pgA j).sub 11 13 = false := id rfl
@[simp] theorem A_sub_11_14 (j : Nat) : (pgA j).sub 11 14 = false := id rfl
@[simp] theorem A_sub_11_15 (j : Nat) : (pgA j).sub 11 15 = false := id rfl
@[simp] theorem A_exf_11 (j : Nat) : (pgA j).exf 11 = [12] := id rfl
@[simp] theorem A_sub_12_3 (j : Nat) : (pgA j).sub 12 3 = true := id rfl
@[simp] theorem A_sub_12_4 (j : Nat) : (pgA j).sub 12 4 = false := id rfl
@[simp] theorem A_sub_12_5 (j : Nat) : (pgA j).sub 12 5 = false := id rfl
@[simp] theorem A_sub_12_6 (j : Nat) : (pgA j).sub 12 6 = false := id rfl
@[simp] theorem A_sub_12_7 (j : Nat) : (pgA j).sub 12 7 = false := id rfl
@[simp] theorem A_sub_12_8 (j : Nat) : (pgA j).sub 12 8 = false := id rfl
@[simp] theorem A_sub_12_9 (j : Nat) : (pgA j).sub 12 9 = false := id rfl
@[simp] theorem A_sub_12_10 (j : Nat) : (pgA j).sub 12 10 = false := id rfl
@[simp] theorem A_sub_12_11 (j : Nat) : (pgA j).sub 12 11 = false := id rfl
@[simp] theorem A_sub_12_12 (j : Nat) : (pgA j).sub 12 12 = true := id rfl
@[simp] theorem A_sub_12_13 (j : Nat) : (pgA j).sub 12 13 = false := id rfl
@[simp] theorem A_sub_12_14 (j : Nat) : (pgA j).sub 12 14 = false := id rfl
@[simp] theorem A_sub_12_15 (j : Nat) : (pgA j).sub 12 15 = false := id rfl
@[simp] theorem A_exf_12 (j : Nat) : (pgA j).exf 12 = [11] := id rfl
@[simp] theorem A_sub_13_3 (j : Nat) : (pgA j).sub 13 3 = true := id rfl
@[simp] theorem A_sub_13_4 (j : Nat) : (pgA j).sub 13 4 = false := id rfl
@[simp] theorem A_sub_13_5 (j : Nat) : (pgA j).sub 13 5 = false := id rfl
@[simp] theorem A_sub_13_6 (j : Nat) : (pgA j).sub 13 6 = false := id rfl
@[simp] theorem A_sub_13_7 (j : Nat) : (pgA j).sub 13 7 = false := id rfl
@[simp] theorem A_sub_13_8 (j : Nat) : (pgA j).sub 13 8 = false := id rfl
@[simp] theorem A_sub_13_9 (j : Nat) : (pgA j).sub 13 9 = false := id rfl
@[simp] theorem A_sub_13_10 (j : Nat) : (pgA j).sub 13 10 = false := id rfl
@[simp] theorem A_sub_13_11 (j : Nat) : (pgA j).sub 13 11 = false := id rfl
@[simp] theorem A_sub_13_12 (j : Nat) : (pgA j).sub 13 12 = false := id rfl
@[simp] theorem A_sub_13_13 (j : Nat) : (pgA j).sub 13 13 = true := id rfl
@[simp] theorem A_sub_13_14 (j : Nat) : (pgA j).sub 13 14 = false := id rfl
@[simp] theorem A_sub_13_15 (j : Nat) : (pgA j).sub 13 15 = false := id rfl
@[simp] theorem A_exf_13 (j : Nat) : (pgA j).exf 13 = [11] := id rfl
@[simp] theorem A_sub_14_3 (j : Nat) : (pgA j).sub 14 3 = true := id rfl
@[simp] theorem A_sub_14_4 (j : Nat) : (pgA j).sub 14 4 = false := id rfl
@[simp] theorem A_sub_14_5 (j : Nat) : (pgA j).sub 14 5 = false := id rfl
@[simp] theorem A_sub_14_6 (j : Nat) : (pgA j).sub 14 6 = false := id rfl
@[simp] theorem A_sub_14_7 (j : Nat) : (pgA j).sub 14 7 = false := id rfl
@[simp] theorem A_sub_14_8 (j : Nat) : (pgA j).sub 14 8 = false := id rfl
@[simp] theorem A_sub_14_9 (j : Nat) : (pgA j).sub 14 9 = false := id rfl
@[simp] theorem A_sub_14_10 (j : Nat) : (pgA j).sub 14 10 = false := id rfl
@[simp] theorem A_sub_14_11 (j : Nat) : (pgA j).sub 14 11 = false := id rfl
@[simp] theorem A_sub_14_12 (j : Nat) : (pgA j).sub 14 12 = false := id rfl
@[simp] theorem A_sub_14_13 (j : Nat) : (pgA j).sub 14 13 = false := id rfl
@[simp] theorem A_sub_14_14 (j : Nat) : (pgA j).sub 14 14 = true := id rfl
@[simp] theorem A_sub_14_15 (j : Nat) : (pgA j).sub 14 15 = false := id rfl
@[simp] theorem A_exf_14 (j : Nat) : (pgA j).exf 14 = [11] := id rfl
@[simp] theorem A_sub_15_3 (j : Nat) : (pgA j).sub 15 3 = true := id rfl
@[simp] theorem A_sub_15_4 (j : Nat) : (pgA j).sub 15 4 = false := id rfl
@[simp] theorem A_sub_15_5 (j : Nat) : (pgA j).sub 15 5 = false := id rfl
@[simp] theorem A_sub_15_6 (j : Nat) : (pgA j).sub 15 6 = false := id rfl
@[simp] theorem A_sub_15_7 (j : Nat) : (pgA j).sub 15 7 = false := id rfl
@[simp] theorem A_sub_15_8 (j : Nat) : (pgA j).sub 15 8 = false := id rfl
@[simp] theorem A_sub_15_9 (j : Nat) : (pgA j).sub 15 9 = false := id rfl
@[simp] theorem A_sub_15_10 (j : Nat) : (pgA j).sub 15 10 = false := id rfl
@[simp] theorem A_sub_15_11 (j : Nat) : (pgA j).sub 15 11 = false := id rfl
@[simp] theorem A_sub_15_12 (j : Nat) : (pgA j).sub 15 12 = false := id rfl
@[simp] theorem A_sub_15_13 (j : Nat) : (pgA j).sub 15 13 = false := id rfl
@[simp] theorem A_sub_15_14 (j : Nat) : (pgA j).sub 15 14 = false := id rfl
@[simp] theorem A_sub_15_15 (j : Nat) : (pgA j).sub 15 15 = true := id rfl
@[simp] theorem A_exf_15 (j : Nat) : (pgA j).exf 15 = [12] := id rfl
@[simp] theorem A_gls_0 (j : Nat) : (pgA j).gls 0 = .str [97, 98, 99, 100, 101, 102, 103, 104, 105, 106, 107, 108, 109, 110, 111, 112, 113, 114, 115, 116, 117, 118, 119, 120, 121, 122] := id rfl
@[simp] theorem A_gls_1 (j : Nat) : (pgA j).gls 1 = .int 1440 := id rfl
@[simp] theorem A_gls_2 (j : Nat) : (pgA j).gls 2 = .int 10079 := id rfl
@[simp] theorem A_gls_3 (j : Nat) : (pgA j).gls 3 = .int 6 := id rfl
@[simp] theorem A_gls_4 (j : Nat) : (pgA j).gls 4 = .int 10 := id rfl
@[simp] theorem A_gls_5 (j : Nat) : (pgA j).gls 5 = .int 600 := id rfl
@[simp] theorem A_gls_6 (j : Nat) : (pgA j).gls 6 = .int 3 := id rfl
@[simp] theorem A_gls_7 (j : Nat) : (pgA j).gls 7 = .int 10079 := id rfl
@[simp] theorem A_gls_8 (j : Nat) : (pgA j).gls 8 = .int 10080 := id rfl
@[simp] theorem A_gls_9 (j : Nat) : (pgA j).gls 9 = .int 7 := id rfl
@[simp] theorem A_gls_10 (j : Nat) : (pgA j).gls 10 = .int 1440 := id rfl
@[simp] theorem A_gls_11 (j : Nat) : (pgA j).gls 11 = .int 12 := id rfl
@[simp] theorem A_gls_12 (j : Nat) : (pgA j).gls 12 = .int 2 := id rfl
theorem f_law : pgL tb fds (fds.length - 1) = runF (pgA 45) c_law := by funext bs ds S; rfl
/-! ### the purse: what is drawn (the same in every law) -/
theorem getD_at {S : Sto} {p : Nat} {c : D} (h : S[p]? = some c) : S.getD p .non = c := by
  rw [List.getD_eq_getElem?_getD, h]; rfl
theorem take_val {pg : Pg} {bs : Nat} {S : Sto} {p : Nat} {a b c m : Int} (h : S[p]? = some (.lst [.int a, .int b, .int c])) (ha : 0 < a) (hm : 0 < m) (hm2 : m < 1000000000000000000000000000000) :
    runF pg c__law_take bs [.cell p, .int m] S = .val (.int (a % m)) (S.set p (.lst [.int (a / m), .int b, .int c])) := by
  have hp : p < S.length := (List.getElem?_eq_some_iff.mp h).1
  have h1 : S[p] = (.lst [.int a, .int b, .int c]) := (List.getElem?_eq_some_iff.mp h).2
  simp [runF, c__law_take, evSs, evS, evT, evE, bindS, R.bind, asB, idxD, EL.get, getD_at h, ix, cmpD, optR, ha, binD, binI, hm, hm2, bindT, subD, h, setC, may, nc, exitV, res, hops, resW, optS, List.take_of_length_le]
theorem pow5 {x : Int} (h0 : 0 ≤ x) (h : x < 18446744073709551616) : x.natAbs < 18446744073709551616 := by omega
theorem take_val2 {pg : Pg} {bs : Nat} {S : Sto} {p : Nat} {a b c m : Int} (h : S[p]? = some (.lst [.int a, .int b, .int c])) (ha : ¬ 0 < a) (hm : 0 < m) (hb : 0 ≤ b) (hb2 : b < 2147483629) (hc : 0 ≤ c) (hc2 : c < 1000000000) :
    ∃ d, runF pg c__law_take bs [.cell p, .int m] S = .val (.int (d % m)) (S.set p (.lst [.int a, .int b, .int (c + 1)])) := by
  have hp : p < S.length := (List.getElem?_eq_some_iff.mp h).1
  have h1 : S[p] = (.lst [.int a, .int b, .int c]) := (List.getElem?_eq_some_iff.mp h).2
  have m1 : mulOk 104729 (c + 1) = true := by
    unfold mulOk
    rw [Bool.or_eq_true, decide_eq_true_eq]
    left
    decide
  have m2 : mulOk 48271 (c + 1) = true := by
    unfold mulOk
    rw [Bool.or_eq_true, decide_eq_true_eq]
    left
    decide
  have n1 : (b + 104729 * (c + 1) + 89).natAbs < 18446744073709551616 := by omega
  have n2 : ∀ x : Int, (x % 2147483647 + 48271 * (c + 1)).natAbs < 18446744073709551616 := fun x => by omega
  refine ⟨((b + 104729 * (c + 1) + 89) ^ 5 % 2147483647 + 48271 * (c + 1)) ^ 3 % 2147483629 / 16, ?_⟩
  simp [runF, c__law_take, evSs, evS, evT, evE, bindS, R.bind, asB, idxD, EL.get, getD_at h, ix, cmpD, optR, eq_false ha, binD, binI, hm, bindT, subD, h, h1, setC, may, nc, exitV, res, hops, resW, optS, List.take_of_length_le, m1, m2, n1, n2, hp]
theorem cell_ok {pg : Pg} {bs : Nat} {S : Sto} {ns : List Int} {k : Nat} : ∃ z : Int, runF pg c__law_cell bs [.scr (ns.map .int), .int k] S = .val (.int z) S := by
  by_cases h : k < ns.length
  · refine ⟨ns[k], ?_⟩
    have h2 : (k : Int) < ns.length := by omega
    simp [runF, c__law_cell, evSs, evS, evT, asB, evE, evEs, bindS, R.bind, EL.get, bfD, lenD, cmpD, optR, idxD, ix, exitV, res, hops, resW, List.take_of_length_le, h]
  · refine ⟨7919 * k + 89, ?_⟩
    have m : mulOk 7919 k = true := by
      unfold mulOk
      rw [Bool.or_eq_true, decide_eq_true_eq]
      left
      decide
    simp [runF, c__law_cell, evSs, evS, evT, asB, evE, evEs, bindS, R.bind, EL.get, bfD, lenD, cmpD, optR, binD, binI, m, exitV, res, hops, resW, List.take_of_length_le, h]
theorem purse_ok {pg : Pg} {bs : Nat} {S : Sto} {z : Int} : ∃ a b : Int, runF pg c__law_box bs [.int z] S = .fresh (.lst [.int a, .int b, .int 0]) S ∧ 0 ≤ b ∧ b < 2147483629 := by
  refine ⟨if z - 1000000000000000000 > 0 then z - 1000000000000000000 else 0, z % 2147483629, ?_, Int.emod_nonneg _ (by decide), Int.emod_lt_of_pos _ (by decide)⟩
  simp [runF, c__law_box, evSs, evS, evE, evEs, bindS, R.bind, EL.get, bfD, maxD, optR, binD, binI, mkF, exitV, isCont, res, resWs, hops, resW, List.take_of_length_le]

def PV (v : D) (k : Int) : Prop := ∃ a b c : Int, v = .lst [.int a, .int b, .int c] ∧ 0 ≤ b ∧ b < 2147483629 ∧ 0 ≤ c ∧ c ≤ k
theorem PV.mono {v : D} {k k' : Int} (h : PV v k) (l : k ≤ k') : PV v k' := by
  obtain ⟨a, b, c, h1, h2, h3, h4, h5⟩ := h
  exact ⟨a, b, c, h1, h2, h3, h4, by omega⟩
theorem PV.nc {v : D} {k : Int} (h : PV v k) : nc v = true := by
  obtain ⟨a, b, c, rfl, _⟩ := h
  rfl
theorem lt_at {S : Sto} {p : Nat} {v : D} (h : S[p]? = some v) : p < S.length := (List.getElem?_eq_some_iff.mp h).1
@[simp] theorem set_at {S : Sto} {p : Nat} {v : D} (h : p < S.length) : (S.set p v)[p]? = some v := List.getElem?_set_self h
@[simp] theorem set_app_at {S B : Sto} {p : Nat} {v : D} (h : p < S.length) : (S.set p v ++ B)[p]? = some v := by
  rw [List.getElem?_append_left (by simpa using h)]
  exact set_at h
@[simp] theorem set_app_set {S B : Sto} {p : Nat} {v w : D} (h : p < S.length) : (S.set p v ++ B).set p w = S.set p w ++ B := by
  rw [app_setp (by simpa using h), List.set_set]
theorem take_w {pg : Pg} {bs : Nat} {S : Sto} {p : Nat} {v : D} {k m : Int} (h : S[p]? = some v) (hv : PV v k) (hk : k < 1000000000) (hm : 0 < m) (hm2 : m < 1000000000000000000000000000000) :
    Ret (runF pg c__law_take bs [.cell p, .int m] S) fun d S' => ∃ z w, d = .int z ∧ 0 ≤ z ∧ z < m ∧ PV w (k + 1) ∧ S' = S.set p w := by
  obtain ⟨a, b, c, rfl, hb, hb2, hc, hc2⟩ := hv
  by_cases ha : 0 < a
  · rw [take_val h ha hm hm2]
    exact ⟨rfl, _, _, rfl, Int.emod_nonneg _ (by omega), Int.emod_lt_of_pos _ hm, ⟨_, _, _, rfl, hb, hb2, hc, by omega⟩, rfl⟩
  · obtain ⟨d, e⟩ := take_val2 (pg := pg) (bs := bs) h ha hm hb hb2 hc (by omega)
    rw [e]
    exact ⟨rfl, _, _, rfl, Int.emod_nonneg _ (by omega), Int.emod_lt_of_pos _ hm, ⟨_, _, _, rfl, hb, hb2, by omega, by omega⟩, rfl⟩
end EL

namespace EL
open PySem L2 PySem.Spec PyProof.Rows
abbrev RwK : PySem.W.OpenRow := PySem.W.OpenLaw.row PySem.Challenge.rw_enginedays_k33_under_way_and_busiest
def loose : List PySem.Str := (["_wall", "EngineError", "NoTime", "NoDays", "NoName", "Doubled", "NoPlace", "NoRoad", "NoRoads", "TooMany", "NoKinds", "NoTrain"] : List PySem.Str) ++ (["NoTrains", "Loose", "LETTERS", "is_whole", "is_name", "DAY_times", "LAST", "two_figures", "time_text", "minutes_until", "need_time", "under_way"] : List PySem.Str) ++ (["busiest", "MOST_PLACES", "MOST_ROADS", "LONGEST", "need_places", "is_road", "need_roads", "Roads", "MOST_KINDS", "LAST_TIME", "LONGEST_TRAIN", "are_unlike_names"] : List PySem.Str) ++ (["Train", "MOST_DAYS", "DAY_table", "MOST_TRAINS", "MOST_LOOSE", "Timetable", "_law_cell", "_law_box", "_law_take", "_law_names", "_law_long", "_law_roads"] : List PySem.Str) ++ (["_law_train", "_law_world", "_law_table", "_law_under_way", "_law_busiest", "_law_refused", "_law_times", "_law_right"] : List PySem.Str)
/-- addresses of what the program's top makes -/
def as : List Nat := [1, 3, 6, 4, 21, 31, 51, 70, 89, 108, 127, 146, 165, 184, 203, 222, 241, 260, 269, 274, 281, 288, 295, 302, 309, 314, 321, 328, 335, 420, 431, 504, 608, 619, 626, 633, 638, 645, 652, 659, 664, 671, 676, 681, 688, 695, 702, 709, 20, 30, 50, 69, 88, 107, 126, 145, 164, 183, 202, 221, 240, 259, 268, 273, 280, 287, 294, 301, 308, 313, 320, 327, 334, 419, 430, 503, 607, 618, 625, 632, 637, 644, 651, 658, 663, 670, 675, 680, 687, 694, 701, 708, 15, 16, 17, 18, 19, 29, 32, 48, 49, 67, 68, 86, 87, 105, 106, 124, 125, 143, 144, 162, 163, 181, 182, 200, 201, 219, 220, 238, 239, 257, 258, 263, 264, 265, 266, 267, 270, 271, 272, 275, 276, 277, 278, 279, 282, 283, 284, 285, 286, 289, 290, 291, 292, 293, 296, 297, 298, 299, 300, 303, 304, 305, 306, 307, 310, 311, 312, 315, 316, 317, 318, 319, 322, 323, 324, 325, 326, 329, 330, 331, 332, 333, 349, 356, 363, 370, 377, 384, 391, 396, 403, 410, 417, 418, 421, 422, 425, 426, 427, 428, 429, 445, 452, 459, 466, 473, 480, 487, 494, 501, 502, 505, 506, 522, 529, 536, 543, 550, 557, 562, 569, 574, 579, 584, 591, 598, 605, 606, 609, 610, 613, 614, 615, 616, 617, 620, 621, 622, 623, 624, 627, 628, 629, 630, 631, 634, 635, 636, 639, 640, 641, 642, 643, 646, 647, 648, 649, 650, 653, 654, 655, 656, 657, 660, 661, 662, 665, 666, 667, 668, 669, 672, 673, 674, 677, 678, 679, 682, 683, 684, 685, 686, 689, 690, 691, 692, 693, 696, 697, 698, 699, 700, 703, 704, 705, 706, 707, 47, 66, 85, 104, 123, 142, 161, 180, 199, 218, 237, 256, 348, 355, 362, 369, 376, 383, 390, 395, 402, 409, 416, 444, 451, 458, 465, 472, 479, 486, 493, 500, 521, 528, 535, 542, 549, 556, 561, 568, 573, 578, 583, 590, 597, 604, 42, 43, 44, 45, 46, 61, 62, 63, 64, 65, 80, 81, 82, 83, 84, 99, 100, 101, 102, 103, 118, 119, 120, 121, 122, 137, 138, 139, 140, 141, 156, 157, 158, 159, 160, 175, 176, 177, 178, 179, 194, 195, 196, 197, 198, 213, 214, 215, 216, 217, 232, 233, 234, 235, 236, 251, 252, 253, 254, 255, 343, 344, 345, 346, 347, 350, 351, 352, 353, 354, 357, 358, 359, 360, 361, 364, 365, 366, 367, 368, 371, 372, 373, 374, 375, 378, 379, 380, 381, 382, 385, 386, 387, 388, 389, 392, 393, 394, 397, 398, 399, 400, 401, 404, 405, 406, 407, 408, 411, 412, 413, 414, 415, 439, 440, 441, 442, 443, 446, 447, 448, 449, 450, 453, 454, 455, 456, 457, 460, 461, 462, 463, 464, 467, 468, 469, 470, 471, 474, 475, 476, 477, 478, 481, 482, 483, 484, 485, 488, 489, 490, 491, 492, 495, 496, 497, 498, 499, 516, 517, 518, 519, 520, 523, 524, 525, 526, 527, 530, 531, 532, 533, 534, 537, 538, 539, 540, 541, 544, 545, 546, 547, 548, 551, 552, 553, 554, 555, 558, 559, 560, 563, 564, 565, 566, 567, 570, 571, 572, 575, 576, 577, 580, 581, 582, 585, 586, 587, 588, 589, 592, 593, 594, 595, 596, 599, 600, 601, 602, 603]
set_option maxHeartbeats 0 in
theorem run (w : World) : HandSHeadRun.RunEq RwK (PySem.W.view RwK.prog [64]) (hkT tb fds as) (obT tb fds as) 20000 loose w := by
  intro os
  kernel_rfl
end EL
namespace EL
/-! ### names (a box's) -/
theorem lt_ix {z : Int} (h0 : 0 ≤ z) (h1 : z < 26) : ((ix 26 z).bind fun k => (([97, 98, 99, 100, 101, 102, 103, 104, 105, 106, 107, 108, 109, 110, 111, 112, 113, 114, 115, 116, 117, 118, 119, 120, 121, 122] : List Nat)[k]?).map fun c => D.str [c]) = some (.str [97 + z.toNat]) := by
  rw [ix_in h0 h1]
  have e : ([97, 98, 99, 100, 101, 102, 103, 104, 105, 106, 107, 108, 109, 110, 111, 112, 113, 114, 115, 116, 117, 118, 119, 120, 121, 122] : List Nat) = (List.range 26).map (97 + ·) := by decide
  have hz : z.toNat < 26 := by omega
  show ((_ : List Nat)[z.toNat]?).map _ = _
  rw [e, List.getElem?_map, List.getElem?_range hz]
  rfl
theorem range_nodup {β : Type} {m : Nat} {f : Nat → β} (h : ∀ i j, i < j → j < m → f i ≠ f j) : ((List.range m).map f).Nodup := by
  unfold List.Nodup
  rw [List.pairwise_map]
  refine (List.pairwise_lt_range (n := m)).imp_of_mem fun {a b} _ hb hab => h a b hab (List.mem_range.mp hb)
def wds : List (List Nat) := [[116, 114, 97, 105, 110], [116, 117, 114, 110], [112, 108, 97, 99, 101], [114, 111, 97, 100], [100, 97, 121, 115], [108, 105, 103, 104, 116], [115, 116, 97, 121], [110, 111, 110, 101], [111, 112, 101, 110], [112, 117, 116], [100, 114, 121], [97], [104, 111, 109, 101], [120]]
theorem wds_nm : ∀ x ∈ wds, Nm x := by
  unfold Nm
  decide
theorem wds_nodup : wds.Nodup := by decide
theorem rng_map (m : Nat) (g : D → D) (f : Nat → List Nat) (h : ∀ j, j < m → g (.int j) = .str (f j)) : (rng 0 m).map g = ((List.range m).map f).map .str := by
  unfold rng
  rw [List.map_map, List.map_map]
  refine List.map_congr_left fun j hj => ?_
  show g (.int (0 + j)) = _
  rw [Int.zero_add, h j (List.mem_range.mp hj)]
  rfl
/-- three ways of finding names -/
def stp (i : Nat) : Nat := [1, 3, 5, 7, 9, 11, 15, 25].getD i 1
def nm1 (x : List Nat) (a f s : Nat) (j : Nat) : List Nat := x.take a ++ [97 + (f + s * j) % 26] ++ x.drop a
def nm2 (f j : Nat) : List Nat := wds.getD ((f + 3 * j) % 14) []
def nm3 (x : List Nat) (f j : Nat) : List Nat := (x ++ [97 + f]).take (1 + (f + j) % 6)
theorem stp_inj : ∀ i, i < 8 → ∀ d, d < 26 → (stp i * d) % 26 = 0 → d = 0 := by decide
theorem nm1_ok {x : List Nat} {a f i m : Nat} (hi : i < 8) (hx : x.length ≤ 5) (hl : ∀ c ∈ x, 97 ≤ c ∧ c ≤ 122) (hm : m ≤ 26) : ((List.range m).map (nm1 x a f (stp i))).Nodup ∧ ∀ y ∈ (List.range m).map (nm1 x a f (stp i)), Nm y := by
  refine ⟨range_nodup fun u v huv hv e => ?_, fun y hy => ?_⟩
  · unfold nm1 at e
    have e2 := List.append_cancel_right e
    have e3 := List.append_cancel_left e2
    simp only [List.cons.injEq, and_true] at e3
    have h4 : (f + stp i * u) % 26 = (f + stp i * v) % 26 := by omega
    have h5 : stp i * v = stp i * u + stp i * (v - u) := by
      rw [← Nat.mul_add]
      congr 1
      omega
    have h6 : (stp i * (v - u)) % 26 = 0 := by
      rw [h5] at h4
      generalize stp i * u = a at *
      generalize stp i * (v - u) = b at *
      omega
    have := stp_inj i hi (v - u) (by omega) h6
    omega
  · obtain ⟨j, _, rfl⟩ := List.mem_map.mp hy
    unfold nm1
    have h1 := List.length_take_le a x
    have h2 : (x.take a).length + (x.drop a).length = x.length := by
      rw [← List.length_append, List.take_append_drop]
    refine ⟨by simp only [List.length_append, List.length_cons, List.length_nil]; omega, fun c hc => ?_⟩
    simp only [List.append_assoc, List.mem_append, List.mem_cons, List.not_mem_nil, or_false] at hc
    rcases hc with hc | hc | hc
    · exact hl c (List.mem_of_mem_take hc)
    · omega
    · exact hl c (List.mem_of_mem_drop hc)
theorem nm2_ok {f m : Nat} (hm : m ≤ 14) : ((List.range m).map (nm2 f)).Nodup ∧ ∀ y ∈ (List.range m).map (nm2 f), Nm y := by
  have at' : ∀ j, ∃ h : (f + 3 * j) % 14 < wds.length, nm2 f j = wds[(f + 3 * j) % 14] := fun j => by
    have h : (f + 3 * j) % 14 < wds.length := Nat.mod_lt _ (by decide)
    refine ⟨h, ?_⟩
    unfold nm2
    rw [List.getD_eq_getElem?_getD, List.getElem?_eq_getElem h]
    rfl
  refine ⟨range_nodup fun i j hij hj e => ?_, fun y hy => ?_⟩
  · obtain ⟨hi, ei⟩ := at' i
    obtain ⟨hj2, ej⟩ := at' j
    rw [ei, ej] at e
    have := (List.getElem_inj wds_nodup).mp e
    omega
  · obtain ⟨j, _, rfl⟩ := List.mem_map.mp hy
    obtain ⟨h, e⟩ := at' j
    rw [e]
    exact wds_nm _ (List.getElem_mem h)
theorem nm3_ok {x : List Nat} {f m : Nat} (hx : x.length = 5) (hl : ∀ c ∈ x, 97 ≤ c ∧ c ≤ 122) (hf : f < 26) (hm : m ≤ 6) : ((List.range m).map (nm3 x f)).Nodup ∧ ∀ y ∈ (List.range m).map (nm3 x f), Nm y := by
  have len : ∀ j, (nm3 x f j).length = 1 + (f + j) % 6 := fun j => by
    unfold nm3
    simp
    omega
  refine ⟨range_nodup fun i j hij hj e => ?_, fun y hy => ?_⟩
  · have := congrArg List.length e
    rw [len i, len j] at this
    omega
  · obtain ⟨j, hj, rfl⟩ := List.mem_map.mp hy
    refine ⟨by rw [len j]; omega, fun c hc => ?_⟩
    unfold nm3 at hc
    have hc := List.mem_of_mem_take hc
    rcases List.mem_append.mp hc with hc | hc
    · exact hl c hc
    · have := List.mem_singleton.mp hc
      omega
end EL

namespace EL
theorem comp1_w {bs p n : Nat} {S : Sto} {v : D} {k : Int} {l : Loc} (h : S[p]? = some v) (hv : PV v k) (hk : k + n < 1000000) (hn : n ≤ 1000) (h0 : l[0]? = some (some (.cell p))) (h2 : l[2]? = some (some (.str lts))) (hl : 7 < l.length) :
    wpR (compG (.v 7) l (evTs ⟨pgA 21, bs, []⟩ []) (evE ⟨pgA 21, bs, []⟩ (.idx (.var 2) (.call false 20 [(.var 0), (.int 26)]))) 1 [.int (n : Nat)] fuel 0 [] S) (fun acc S' => ∃ x w, acc = sgs x ∧ x.length = n ∧ (∀ c ∈ x, 97 ≤ c ∧ c ≤ 122) ∧ PV w (k + n) ∧ S' = S.set p w) fun _ _ _ => False := by
  have hp := lt_at h
  refine comp_wp (rng 0 n) (fun i acc S' => ∃ x w, acc = sgs x ∧ x.length = i ∧ (∀ c ∈ x, 97 ≤ c ∧ c ≤ 122) ∧ PV w (k + i) ∧ S' = S.set p w) (by rw [rng_len]; omega) (fun _ _ _ _ => it_rngN (by omega)) ?_ ?_ ?_
  · refine ⟨[], v, rfl, rfl, (fun c hc => by cases hc), hv.mono (by omega), ?_⟩
    apply List.ext_getElem?
    intro n
    by_cases hpn : p = n
    · subst hpn
      rw [set_at hp, h]
    · rw [List.getElem?_set_ne hpn]
  · rintro i y acc _ hy ⟨x, w, rfl, hx, hc, hw, rfl⟩
    obtain ⟨rfl, hi⟩ := rng_at hy
    have e0 : (l.set 7 (some (.int (0 + i))))[0]? = some (some (.cell p)) := by rw [List.getElem?_set_ne (by decide)]; exact h0
    have e2 : (l.set 7 (some (.int (0 + i))))[2]? = some (some (.str lts)) := by rw [List.getElem?_set_ne (by decide)]; exact h2
    rw [bT_v, wpL_some]
    generalize l.set 7 (some (D.int (0 + i))) = l2 at e0 e2
    simp [e0, e2]
    refine (take_w (set_at hp) hw (by omega) (by decide) (by decide)).call ?_
    rintro _ _ ⟨z, w, rfl, z0, z1, hw, rfl⟩
    have e : idxG (.str lts) (.int z) = some (.str [97 + z.toNat]) := by
      rw [idxG_s (by decide)]
      exact lt_ix z0 z1
    simp [e]
    refine ⟨by show _ < 100000; rw [sgs_len]; omega, x ++ [97 + z.toNat], by rw [← sgs_app]; rfl, by simp [hx], fun c hc2 => ?_, w, hw.mono (by omega), rfl⟩
    rcases List.mem_append.mp hc2 with hc2 | hc2
    · exact hc c hc2
    · rw [List.mem_singleton.mp hc2]
      omega
  · rintro acc _ ⟨x, w, rfl, hx, hc, hw, rfl⟩
    rw [rng_len] at hx hw
    exact ⟨x, w, rfl, hx, hc, hw, rfl⟩
theorem stp_ix {z : Int} (h0 : 0 ≤ z) (h1 : z < 8) : idxG (.lst [.int 1, .int 3, .int 5, .int 7, .int 9, .int 11, .int 15, .int 25]) (.int z) = some (.int (stp z.toNat : Nat)) := by
  obtain ⟨n, rfl⟩ := Int.eq_ofNat_of_zero_le h0
  have : n < 8 := by omega
  match n, this with
  | 0, _ => rfl
  | 1, _ => rfl
  | 2, _ => rfl
  | 3, _ => rfl
  | 4, _ => rfl
  | 5, _ => rfl
  | 6, _ => rfl
  | 7, _ => rfl
theorem names_w {bs p m : Nat} {S : Sto} {v : D} {k : Int} (h : S[p]? = some v) (hv : PV v k) (hk : k + 100 < 1000000) (hm : m ≤ 14) :
    Fre (runF (pgA 21) c__law_names bs [.cell p, .int (m : Nat)] S) fun d S' => ∃ xs : List (List Nat), d = .lst (xs.map .str) ∧ xs.length = m ∧ xs.Nodup ∧ (∀ x ∈ xs, Nm x) ∧ ∃ w, PV w (k + 40) ∧ S' = S.set p w := by
  have hp := lt_at h
  have fin : ∀ (xs : List (List Nat)) (T : Sto) (n : Nat), n ≤ T.length → exitV n false (.cell T.length) (T ++ [.lst (xs.map .str)]) = .fresh (.lst (xs.map .str)) (T.take n) := fun xs T n hn => by
    rw [exit_new (c := .lst (xs.map .str)) hn (by simp) rfl (ncs_str xs), List.take_append_of_le_length hn]
  unfold Fre
  rw [run_fin rfl]
  simp [c__law_names]
  refine (take_w h hv (by omega) (by decide) (by decide)).call ?_
  rintro _ _ ⟨way, w, rfl, y0, y1, hw, rfl⟩
  simp
  refine (take_w (set_at hp) hw (by omega) (by decide) (by decide)).call ?_
  rintro _ _ ⟨f, w, rfl, f0, f1, hw, rfl⟩
  simp
  refine (take_w (set_at hp) hw (by omega) (by decide) (by decide)).call ?_
  rintro _ _ ⟨s, w, rfl, s0, s1, hw, rfl⟩
  obtain ⟨f, rfl⟩ := Int.eq_ofNat_of_zero_le f0
  obtain ⟨s, rfl⟩ := Int.eq_ofNat_of_zero_le s0
  have hs := stp_ix s0 s1
  rw [Int.toNat_natCast] at hs
  simp [-idxG_l, hs]
  refine Br.mk (fun hq => ?_) fun hq => ?_
  · have ok := nm2_ok (f := f) hm
    simp
    rw [bin_catl (xs := (wds.take 12).map .str) (ys := (wds.drop 12).map .str) rfl rfl (by decide)]
    have e14 : (wds.take 12).map D.str ++ (wds.drop 12).map .str = wds.map .str := by rw [← List.map_append, List.take_append_drop]
    rw [e14]
    simp [x__law_names_1]
    rw [comp_map1 (rng 0 m) (fun d => match d with
      | .int j => .str (nm2 f j.toNat)
      | d => d) (by rw [rng_len]; omega) (fun i => it_rngN (by omega)) (fun d hd => ?_), rng_map m _ (nm2 f) (fun j _ => rfl)]
    · have hlen : ((List.range m).map (nm2 f)).length = m := by simp
      generalize (List.range m).map (nm2 f) = ys at ok hlen
      have := fin ys (S.set p w) S.length (by simp)
      simp at this
      simp [this]
      exact ⟨ys, rfl, hlen, ok.1, ok.2, w, hw.mono (by omega), rfl⟩
    · obtain ⟨j, hj, rfl⟩ := rng_mem hd
      have e1 : ((f : Int) + 3 * j) % 14 = ((f + 3 * j) % 14 : Nat) := by omega
      have h13 : (f + 3 * j) % 14 < 14 := by omega
      refine ⟨_, by simp; rfl, by simp, ?_⟩
      simp
      rw [e1, ix_in (by omega) (by simp [wds]; omega), Int.toNat_natCast]
      have : wds[(f + 3 * j) % 14]? = some (nm2 f j) := by
        unfold nm2
        rw [List.getD_eq_getElem?_getD, List.getElem?_eq_getElem (by simp [wds]; omega)]
        rfl
      simp only [Option.bind, this]
      rfl
  · have hc := comp1_w (bs := S.length) (n := 5) (l := [some (.cell p), some (.int m), some (.str lts), some (.int way), some (.int f), some (.int (stp s : Nat)), none, none, none, none]) (set_at hp (v := w)) hw (by omega) (by omega) rfl rfl (by simp)
    simp [x__law_names_2]
    refine wpR.go hc ?_
    rintro _ _ ⟨x, w, rfl, hx, hl, hw, rfl⟩
    have hx1 : x.length ≤ 100000 := by omega
    clear hc
    simp [join_sgs hx1]
    refine Br.mk (fun hq => ?_) fun hq => ?_
    · simp at hq
      have hm6 : m ≤ 6 := by omega
      have hf : f < 26 := by omega
      have ok := nm3_ok (m := m) (f := f) hx hl hf hm6
      have e : idxG (.str lts) (.int (f : Int)) = some (.str [97 + f]) := by
        rw [idxG_s (by decide)]
        have := lt_ix f0 f1
        rwa [Int.toNat_natCast] at this
      simp [x__law_names_3]
      rw [show ([97, 98, 99, 100, 101, 102, 103, 104, 105, 106, 107, 108, 109, 110, 111, 112, 113, 114, 115, 116, 117, 118, 119, 120, 121, 122] : List Nat) = lts from rfl]
      rw [comp_map1 (rng 0 m) (fun d => match d with
        | .int j => .str (nm3 x f j.toNat)
        | d => d) (by rw [rng_len]; omega) (fun i => it_rngN (by omega)) (fun d hd => ?_), rng_map m _ (nm3 x f) (fun j _ => rfl)]
      · have hlen : ((List.range m).map (nm3 x f)).length = m := by simp
        generalize (List.range m).map (nm3 x f) = ys at ok hlen
        have := fin ys (S.set p w) S.length (by simp)
        simp at this
        simp [this]
        exact ⟨ys, rfl, hlen, ok.1, ok.2, w, hw.mono (by omega), rfl⟩
      · obtain ⟨j, hj, rfl⟩ := rng_mem hd
        refine ⟨_, by simp; rfl, by simp, ?_⟩
        simp [e]
        rw [bin_cat (by simp; omega)]
        simp
        rw [slcG_s (by simp; omega), cut_to _ (by omega)]
        have : (1 + ((f : Int) + j) % 6).toNat = 1 + (f + j) % 6 := by omega
        rw [this]
        simp [nm3]
    · simp
      refine (take_w (set_at hp) hw (by omega) (by decide) (by decide)).call ?_
      rintro _ _ ⟨a, w, rfl, a0, a1, hw, rfl⟩
      simp
      refine (take_w (set_at hp) hw (by omega) (by decide) (by decide)).call ?_
      rintro _ _ ⟨b, w, rfl, b0, b1, hw, rfl⟩
      obtain ⟨a, rfl⟩ := Int.eq_ofNat_of_zero_le a0
      obtain ⟨b, rfl⟩ := Int.eq_ofNat_of_zero_le b0
      simp
      rw [slcG_s hx1, cut_to _ (by omega), Int.toNat_natCast]
      have hy : (x.take b).length ≤ 5 := by rw [List.length_take]; omega
      have hyl : ∀ c ∈ x.take b, 97 ≤ c ∧ c ≤ 122 := fun c hc => hl c (List.mem_of_mem_take hc)
      generalize x.take b = y at hy hyl
      have ok := nm1_ok (x := y) (a := a) (f := f) (i := s) (m := m) (by omega) hy hyl (by omega)
      simp [x__law_names_4]
      rw [show ([97, 98, 99, 100, 101, 102, 103, 104, 105, 106, 107, 108, 109, 110, 111, 112, 113, 114, 115, 116, 117, 118, 119, 120, 121, 122] : List Nat) = lts from rfl]
      have hst : stp s ≤ 25 := by
        have : s < 8 := by omega
        match s, this with
        | 0, _ => decide
        | 1, _ => decide
        | 2, _ => decide
        | 3, _ => decide
        | 4, _ => decide
        | 5, _ => decide
        | 6, _ => decide
        | 7, _ => decide
      generalize stp s = q at *
      rw [comp_map1 (rng 0 m) (fun d => match d with
        | .int j => .str (nm1 y a f q j.toNat)
        | d => d) (by rw [rng_len]; omega) (fun i => it_rngN (by omega)) (fun d hd => ?_), rng_map m _ (nm1 y a f q) (fun j _ => rfl)]
      · have hlen : ((List.range m).map (nm1 y a f q)).length = m := by simp
        generalize (List.range m).map (nm1 y a f q) = ys at ok hlen
        have := fin ys (S.set p w) S.length (by simp)
        simp at this
        simp [this]
        exact ⟨ys, rfl, hlen, ok.1, ok.2, w, hw.mono (by omega), rfl⟩
      · obtain ⟨j, hj, rfl⟩ := rng_mem hd
        have e1 : ((f : Int) + (q : Int) * (j : Int)) % 26 = ((f + q * j) % 26 : Nat) := by push_cast; rfl
        have mu : ∀ (b : Bool) (S : Sto), binD b .mul (.int (q : Int)) (.int (j : Int)) S = .ok (.int ((q : Int) * j)) S := fun b S => bin_mul (.inl (by omega))
        have e : idxG (.str lts) (.int (((f + q * j) % 26 : Nat) : Int)) = some (.str [97 + (f + q * j) % 26]) := by
          rw [idxG_s (by decide)]
          exact lt_ix (by omega) (by omega)
        have hy1 : y.length ≤ 100000 := by omega
        refine ⟨_, by simp; rfl, by simp, ?_⟩
        simp [slcG_s hy1, cut_to, cut_from, mu]
        rw [e1, e]
        simp
        rw [bin_cat (by simp; omega)]
        simp [slcG_s hy1, cut_from]
        rw [bin_cat (by simp; omega)]
        simp [nm1]
end EL

namespace EL
/-! ### what the program asks -/
theorem name_w {bs : Nat} {S : Sto} {x : List Nat} (hx : x.length ≤ 100000) : runF (pgA 1) c_is_name bs [.str x] S = .val (.bl (decide (Nm x))) S := by
  have e : Ret (runF (pgA 1) c_is_name bs [.str x] S) fun d S' => d = .bl (decide (Nm x)) ∧ S = S' := by
    unfold Ret
    rw [run_fin rfl]
    simp [c_is_name, lenG_str hx]
    refine Br.mk (fun hq => ?_) fun hq => ?_
    · have hn : ¬ Nm x := fun hn => by
        have := hn.1
        simp at hq
        omega
      simp [hn]
    · have h1 : 1 ≤ x.length ∧ x.length ≤ 6 := by
        simp at hq
        omega
      simp [x_is_name_1]
      rw [comp_map1 (sgs x) (fun d => match d with
        | .str [c] => .bl (decide (c ∈ lts))
        | d => d) (by rw [sgs_len]; exact hx) (fun i => it_str) (fun d hd => ?_)]
      · simp [sgs, Function.comp_def, all_map]
        have : (∀ c, c ∈ x → c ∈ lts) ↔ Nm x := ⟨fun h => ⟨h1, fun c hc => (lts_iff c).mp (h c hc)⟩, fun h c hc => (lts_iff c).mpr (h.2 c hc)⟩
        rw [Bool.eq_iff_iff]
        simpa using this
      · obtain ⟨c, _, rfl⟩ := List.mem_map.mp hd
        exact ⟨_, by simp; rfl, by simp, by simp [lts]⟩
  obtain ⟨d, S', e, rfl, rfl⟩ := e.eq
  exact e
theorem whole_w {pg : Pg} {bs : Nat} {S : Sto} {i lo hi : Int} : runF pg c_is_whole bs [.int i, .int lo, .int hi] S = .val (.bl (decide (lo ≤ i) && decide (i ≤ hi))) S := by
  rw [run_fin rfl]
  simp [c_is_whole]
/-- names that are a train's kinds -/
def Kds (ks : List (List Nat)) : Prop := (1 ≤ ks.length ∧ ks.length ≤ 3) ∧ ks.Nodup ∧ ∀ x ∈ ks, Nm x
theorem unlike_w {bs : Nat} {S : Sto} {x : D} {ks : List (List Nat)} (hk : Kds ks) (hx : EL.get S x = .lst (ks.map .str) ∨ EL.get S x = .tup (ks.map .str)) : runF (pgA 17) c_are_unlike_names bs [x, .int 1, .int 3] S = .val (.bl true) S := by
  have e : Ret (runF (pgA 17) c_are_unlike_names bs [x, .int 1, .int 3] S) fun d S' => d = .bl true ∧ S = S' := by
    unfold Ret
    rw [run_fin rfl]
    have h1 : (1 : Int) ≤ ks.length := by have := hk.1; omega
    have h3 : (ks.length : Int) ≤ 3 := by have := hk.1; omega
    have go : ∀ (how : (∀ i, itemD 3 [x] S i = some (enuL (ks.map .str))[i]?) ∧ ∀ i : Nat, ∃ y, slcG false (EL.get S x) none (some (i : Int)) S = .ok y S ∧ (EL.get S y = .lst ((ks.take i).map .str) ∨ EL.get S y = .tup ((ks.take i).map .str))),
        wpS (evS ⟨pgA 17, S.length, []⟩ s_are_unlike_names_1 [some x, some (.int 1), some (.int 3), none, none] S) ⟨fun l S' => S = S', fun _ _ => False, fun _ _ => False, fun _ _ => False, fun _ _ _ _ => False⟩ := by
      rintro ⟨hi, hs⟩
      simp [s_are_unlike_names_1]
      refine loop_wp (enuL (ks.map .str)) (fun i l S' => S = S' ∧ ∃ a b, l = [some x, some (.int 1), some (.int 3), a, b]) (by rw [enuL_len]; simp; omega) (fun i l S' q => by rw [← q.1]; exact hi i) ?_ (fun l S' q => q.1) ⟨rfl, _, _, rfl⟩
      rintro i y l _ hy ⟨rfl, a, b, rfl⟩
      obtain ⟨hlt, rfl⟩ := enuL_at hy
      have hlt : i < ks.length := by simpa using hlt
      obtain ⟨y, e1, e2⟩ := hs i
      have hn := hk.2.2 _ (List.getElem_mem hlt)
      have hni : ks[i] ∉ ks.take i := fun hm => by
        obtain ⟨j, hj, e⟩ := List.getElem_of_mem hm
        rw [List.getElem_take] at e
        have hj2 : j < i := by
          have := hj
          rw [List.length_take] at this
          omega
        have := (List.getElem_inj hk.2.1).mp e
        omega
      have hin : cmpD .in_ S (.str ks[i]) y = some false := by
        show inD S _ _ = _
        rw [in_strs e2, decide_eq_false hni]
      simp [name_w hn.short, hn, e1, hin]
    rcases hx with hx | hx
    · simp [c_are_unlike_names, hx, h1, h3, anyTy_cons]
      refine ws_go (go ⟨fun i => it_enuL hx, fun i => ⟨.lst ((ks.take i).map .str), by rw [hx, slcG_l, cut_to _ (by omega)]; simp [List.map_take], .inl rfl⟩⟩) ?_
      rintro l _ rfl
      simp
    · simp [c_are_unlike_names, hx, h1, h3, anyTy_cons]
      refine ws_go (go ⟨fun i => it_enuT hx, fun i => ⟨.tup ((ks.take i).map .str), by rw [hx, slcG_t, cut_to _ (by omega)]; simp [List.map_take], .inr rfl⟩⟩) ?_
      rintro l _ rfl
      simp
  obtain ⟨d, S', e, rfl, rfl⟩ := e.eq
  exact e
end EL

namespace EL
/-! ### a train -/
structure Tr where
  nm : List Nat
  ks : List (List Nat)
  st : List Nat
  lv : Int
  en : List Nat
  tk : Int
def Tr.ok (t : Tr) : Prop := Nm t.nm ∧ Kds t.ks ∧ Nm t.st ∧ (0 ≤ t.lv ∧ t.lv ≤ 10079) ∧ Nm t.en ∧ 1 ≤ t.tk ∧ t.tk ≤ 10080
def Tr.fs (t : Tr) : List D := [.str t.nm, .lst (t.ks.map .str), .str t.st, .int t.lv, .str t.en, .int t.tk]
def Tr.obj (t : Tr) : D := .obj 1 [(2, .str t.nm), (3, .lst (t.ks.map .str)), (4, .str t.st), (5, .int t.lv), (6, .str t.en), (7, .int t.tk)]
theorem Tr.obj_nc (t : Tr) : nc t.obj = true := by
  show (true && (ncs (t.ks.map .str) && true)) = true
  rw [ncs_str]; rfl
theorem Tr.fs_nc (t : Tr) : ncs t.fs = true := by
  show (true && (ncs (t.ks.map .str) && true)) = true
  rw [ncs_str]; rfl
theorem init_w {bs : Nat} {S : Sto} {t : Tr} {x : D} (ht : t.ok) (hx : ∀ B : Sto, EL.get (S ++ B) x = .lst (t.ks.map .str) ∨ EL.get (S ++ B) x = .tup (t.ks.map .str)) :
    runF (pgA 27) c_Train___init__ bs [.cell S.length, .str t.nm, x, .str t.st, .int t.lv, .str t.en, .int t.tk] (S ++ [.obj 1 []]) = .val .non (S ++ [t.obj]) := by
  obtain ⟨h1, h2, h3, h4, h5, h6, h7⟩ := ht
  have e : Ret (runF (pgA 27) c_Train___init__ bs [.cell S.length, .str t.nm, x, .str t.st, .int t.lv, .str t.en, .int t.tk] (S ++ [.obj 1 []])) fun d S' => d = .non ∧ S ++ [t.obj] = S' := by
    unfold Ret
    rw [run_fin rfl]
    have lst : ∀ B, listR false (EL.get (S ++ B) x) (S ++ B) = .ok (.lst (t.ks.map .str)) (S ++ B) := fun B => by
      rcases hx B with e | e <;> rw [e] <;> rfl
    simp [c_Train___init__, name_w h1.short, name_w h3.short, name_w h5.short, h1, h3, h5, unlike_w h2 (hx _), whole_w, h4, h6, h7]
    rw [fldS_obj (c := 1) (fs := []) (by simp) (may_nc rfl) (by simp)]
    simp [fput_cons, lst]
    rw [fldS_obj (c := 1) (fs := [(2, .str t.nm)]) (by simp) (may_nc (by exact ncs_str _)) (by simp)]
    simp [fput_cons]
    rw [fldS_obj (c := 1) (fs := [(2, .str t.nm), (3, .lst (t.ks.map .str))]) (by simp) (may_nc rfl) (by simp)]
    simp [fput_cons]
    rw [fldS_obj (c := 1) (fs := [(2, .str t.nm), (3, .lst (t.ks.map .str)), (4, .str t.st)]) (by simp) (may_nc rfl) (by simp)]
    simp [fput_cons]
    rw [fldS_obj (c := 1) (fs := [(2, .str t.nm), (3, .lst (t.ks.map .str)), (4, .str t.st), (5, .int t.lv)]) (by simp) (may_nc rfl) (by simp)]
    simp [fput_cons]
    rw [fldS_obj (c := 1) (fs := [(2, .str t.nm), (3, .lst (t.ks.map .str)), (4, .str t.st), (5, .int t.lv), (6, .str t.en)]) (by simp) (may_nc rfl) (by simp)]
    simp [fput_cons, Tr.obj, List.take_of_length_le]
  obtain ⟨d, S', e, rfl, rfl⟩ := e.eq
  exact e
theorem make_w {bs n : Nat} {S S' : Sto} {t : Tr} {x : D} (hS : S' = S ++ [.obj 1 []]) (hn : S.length = n) (ht : t.ok) (hx : ∀ B : Sto, EL.get (S ++ B) x = .lst (t.ks.map .str) ∨ EL.get (S ++ B) x = .tup (t.ks.map .str)) {Q : D → Sto → Prop} {X : Nat → Fds → Sto → Prop} (q : Q t.obj S) :
    wpR (madeE false n (runF (pgA 27) c_Train___init__ bs [.cell n, .str t.nm, x, .str t.st, .int t.lv, .str t.en, .int t.tk] S')) Q X := by
  subst hn hS
  rw [init_w ht hx]
  exact made_w (Y := fun _ _ _ => False) ⟨rfl, rfl, t.obj, rfl, rfl, t.obj_nc, q⟩ fun _ _ _ h => h.elim
/-! ### what a train tells -/
def two (n : Int) : List Nat := if n < 10 then [48] ++ dec n else dec n
def timeT (m : Int) : List Nat := dec (m / 1440) ++ [46] ++ two (m % 1440 / 60) ++ [46] ++ two (m % 60)
def Tr.row (t : Tr) : List Nat := joinT [32] ([[116, 114, 97, 105, 110], t.nm, joinT [43] t.ks, t.st, timeT t.lv] ++ [t.en, dec t.tk])
theorem two_w {pg : Pg} {bs : Nat} {S : Sto} {n : Int} (h : n.natAbs < 10000000000000000000000000000000000000000) : runF pg c_two_figures bs [.int n] S = .val (.str (two n)) S := by
  have hd := dec_len h
  have e : Ret (runF pg c_two_figures bs [.int n] S) fun d S' => d = .str (two n) ∧ S = S' := by
    unfold Ret
    rw [run_fin rfl]
    simp [c_two_figures, b_str_int h]
    refine Br.mk (fun hq => ?_) (fun hq => ?_)
    · simp at hq
      rw [bin_cat (by simp; omega)]
      simp [two, hq]
    · simp at hq
      have : ¬ n < 10 := by omega
      simp [two, this, b_str_int h]
  obtain ⟨d, S', e, rfl, rfl⟩ := e.eq
  exact e
theorem dec_small {i : Int} {n : Nat} (h : i.natAbs < 10 ^ n) (hn : 0 < n) : (dec i).length ≤ n + 1 := by
  have e := PySem.int_text_length_le10 (k := n) hn h
  unfold dec
  have e2 : (PySem.Str.ofString (toString i)).cps.toList.length = (PySem.Str.ofString (toString i)).length := Array.length_toList
  rw [e2, PySem.ofString_length]
  exact e
theorem two_len {n : Int} (h : n.natAbs < 10 ^ 4) : (two n).length ≤ 6 := by
  have := dec_small h (by decide)
  unfold two
  split <;> simp <;> omega
theorem timeT_len {m : Int} (h : 0 ≤ m) (h2 : m ≤ 10079) : (timeT m).length ≤ 25 := by
  have a := dec_small (i := m / 1440) (n := 4) (by omega) (by decide)
  have b := two_len (n := m % 1440 / 60) (by omega)
  have c := two_len (n := m % 60) (by omega)
  unfold timeT
  simp
  omega
theorem time_w {bs : Nat} {S : Sto} {m : Int} (h : 0 ≤ m) (h2 : m ≤ 10079) : runF (pgA 3) c_time_text bs [.int m] S = .val (.str (timeT m)) S := by
  have e : Ret (runF (pgA 3) c_time_text bs [.int m] S) fun d S' => d = .str (timeT m) ∧ S = S' := by
    have a := dec_small (i := m / 1440) (n := 4) (by omega) (by decide)
    have b := two_len (n := m % 1440 / 60) (by omega)
    have c := two_len (n := m % 60) (by omega)
    have e1 : ∀ {S : Sto} {bs : Nat}, runF (pgA 2) c_two_figures bs [.int (m % 1440 / 60)] S = .val (.str (two (m % 1440 / 60))) S := two_w (by omega)
    have e2 : ∀ {S : Sto} {bs : Nat}, runF (pgA 2) c_two_figures bs [.int (m % 60)] S = .val (.str (two (m % 60))) S := two_w (by omega)
    have e3 : ∀ {S : Sto} {b : Bool}, bfD b .str [.int (m / 1440)] S = .ok (.str (dec (m / 1440))) S := b_str_int (by omega)
    unfold Ret
    rw [run_fin rfl]
    simp [c_time_text, whole_w, h, h2, e3]
    rw [bin_cat (by simp; omega)]
    simp [e1]
    rw [bin_cat (by simp; omega)]
    simp
    rw [bin_cat (by simp; omega)]
    simp [e2]
    rw [bin_cat (by simp; omega)]
    simp [timeT]
  obtain ⟨d, S', e, rfl, rfl⟩ := e.eq
  exact e
end EL

namespace EL
theorem get_nm {bs : Nat} {S : Sto} {t : Tr} : runF (pgA 7) c_Train_name bs [t.obj] S = .val (.str t.nm) S := by
  rw [run_fin rfl]
  simp [c_Train_name, Tr.obj, fget_cons]
theorem get_ks {bs : Nat} {S : Sto} {t : Tr} : runF (pgA 33) c_Train_kinds bs [t.obj] S = .fresh (.lst (t.ks.map .str)) S := by
  rw [run_fin rfl]
  simp [c_Train_kinds, Tr.obj, fget_cons]
  rw [exit_new (c := .lst (t.ks.map .str)) (by simp) (by simp) rfl (ncs_str _)]
  simp
theorem get_st {bs : Nat} {S : Sto} {t : Tr} : runF (pgA 29) c_Train_start bs [t.obj] S = .val (.str t.st) S := by
  rw [run_fin rfl]
  simp [c_Train_start, Tr.obj, fget_cons]
theorem get_lv {bs : Nat} {S : Sto} {t : Tr} : runF (pgA 8) c_Train_leave bs [t.obj] S = .val (.int t.lv) S := by
  rw [run_fin rfl]
  simp [c_Train_leave, Tr.obj, fget_cons]
theorem get_en {bs : Nat} {S : Sto} {t : Tr} : runF (pgA 30) c_Train_end bs [t.obj] S = .val (.str t.en) S := by
  rw [run_fin rfl]
  simp [c_Train_end, Tr.obj, fget_cons]
theorem get_tk {bs : Nat} {S : Sto} {t : Tr} : runF (pgA 9) c_Train_takes bs [t.obj] S = .val (.int t.tk) S := by
  rw [run_fin rfl]
  simp [c_Train_takes, Tr.obj, fget_cons]
/-! ### rows -/
theorem Kds.lenT {ks : List (List Nat)} (h : Kds ks) : EL.lenT 1 ks ≤ 21 := by
  have a := lenT_le (n := 1) (m := 6) fun x hx => (h.2.2 x hx).1.2
  have := h.1
  omega
theorem Tr.row_lenT {t : Tr} (h : t.ok) : lenT 1 ([[116, 114, 97, 105, 110], t.nm, joinT [43] t.ks, t.st, timeT t.lv] ++ [t.en, dec t.tk]) ≤ 200 := by
  obtain ⟨h1, h2, h3, h4, h5, h6⟩ := h
  have a := h1.1
  have b := Nat.le_trans (joinT_len [43] t.ks) h2.lenT
  have c := h3.1
  have d := timeT_len h4.1 h4.2
  have e := h5.1
  have f := dec_small (i := t.tk) (n := 5) (by omega) (by decide)
  show 5 + 1 + (t.nm.length + 1 + ((joinT [43] t.ks).length + 1 + (t.st.length + 1 + ((timeT t.lv).length + 1 + (t.en.length + 1 + ((dec t.tk).length + 1 + 0)))))) ≤ 200
  omega
theorem row_join {S : Sto} {t : Tr} (ht : t.ok) : joinR [32] (.lst [.str [116, 114, 97, 105, 110], .str t.nm, .str (joinT [43] t.ks), .str t.st, .str (timeT t.lv), .str t.en, .str (dec t.tk)]) S = .ok (.str t.row) S :=
  join_l rfl (by have := Tr.row_lenT ht; simp only [List.length_cons, List.length_nil]; exact Nat.le_trans this (by decide))
theorem trow_w {bs : Nat} {S : Sto} {t : Tr} (ht : t.ok) : runF (pgA 43) c_Train_row bs [t.obj] S = .val (.str t.row) S := by
  have hr := Tr.row_lenT ht
  have hk := ht.2.1.lenT
  have hv := ht.2.2.2.1
  have hd : t.tk.natAbs < 10000000000000000000000000000000000000000 := by have := ht.2.2.2.2.2; omega
  rw [run_fin rfl]
  simp [c_Train_row, Tr.obj, fget_cons, joinR_strs (show EL.lenT ([43] : List Nat).length t.ks ≤ 100000 by simp; omega), time_w hv.1 hv.2, b_str_int hd]
  rw [bin_catl rfl rfl (by simp)]
  simp [row_join ht]
theorem str_ix {xs : List (List Nat)} {i : Int} (h0 : 0 ≤ i) (h1 : i < xs.length) : idxG (.lst (xs.map .str)) (.int i) = some (.str (xs[i.toNat]'(by omega))) := by
  rw [idxG_lst h0 (by simpa using h1)]
  simp
end EL

namespace EL
theorem PV.k {v : D} {k k' : Int} (h : PV v k) (e : k ≤ k') : PV v k' := h.mono e
/-! ### the world: days, places, roads, trains -/
abbrev Rdt := List Nat × List Nat × Int
def rdD (r : Rdt) : D := .tup [.str r.1, .str r.2.1, .int r.2.2]
def Tr.tup (t : Tr) : D := .tup t.fs
structure Wd where
  days : Int
  ps : List (List Nat)
  rs : List Rdt
  ts : List Tr
def RdOk (ps : List (List Nat)) (r : Rdt) : Prop := r.1 ∈ ps ∧ r.2.1 ∈ ps ∧ r.1 ≠ r.2.1 ∧ 1 ≤ r.2.2 ∧ r.2.2 ≤ 600
def TrOk (days : Int) (ps : List (List Nat)) (t : Tr) : Prop := t.ok ∧ t.st ∈ ps ∧ t.en ∈ ps ∧ t.lv < 1440 * days ∧ t.tk ≤ 1440 * days
def PsOk (ps : List (List Nat)) : Prop := 1 ≤ ps.length ∧ ps.length ≤ 6 ∧ ps.Nodup ∧ ∀ x ∈ ps, Nm x
def Wd.ok (W : Wd) : Prop := 1 ≤ W.days ∧ W.days ≤ 7 ∧ PsOk W.ps ∧ (W.rs.length ≤ 10 ∧ ∀ r ∈ W.rs, RdOk W.ps r) ∧ W.ts.length ≤ 12 ∧ (W.ts.map Tr.nm).Nodup ∧ ∀ t ∈ W.ts, TrOk W.days W.ps t
theorem long_w {bs p : Nat} {S : Sto} {v : D} {k : Int} (h : S[p]? = some v) (hv : PV v k) (hk : k + 10 < 1000000) :
    Ret (runF (pgA 22) c__law_long bs [.cell p] S) fun d S' => ∃ z, d = .int z ∧ 1 ≤ z ∧ z ≤ 600 ∧ ∃ w, PV w (k + 3) ∧ S' = S.set p w := by
  have hp := lt_at h
  unfold Ret
  rw [run_fin rfl]
  simp [c__law_long]
  refine (take_w h hv (by omega) (by decide) (by decide)).call ?_
  rintro _ _ ⟨y, w, rfl, y0, y1, hw, rfl⟩
  simp
  refine (take_w (set_at hp) hw (by omega) (by decide) (by decide)).call ?_
  rintro _ _ ⟨a, w, rfl, a0, a1, hw, rfl⟩
  simp
  refine (take_w (set_at hp) hw (by omega) (by decide) (by decide)).call ?_
  rintro _ _ ⟨b, w, rfl, b0, b1, hw, rfl⟩
  obtain ⟨z, z1, z2, e⟩ : ∃ z, 1 ≤ z ∧ z ≤ 600 ∧ idxG (.lst [.int 1, .int 600, .int (1 + a), .int (1 + b)]) (.int y) = some (.int z) := by
    obtain rfl | rfl | rfl | rfl : y = 0 ∨ y = 1 ∨ y = 2 ∨ y = 3 := by omega
    · exact ⟨1, by omega, by omega, rfl⟩
    · exact ⟨600, by omega, by omega, rfl⟩
    · exact ⟨1 + a, by omega, by omega, rfl⟩
    · exact ⟨1 + b, by omega, by omega, rfl⟩
  simp [-idxG_l, e]
  exact ⟨z1, z2, w, hw.mono (by omega), rfl⟩
end EL

namespace EL
theorem rds_nc (rs : List Rdt) : ncs (rs.map rdD) = true := ncs_all.mpr fun d hd => by
  obtain ⟨r, _, rfl⟩ := List.mem_map.mp hd
  rfl
theorem ps_at {ps : List (List Nat)} {z : Int} (z0 : 0 ≤ z) (z1 : z < ps.length) : ∃ (q : Nat) (h : q < ps.length), (q : Int) = z ∧ idxG (.lst (ps.map .str)) (.int z) = some (.str ps[q]) := ⟨z.toNat, by omega, by omega, by rw [idxG_lst z0 (by simpa using z1)]; simp⟩
theorem roads_w {bs p : Nat} {S : Sto} {v : D} {k : Int} {ps : List (List Nat)} (hbs : bs ≤ S.length) (h : S[p]? = some v) (hv : PV v k) (hk : k + 200 < 1000000) (hps : PsOk ps) :
    Fre (runF (pgA 23) c__law_roads bs [.cell p, .lst (ps.map .str)] S) fun d S' => ∃ rs : List Rdt, d = .lst (rs.map rdD) ∧ rs.length ≤ 10 ∧ (∀ r ∈ rs, RdOk ps r) ∧ ∃ w, PV w (k + 120) ∧ S' = S.set p w := by
  have hp := lt_at h
  have h6 := hps.2.1
  have hself : S = S.set p v := by
    apply List.ext_getElem?
    intro n
    by_cases hpn : p = n
    · subst hpn
      rw [set_at hp, h]
    · rw [List.getElem?_set_ne hpn]
  have eN : ((ps.length : Int) - 1).toNat = ps.length - 1 := by omega
  unfold Fre
  rw [run_fin rfl]
  simp [c__law_roads]
  refine ws_go (I := fun l S' => ∃ (a : Option D) (w : D) (rs : List Rdt), l = [some (.cell p), some (.lst (ps.map .str)), some (.cell S.length), a, none, none] ∧ rs.length ≤ 5 ∧ (∀ r ∈ rs, RdOk ps r) ∧ PV w (k + 50) ∧ S' = S.set p w ++ [.lst (rs.map rdD)]) ?_ ?_
  · simp [s__law_roads_1]
    refine loop_wp (rng 1 (ps.length - 1)) (fun i l S' => ∃ (a : Option D) (w : D) (rs : List Rdt), l = [some (.cell p), some (.lst (ps.map .str)), some (.cell S.length), a, none, none] ∧ rs.length ≤ i ∧ (∀ r ∈ rs, RdOk ps r) ∧ PV w (k + 10 * i) ∧ S' = S.set p w ++ [.lst (rs.map rdD)]) (by rw [rng_len]; omega) (fun i l S' q => by rw [it_rng2 (by omega), eN]) ?_ ?_ ⟨_, v, [], rfl, by simp, (fun r hr => by cases hr), hv.mono (by omega), by rw [← hself]; rfl⟩
    · rintro i x l _ hx ⟨a, w, rs, rfl, hl, hr, hw, rfl⟩
      obtain ⟨rfl, hi⟩ := rng_at hx
      simp
      refine (take_w (set_app_at hp) hw (by omega) (by decide) (by decide)).call ?_
      rintro _ _ ⟨y, w, rfl, y0, y1, hw, rfl⟩
      simp [-idxG_l, hp]
      refine Br.mk (fun hq => ?_) fun hq => ?_
      · obtain ⟨q1, g1, e1, f1⟩ := ps_at (ps := ps) (z := 1 + i) (by omega) (by omega)
        simp [-idxG_l, f1]
        refine (take_w (m := 1 + (i : Int)) (set_app_at hp) hw (by omega) (by omega) (by omega)).call ?_
        rintro _ _ ⟨z, w, rfl, z0, z1, hw, rfl⟩
        obtain ⟨q2, g2, e2, f2⟩ := ps_at (ps := ps) (z := z) z0 (by omega)
        simp [-idxG_l, f2, hp]
        refine (long_w (set_app_at hp) hw (by omega)).call ?_
        rintro _ _ ⟨u, rfl, u0, u1, w, hw, rfl⟩
        simp [-idxG_l, hp]
        rw [app_lst (xs := rs.map rdD)]
        rotate_left
        · simp
        · simp; omega
        · exact may_nc rfl
        simp
        have hne : ps[q1] ≠ ps[q2] := fun e => by
          have := (List.getElem_inj hps.2.2.1).mp e
          omega
        refine ⟨w, rs ++ [(ps[q1], ps[q2], u)], by simp; omega, fun x y z hr2 => ?_, hw.mono (by omega), by simp [rdD]⟩
        rcases List.mem_append.mp hr2 with hr2 | hr2
        · exact hr _ hr2
        · rw [List.mem_singleton.mp hr2]
          exact ⟨List.getElem_mem _, List.getElem_mem _, hne, u0, u1⟩
      · simp
        exact ⟨w, rs, by omega, fun x y z h => hr _ h, hw.mono (by omega), rfl, rfl⟩
    · rintro l _ ⟨a, w, rs, rfl, hl, hr, hw, rfl⟩
      rw [rng_len] at hl hw
      exact ⟨a, w, rs, rfl, by omega, hr, hw.mono (by omega), rfl⟩
  · rintro l _ ⟨a, w, rs, rfl, hl, hr, hw, rfl⟩
    simp [s__law_roads_2]
    refine (take_w (set_app_at hp) hw (by omega) (by decide) (by decide)).call ?_
    rintro _ _ ⟨z, w, rfl, z0, z1, hw, rfl⟩
    simp [hp]
    obtain ⟨n, hn1, hn2, hn3⟩ : ∃ n : Nat, n ≤ 5 ∧ (n = 0 ∨ 2 ≤ ps.length) ∧ z * (if (1 : Int) < ps.length then (1 : Int) else 0) = n := by
      by_cases h1 : (1 : Int) < ps.length
      · exact ⟨z.toNat, by omega, .inr (by omega), by rw [if_pos h1]; omega⟩
      · exact ⟨0, by omega, .inl rfl, by rw [if_neg h1]; simp⟩
    have hmul : ∀ S : Sto, binD false .mul (.int z) (.int (if (1 : Int) < ps.length then (1 : Int) else 0)) S = .ok (.int (z * (if (1 : Int) < ps.length then (1 : Int) else 0))) S := fun S => bin_mul (.inl (by omega))
    rw [hmul, hn3]
    simp
    refine loop_wp (rng 0 n) (fun i l S' => ∃ (a b c : Option D) (w : D) (rs : List Rdt), l = [some (.cell p), some (.lst (ps.map .str)), some (.cell S.length), a, b, c] ∧ rs.length ≤ 5 + i ∧ (∀ r ∈ rs, RdOk ps r) ∧ PV w (k + 51 + 10 * i) ∧ S' = S.set p w ++ [.lst (rs.map rdD)]) (by rw [rng_len]; omega) (fun i l S' q => it_rngN (by omega)) ?_ ?_ ⟨_, _, _, w, rs, rfl, by omega, hr, hw.mono (by omega), rfl⟩
    · rintro i x l _ hx ⟨a, b, c, w, rs, rfl, hl, hr, hw, rfl⟩
      obtain ⟨rfl, hi⟩ := rng_at hx
      have h2 : 2 ≤ ps.length := hn2.resolve_left (by omega)
      simp
      refine (take_w (set_app_at hp) hw (by omega) (by omega) (by omega)).call ?_
      rintro _ _ ⟨y, w, rfl, y0, y1, hw, rfl⟩
      simp [hp]
      refine (take_w (set_app_at hp) hw (by omega) (by omega) (by omega)).call ?_
      rintro _ _ ⟨z, w, rfl, z0, z1, hw, rfl⟩
      simp [hp]
      have hlen : (0 : Int) < ps.length := by omega
      rw [bin_mod hlen]
      have m0 : 0 ≤ (y + 1 + z) % ps.length := Int.emod_nonneg _ (by omega)
      have m1 : (y + 1 + z) % ps.length < ps.length := Int.emod_lt_of_pos _ hlen
      obtain ⟨q1, g1, e1, f1⟩ := ps_at y0 y1
      obtain ⟨q2, g2, e2, f2⟩ := ps_at m0 m1
      simp [-idxG_l, f1, f2]
      refine (long_w (set_app_at hp) hw (by omega)).call ?_
      rintro _ _ ⟨u, rfl, u0, u1, w, hw, rfl⟩
      simp [-idxG_l, hp]
      rw [app_lst (xs := rs.map rdD)]
      rotate_left
      · simp
      · simp; omega
      · exact may_nc rfl
      simp
      have hne : ps[q1] ≠ ps[q2] := fun e => by
        have := (List.getElem_inj hps.2.2.1).mp e
        have e3 : (y + 1 + z) % ps.length = y := by omega
        have e4 : (1 + z) % ps.length = 0 := by
          have : (y + 1 + z) % ps.length = (y + (1 + z)) % ps.length := by congr 1; omega
          have e5 : y % ps.length = y := Int.emod_eq_of_lt y0 y1
          have e6 : ((y + 1 + z) - y) % ps.length = 0 := by
            rw [Int.sub_emod, e3, e5]
            simp
          have : y + 1 + z - y = 1 + z := by omega
          rwa [this] at e6
        rw [Int.emod_eq_of_lt (by omega) (by omega)] at e4
        omega
      refine ⟨w, rs ++ [(ps[q1], ps[q2], u)], by simp; omega, fun x y z hr2 => ?_, hw.mono (by omega), by simp [rdD]⟩
      rcases List.mem_append.mp hr2 with hr2 | hr2
      · exact hr _ hr2
      · rw [List.mem_singleton.mp hr2]
        exact ⟨List.getElem_mem _, List.getElem_mem _, hne, u0, u1⟩
    · rintro l _ ⟨a, b, c, w, rs, rfl, hl, hr, hw, rfl⟩
      rw [rng_len] at hl hw
      simp
      rw [exit_new (c := .lst (rs.map rdD)) (by simp) (by simp) rfl (rds_nc rs)]
      simp
      exact ⟨rs, rfl, by omega, fun x y z h => hr _ h, w, hw.mono (by omega), rfl⟩
end EL

namespace EL
theorem train_w {bs p : Nat} {S : Sto} {v : D} {k days : Int} {nm : List Nat} {ps kn : List (List Nat)} (hbs : bs ≤ S.length) (h : S[p]? = some v) (hv : PV v k) (hk : k + 200 < 1000000) (hnm : Nm nm) (hd : 1 ≤ days) (hd7 : days ≤ 7) (hps : PsOk ps) (hkl : kn.length = 3) (hkn : ∀ x ∈ kn, Nm x) :
    Ret (runF (pgA 24) c__law_train bs [.cell p, .str nm, .int (1440 * days), .lst (ps.map .str), .lst (kn.map .str)] S) fun d S' => ∃ t : Tr, TrOk days ps t ∧ t.nm = nm ∧ t.ks.length = 1 ∧ d = t.tup ∧ ∃ w, PV w (k + 20) ∧ S' = S.set p w := by
  have hp := lt_at h
  have h6 := hps.2.1
  have h1 := hps.1
  unfold Ret
  rw [run_fin rfl]
  simp [-idxG_l, c__law_train]
  refine (take_w h hv (by omega) (by decide) (by decide)).call ?_
  rintro _ _ ⟨y, w, rfl, y0, y1, hw, rfl⟩
  obtain ⟨c, c0, c1, ec⟩ : ∃ c : Int, 0 ≤ c ∧ c < 3 ∧ idxG (.lst [.int 0, .int 0, .int 0, .int 1, .int 2]) (.int y) = some (.int c) := by
    obtain rfl | rfl | rfl | rfl | rfl : y = 0 ∨ y = 1 ∨ y = 2 ∨ y = 3 ∨ y = 4 := by omega
    · exact ⟨0, by omega, by omega, rfl⟩
    · exact ⟨0, by omega, by omega, rfl⟩
    · exact ⟨0, by omega, by omega, rfl⟩
    · exact ⟨1, by omega, by omega, rfl⟩
    · exact ⟨2, by omega, by omega, rfl⟩
  obtain ⟨q, gq, eq, fq⟩ := ps_at (ps := kn) (z := c) c0 (by omega)
  simp [-idxG_l, ec, fq]
  refine (take_w (m := 1440 * days) (set_at hp) hw (by omega) (by omega) (by omega)).call ?_
  rintro _ _ ⟨a, w, rfl, a0, a1, hw, rfl⟩
  simp [-idxG_l]
  refine (take_w (set_at hp) hw (by omega) (by decide) (by decide)).call ?_
  rintro _ _ ⟨b, w, rfl, b0, b1, hw, rfl⟩
  simp [-idxG_l]
  refine (take_w (set_at hp) hw (by omega) (by decide) (by decide)).call ?_
  rintro _ _ ⟨y, w, rfl, y0, y1, hw, rfl⟩
  obtain ⟨tk, t0, t1, et⟩ : ∃ c : Int, 1 ≤ c ∧ c ≤ 1440 * days ∧ idxG (.lst [.int 1, .int (1440 * days), .int (1 + a), .int (1 + b)]) (.int y) = some (.int c) := by
    obtain rfl | rfl | rfl | rfl : y = 0 ∨ y = 1 ∨ y = 2 ∨ y = 3 := by omega
    · exact ⟨1, by omega, by omega, rfl⟩
    · exact ⟨_, by omega, by omega, rfl⟩
    · exact ⟨_, by omega, by omega, rfl⟩
    · exact ⟨_, by omega, by omega, rfl⟩
  simp [-idxG_l, et]
  refine (take_w (m := 1440 * days) (set_at hp) hw (by omega) (by omega) (by omega)).call ?_
  rintro _ _ ⟨a, w, rfl, a0, a1, hw, rfl⟩
  simp [-idxG_l]
  refine (take_w (set_at hp) hw (by omega) (by decide) (by decide)).call ?_
  rintro _ _ ⟨b, w, rfl, b0, b1, hw, rfl⟩
  have mu : ∀ (x : Bool) (S : Sto), binD x .mul (.int b) (.int 60) S = .ok (.int (b * 60)) S := fun x S => bin_mul (.inr (by decide))
  simp [-idxG_l, mu]
  refine (take_w (set_at hp) hw (by omega) (by decide) (by decide)).call ?_
  rintro _ _ ⟨y, w, rfl, y0, y1, hw, rfl⟩
  obtain ⟨lv, l0, l1, el⟩ : ∃ c : Int, 0 ≤ c ∧ c < 1440 * days ∧ idxG (.lst [.int 0, .int (1440 * days - 1), .int a, .int (b * 60)]) (.int y) = some (.int c) := by
    obtain rfl | rfl | rfl | rfl : y = 0 ∨ y = 1 ∨ y = 2 ∨ y = 3 := by omega
    · exact ⟨0, by omega, by omega, rfl⟩
    · exact ⟨_, by omega, by omega, rfl⟩
    · exact ⟨_, by omega, by omega, rfl⟩
    · exact ⟨_, by omega, by omega, rfl⟩
  simp [-idxG_l, el]
  refine (take_w (set_at hp) hw (by omega) (by omega) (by omega)).call ?_
  rintro _ _ ⟨y, w, rfl, y0, y1, hw, rfl⟩
  obtain ⟨q1, g1, e1, f1⟩ := ps_at (ps := ps) (z := y) y0 (by simpa using y1)
  simp [-idxG_l, f1]
  refine (take_w (set_at hp) hw (by omega) (by omega) (by omega)).call ?_
  rintro _ _ ⟨y, w, rfl, y0, y1, hw, rfl⟩
  obtain ⟨q2, g2, e2, f2⟩ := ps_at (ps := ps) (z := y) y0 (by simpa using y1)
  simp [-idxG_l, f2]
  rw [exit_nc rfl]
  simp [-idxG_l]
  refine ⟨⟨nm, [kn[q]], ps[q1], lv, ps[q2], tk⟩, ⟨⟨hnm, ⟨by simp, by simp, fun x hx => ?_⟩, hps.2.2.2 _ (List.getElem_mem _), ⟨l0, by show lv ≤ 10079; omega⟩, hps.2.2.2 _ (List.getElem_mem _), t0, by show tk ≤ 10080; omega⟩, List.getElem_mem _, List.getElem_mem _, l1, t1⟩, rfl, rfl, rfl, w, hw.mono (by omega), rfl⟩
  rw [List.mem_singleton.mp hx]
  exact hkn _ (List.getElem_mem _)
end EL

namespace EL
def lsOf (ts : List Tr) : List Tr := ts.filter fun t => decide (1 < t.ks.length)
def Wd.few (W : Wd) : Prop := (lsOf W.ts).length ≤ 2
theorem ls_set (t : Tr) : ∀ (ts : List Tr) (j : Nat), (lsOf (ts.set j t)).length ≤ (lsOf ts).length + 1
  | [], _ => by simp [lsOf]
  | x :: r, 0 => by
    show (lsOf (t :: r)).length ≤ _
    unfold lsOf
    rw [List.filter_cons, List.filter_cons]
    split <;> split <;> simp <;> omega
  | x :: r, j + 1 => by
    have ih := ls_set t r j
    show (lsOf (x :: r.set j t)).length ≤ _
    unfold lsOf at *
    rw [List.filter_cons, List.filter_cons]
    split
    · simp only [List.length_cons]; omega
    · exact ih
theorem tups_nc (ts : List Tr) : ncs (ts.map Tr.tup) = true := ncs_all.mpr fun d hd => by
  obtain ⟨t, _, rfl⟩ := List.mem_map.mp hd
  exact t.fs_nc
/-- a world as a dict -/
def WD (days : Int) (ps : List (List Nat)) (rs : List Rdt) (kn : List (List Nat)) (x : D) : D := .dK [(.s [100, 97, 121, 115], .int days), (.s [112, 108, 97, 99, 101, 115], .lst (ps.map .str)), (.s [114, 111, 97, 100, 115], .lst (rs.map rdD)), (.s [107, 105, 110, 100, 115], .lst (kn.map .str)), (.s [116, 114, 97, 105, 110, 115], x)]
def Wd.d (W : Wd) (kn : List (List Nat)) : D := WD W.days W.ps W.rs kn (.lst (W.ts.map Tr.tup))
theorem Wd.nc (W : Wd) (kn : List (List Nat)) : EL.nc (W.d kn) = true := by
  show (true && (ncs (W.ps.map .str) && (ncs (W.rs.map rdD) && (ncs (kn.map .str) && (ncs (W.ts.map Tr.tup) && true))))) = true
  rw [ncs_str, rds_nc, ncs_str, tups_nc]
  rfl
theorem exit_world {S : Sto} {p : Nat} {w : D} {dy : Int} {ps kn : List (List Nat)} {rs : List Rdt} {ts : List Tr} : exitV S.length false (.cell (S.length + 1)) (S.set p w ++ [.lst (ts.map Tr.tup), WD dy ps rs kn (.cell S.length)]) = .fresh (Wd.d ⟨dy, ps, rs, ts⟩ kn) (S.set p w) := by
  unfold exitV
  rw [if_neg (by decide)]
  dsimp only
  rw [if_neg (by omega)]
  have e0 : (S.set p w ++ [D.lst (ts.map Tr.tup), WD dy ps rs kn (.cell S.length)])[S.length + 1]? = some (WD dy ps rs kn (.cell S.length)) := by simp
  rw [e0]
  dsimp only
  rw [if_pos (show isCont _ = true from rfl)]
  have e1 : ((S.set p w ++ [D.lst (ts.map Tr.tup), WD dy ps rs kn (.cell S.length)]).set (S.length + 1) .non)[S.length]? = some (.lst (ts.map Tr.tup)) := by
    rw [List.getElem?_set_ne (by omega)]
    simp
  have e3 : ∀ T : Sto, T[S.length]? = some (.lst (ts.map Tr.tup)) → res S.length T hops (WD dy ps rs kn (.cell S.length)) = some (Wd.d ⟨dy, ps, rs, ts⟩ kn) := fun T h1 => by
    unfold hops WD
    simp only [res, resW, resWK]
    rw [resWs_nc _ _ _ (ncs_str ps), resWs_nc _ _ _ (rds_nc rs), resWs_nc _ _ _ (ncs_str kn), if_neg (by omega), h1]
    dsimp only
    rw [if_pos (show isCont _ = true from rfl)]
    simp only [res, resW]
    rw [resWs_nc _ _ _ (tups_nc ts)]
    rfl
  rw [e3 _ e1]
  simp
theorem ne_nil_t {S : Sto} {n : Nat} {ts : List Tr} (h : S[n]? = some (.lst (ts.map Tr.tup))) : cmpD .ne S (.cell n) (.lst []) = some (!decide (ts = [])) := by
  have e : cmpD .ne S (.cell n) (.lst []) = (eqD S (.cell n) (.lst [])).map (!·) := by unfold cmpD; rfl
  rw [e]
  have hg := get_at h
  cases ts with
  | nil =>
    have : eqD S (.cell n) (.lst []) = some true := by
      unfold eqD
      dsimp only
      rw [hg]
      simp only [toP, toPW, h]
      rfl
    rw [this]
    rfl
  | cons t r =>
    have : eqD S (.cell n) (.lst []) = some false := by
      unfold eqD
      dsimp only
      rw [hg]
      rfl
    rw [this]
    rfl
end EL

namespace EL
theorem dic_world {dy : Int} {a b c x : D} {S : Sto} : dicD true (pairD [.str [100, 97, 121, 115], .int dy, .str [112, 108, 97, 99, 101, 115], a, .str [114, 111, 97, 100, 115], b, .str [107, 105, 110, 100, 115], c, .str [116, 114, 97, 105, 110, 115], x]) S = mkF true (.dK [(.s [100, 97, 121, 115], .int dy), (.s [112, 108, 97, 99, 101, 115], a), (.s [114, 111, 97, 100, 115], b), (.s [107, 105, 110, 100, 115], c), (.s [116, 114, 97, 105, 110, 115], x)]) S := rfl
theorem ls_one {ts : List Tr} {t : Tr} (h : lsOf ts = []) (h1 : t.ks.length = 1) : lsOf (ts ++ [t]) = [] := by
  unfold lsOf at *
  rw [List.filter_append, h, List.filter_cons, if_neg (by simp [h1])]
  rfl
theorem tup_get (S : Sto) (t : Tr) : EL.get S t.tup = t.tup := rfl
theorem tup_0 (t : Tr) : idxG t.tup (.int 0) = some (.str t.nm) := rfl
theorem tup_3 (t : Tr) : idxG t.tup (.int 3) = some (.int t.lv) := rfl
theorem tup_5 (t : Tr) : idxG t.tup (.int 5) = some (.int t.tk) := rfl
theorem tup_cut2 (t : Tr) (S : Sto) : slcG false t.tup (some 2) none S = .ok (.tup [.str t.st, .int t.lv, .str t.en, .int t.tk]) S := rfl
/-- a train with other kinds -/
def Tr.wk (t : Tr) (ks : List (List Nat)) : Tr := { t with ks := ks }
theorem world_w {bs p : Nat} {S : Sto} {v : D} {k most : Int} (hbs : bs ≤ S.length) (h : S[p]? = some v) (hv : PV v k) (hk : k + 1000 < 1000000) (hm0 : 0 ≤ most) (hm12 : most ≤ 12) :
    Fre (runF (pgA 25) c__law_world bs [.cell p, .int most] S) fun d S' => ∃ (W : Wd) (kn : List (List Nat)), W.ok ∧ W.few ∧ d = W.d kn ∧ ∃ w, PV w (k + 800) ∧ S' = S.set p w := by
  have hp := lt_at h
  unfold Fre
  rw [run_fin rfl]
  simp [-idxG_l, c__law_world]
  refine (take_w h hv (by omega) (by decide) (by decide)).call ?_
  rintro _ _ ⟨a, w, rfl, a0, a1, hw, rfl⟩
  simp [-idxG_l]
  refine (take_w (set_at hp) hw (by omega) (by decide) (by decide)).call ?_
  rintro _ _ ⟨y, w, rfl, y0, y1, hw, rfl⟩
  obtain ⟨dy, d0, d1, ed⟩ : ∃ c : Int, 1 ≤ c ∧ c ≤ 7 ∧ idxG (.lst [.int 1, .int 1, .int 2, .int 7, .int (1 + a)]) (.int y) = some (.int c) := by
    obtain rfl | rfl | rfl | rfl | rfl : y = 0 ∨ y = 1 ∨ y = 2 ∨ y = 3 ∨ y = 4 := by omega
    · exact ⟨1, by omega, by omega, rfl⟩
    · exact ⟨1, by omega, by omega, rfl⟩
    · exact ⟨2, by omega, by omega, rfl⟩
    · exact ⟨7, by omega, by omega, rfl⟩
    · exact ⟨_, by omega, by omega, rfl⟩
  simp [-idxG_l, ed]
  refine (take_w (set_at hp) hw (by omega) (by decide) (by decide)).call ?_
  rintro _ _ ⟨m, w, rfl, m0, m1, hw, rfl⟩
  obtain ⟨m, rfl⟩ := Int.eq_ofNat_of_zero_le m0
  simp [-idxG_l]
  rw [show (1 + (m : Int)) = ((1 + m : Nat) : Int) by push_cast; rfl]
  refine (names_w (m := 1 + m) (set_at hp) hw (by omega) (by omega)).call ?_
  rintro _ _ ⟨ps, rfl, hl, hn, hm, w, hw, rfl⟩
  have hps : PsOk ps := ⟨by omega, by omega, hn, hm⟩
  simp [-idxG_l]
  refine (names_w (m := 3) (set_at hp) hw (by omega) (by decide)).call ?_
  rintro _ _ ⟨kn, rfl, hk1, hk2, hk3, w, hw, rfl⟩
  simp [-idxG_l]
  refine (roads_w (by simp) (set_at hp) hw (by omega) hps).call ?_
  rintro _ _ ⟨rs, rfl, hr1, hr2, w, hw, rfl⟩
  simp [-idxG_l]
  refine (take_w (m := most + 1) (set_at hp) hw (by omega) (by omega) (by omega)).call ?_
  rintro _ _ ⟨m, w, rfl, m0, m1, hw, rfl⟩
  obtain ⟨m, rfl⟩ := Int.eq_ofNat_of_zero_le m0
  simp [-idxG_l]
  refine (names_w (m := m) (set_at hp) hw (by omega) (by omega)).call ?_
  rintro _ _ ⟨ns, rfl, hn1, hn2, hn3, w, hw, rfl⟩
  have m2 : ∀ (b : Bool) (S : Sto), binD b .mul (.int 1440) (.int dy) S = .ok (.int (1440 * dy)) S := fun b S => bin_mul (.inl (by decide))
  simp [-idxG_l, x__law_world_1]
  refine comp_wp (ns.map .str) (fun i acc S' => ∃ (w : D) (ts : List Tr), acc = ts.map Tr.tup ∧ ts.map Tr.nm = ns.take i ∧ (∀ t ∈ ts, TrOk dy ps t) ∧ lsOf ts = [] ∧ PV w (k + 300 + 20 * i) ∧ S' = S.set p w) (by simp; omega) (fun i acc S' q => it_seq (.inl rfl) i) ⟨w, [], rfl, by simp, (fun t h => by cases h), rfl, hw.mono (by omega), rfl⟩ ?_ ?_
  · rintro i x acc _ hx ⟨w, ts, rfl, hnm, hts, hls, hw, rfl⟩
    have hlt : i < ns.length := by
      have := (List.getElem?_eq_some_iff.mp hx).1
      simpa using this
    have e : x = .str ns[i] := by
      rw [List.getElem?_map, List.getElem?_eq_getElem hlt] at hx
      exact (Option.some.inj hx).symm
    subst e
    have hlen : ts.length = i := by
      have := congrArg List.length hnm
      simp at this
      omega
    simp [-idxG_l, m2]
    refine (train_w (by simp) (set_at hp) hw (by omega) (hn3 _ (List.getElem_mem hlt)) d0 d1 hps hk1 hk3).call ?_
    rintro _ _ ⟨t, ht, e1, e2, rfl, w, hw, rfl⟩
    refine ⟨by show _ < 100000; simp; omega, w, ts ++ [t], by simp, ?_, fun u hu => ?_, ls_one hls e2, hw.mono (by omega), by simp⟩
    · rw [List.map_append, hnm, List.take_succ, List.getElem?_eq_getElem hlt, ← e1]
      rfl
    · rcases List.mem_append.mp hu with hu | hu
      · exact hts u hu
      · rw [List.mem_singleton.mp hu]
        exact ht
  · rintro acc _ ⟨w, ts, rfl, hnm, hts, hls, hw, rfl⟩
    rw [List.length_map] at hnm hw
    rw [List.take_length] at hnm
    have hlen : ts.length = ns.length := by
      have := congrArg List.length hnm
      simpa using this
    simp [-idxG_l]
    refine ws_go (I := fun l S' => ∃ (a b c d : Option D) (w : D) (ts : List Tr), l = [some (.cell p), some (.int most), some (.int dy), some (.lst (ps.map .str)), some (.lst (kn.map .str)), some (.lst (rs.map rdD)), some (.lst (ns.map .str)), some (.cell S.length), none, a, b, c, d] ∧ ts.map Tr.nm = ns ∧ (∀ t ∈ ts, TrOk dy ps t) ∧ (lsOf ts).length ≤ 2 ∧ PV w (k + 600) ∧ S' = S.set p w ++ [.lst (ts.map Tr.tup)]) ?_ ?_
    · simp [-idxG_l, s__law_world_2]
      refine (take_w (set_app_at hp) hw (by omega) (by decide) (by decide)).call ?_
      rintro _ _ ⟨z, w, rfl, z0, z1, hw, rfl⟩
      simp [-idxG_l, hp]
      rw [ne_nil_t (ts := ts) (by simp)]
      simp [-idxG_l]
      obtain ⟨n, hn1, hn2, hn3⟩ : ∃ n : Nat, n ≤ 2 ∧ (n = 0 ∨ ts ≠ []) ∧ z * (if ts = [] then (0 : Int) else 1) = n := by
        by_cases h1 : ts = []
        · exact ⟨0, by omega, .inl rfl, by rw [if_pos h1]; simp⟩
        · exact ⟨z.toNat, by omega, .inr h1, by rw [if_neg h1]; omega⟩
      have hmul : ∀ S : Sto, binD false .mul (.int z) (.int (if ts = [] then (0 : Int) else 1)) S = .ok (.int (z * (if ts = [] then (0 : Int) else 1))) S := fun S => bin_mul (.inl (by omega))
      rw [hmul, hn3]
      simp [-idxG_l]
      refine loop_wp (rng 0 n) (fun i l S' => ∃ (a b c d : Option D) (w : D) (ts : List Tr), l = [some (.cell p), some (.int most), some (.int dy), some (.lst (ps.map .str)), some (.lst (kn.map .str)), some (.lst (rs.map rdD)), some (.lst (ns.map .str)), some (.cell S.length), none, a, b, c, d] ∧ ts.map Tr.nm = ns ∧ (∀ t ∈ ts, TrOk dy ps t) ∧ (lsOf ts).length ≤ i ∧ PV w (k + 560 + 10 * i) ∧ S' = S.set p w ++ [.lst (ts.map Tr.tup)]) (by rw [rng_len]; omega) (fun i l S' q => it_rngN (by omega)) ?_ ?_ ⟨_, _, _, _, w, ts, rfl, hnm, hts, by rw [hls]; simp, hw.mono (by omega), rfl⟩
      · have hts2 : n = 0 ∨ ns ≠ [] := by
          rcases hn2 with h | h
          · exact .inl h
          · exact .inr fun e => h (List.map_eq_nil_iff.mp (hnm.trans e))
        clear hts hls hnm hlen ts hmul hn3 hn2
        rintro i x l _ hx ⟨a, b, c, d, w, ts, rfl, hnm, hts, hls, hw, rfl⟩
        obtain ⟨rfl, hi⟩ := rng_at hx
        have hne : ts ≠ [] := fun e => by
          rw [e] at hnm
          exact hts2.resolve_left (by omega) hnm.symm
        have hl0 : 0 < ts.length := List.length_pos_iff.mpr hne
        have hl12 : ts.length ≤ 12 := by
          have := congrArg List.length hnm
          simp at this
          omega
        simp [-idxG_l]
        refine (take_w (set_app_at hp) hw (by omega) (by omega) (by omega)).call ?_
        rintro _ _ ⟨j, w, rfl, j0, j1, hw, rfl⟩
        simp [-idxG_l, hp]
        refine (take_w (set_app_at hp) hw (by omega) (by decide) (by decide)).call ?_
        rintro _ _ ⟨u, w, rfl, u0, u1, hw, rfl⟩
        simp [-idxG_l, hp, cut_from _ u0, cut_to _ u0]
        rw [bin_catl rfl rfl (by simp; omega)]
        simp [-idxG_l]
        refine (take_w (set_app_at hp) hw (by omega) (by decide) (by decide)).call ?_
        rintro _ _ ⟨q, w, rfl, q0, q1, hw, rfl⟩
        have hq : 0 ≤ 2 + q := by omega
        obtain ⟨j', hj, ej⟩ : ∃ j' : Nat, j' < ts.length ∧ (j' : Int) = j := ⟨j.toNat, by omega, by omega⟩
        subst ej
        have hix : idxG (.lst (ts.map Tr.tup)) (.int (j' : Int)) = some ts[j'].tup := by
          rw [idxG_lst (by omega) (by simpa using hj)]
          simp
        simp [-idxG_l, hp, cut_to _ hq, hix, tup_get, tup_0, tup_cut2]
        rw [sub_lst (xs := ts.map Tr.tup) (j := j') (by simp) (by rw [ix_in (by omega) (by simpa using hj)]; rfl) (may_nc (by
          show (true && (ncs _ && true)) = true
          rw [← List.map_drop, ← List.map_take, ← List.map_append, ← List.map_take, ncs_str]
          rfl))]
        simp
        refine ⟨w, ts.set j' (ts[j'].wk ((kn.drop u.toNat ++ kn.take u.toNat).take (2 + q).toNat)), ?_, fun t ht => ?_, Nat.le_trans (ls_set _ _ _) (by omega), hw.mono (by omega), ?_⟩
        · rw [List.map_set, ← hnm]
          have := List.set_getElem_self (as := ts.map Tr.nm) (i := j') (by simpa using hj)
          rw [List.getElem_map] at this
          exact this
        · rcases List.mem_or_eq_of_mem_set ht with ht | rfl
          · exact hts t ht
          · obtain ⟨⟨g1, g2, g3⟩, g4⟩ := hts _ (List.getElem_mem hj)
            refine ⟨⟨g1, ⟨⟨?_, ?_⟩, ?_, fun x hx => ?_⟩, g3⟩, g4⟩
            · simp [Tr.wk]; omega
            · simp [Tr.wk]; omega
            · refine List.Nodup.sublist (List.take_sublist _ _) ?_
              refine (List.perm_append_comm.nodup_iff).mp ?_
              rw [List.take_append_drop]
              exact hk2
            · have hx := List.mem_of_mem_take hx
              rcases List.mem_append.mp hx with hx | hx
              · exact hk3 _ (List.mem_of_mem_drop hx)
              · exact hk3 _ (List.mem_of_mem_take hx)
        · simp [Tr.wk, Tr.tup, Tr.fs, List.map_set]
      · rintro l _ ⟨a, b, c, d, w, ts, rfl, hnm, hts, hls, hw, rfl⟩
        rw [rng_len] at hls hw
        exact ⟨a, b, c, d, w, ts, rfl, hnm, hts, by omega, hw.mono (by omega), rfl⟩
    · clear hts hls hnm hlen ts
      rintro l _ ⟨a, b, c, d, w, ts, rfl, hnm, hts, hls, hw, rfl⟩
      simp [-idxG_l]
      rw [dic_world]
      simp
      have := exit_world (S := S) (p := p) (w := w) (dy := dy) (ps := ps) (kn := kn) (rs := rs) (ts := ts)
      unfold WD at this
      rw [this]
      refine ⟨rfl, ⟨dy, ps, rs, ts⟩, kn, ⟨d0, d1, hps, ⟨hr1, hr2⟩, ?_, by rw [hnm]; exact hn2, hts⟩, hls, rfl, w, hw.mono (by omega), rfl⟩
      have := congrArg List.length hnm
      simp at this
      show ts.length ≤ 12
      omega
end EL

namespace EL
theorem need_places_w {bs : Nat} {S : Sto} {x : D} {ps : List (List Nat)} (hps : PsOk ps) (hx : ∀ B : Sto, EL.get (S ++ B) x = .lst (ps.map .str)) : runF (pgA 14) c_need_places bs [x] S = .val .non S := by
  refine val_of ?_
  unfold Ret
  rw [run_fin rfl]
  have h1 : (1 : Int) ≤ ps.length := by have := hps.1; omega
  have h6 : (ps.length : Int) ≤ 6 := by have := hps.2.1; omega
  have hx0 : EL.get S x = .lst (ps.map .str) := by simpa using hx []
  simp [c_need_places, hx0, anyTy_cons, h1, h6, s_need_places_1]
  refine loop_wp (ps.map .str) (fun i l S' => S' = S ++ [.lst ((ps.take i).map .str)] ∧ ∃ a, l = [some x, some (.cell S.length), a]) (by simp; omega) (fun i l S' q => by rw [q.1]; exact it_seq (.inl (hx _)) i) ?_ ?_ ⟨by simp, _, rfl⟩
  · rintro i y l _ hy ⟨rfl, a, rfl⟩
    have hlt : i < ps.length := by
      have := (List.getElem?_eq_some_iff.mp hy).1
      simpa using this
    have e : y = .str ps[i] := by
      rw [List.getElem?_map, List.getElem?_eq_getElem hlt] at hy
      exact (Option.some.inj hy).symm
    subst e
    have hn := hps.2.2.2 _ (List.getElem_mem hlt)
    have hni : ps[i] ∉ ps.take i := fun hm => by
      obtain ⟨j, hj, e⟩ := List.getElem_of_mem hm
      rw [List.getElem_take] at e
      have hj2 : j < i := by
        have := hj
        rw [List.length_take] at this
        omega
      have := (List.getElem_inj hps.2.2.1).mp e
      omega
    have hin : cmpD .in_ (S ++ [.lst ((ps.take i).map .str)]) (.str ps[i]) (.cell S.length) = some false := by
      show inD _ _ _ = _
      rw [in_strs (xs := ps.take i) (.inl (by simp)), decide_eq_false hni]
    simp only [List.map_take] at hin ⊢
    simp [name_w hn.short, hn, hin]
    rw [app_lst (xs := (ps.take i).map .str)]
    rotate_left
    · simp
    · simp; omega
    · exact may_nc rfl
    simp
    rw [List.take_succ, List.getElem?_map, List.getElem?_eq_getElem hlt]
    simp
  · rintro l _ ⟨rfl, a, rfl⟩
    simp
theorem is_road_w {bs : Nat} {S : Sto} {x : D} {ps : List (List Nat)} {r : Rdt} (hps : PsOk ps) (hx : EL.get S x = .lst (ps.map .str)) (hr : RdOk ps r) : runF (pgA 15) c_is_road bs [x, rdD r] S = .val (.bl true) S := by
  refine val_of ?_
  unfold Ret
  rw [run_fin rfl]
  obtain ⟨h1, h2, h3, h4, h5⟩ := hr
  have n1 := hps.2.2.2 _ h1
  have n2 := hps.2.2.2 _ h2
  have i1 : cmpD .in_ S (.str r.1) x = some true := by
    show inD _ _ _ = _
    rw [in_strs (.inl hx), decide_eq_true h1]
  have i2 : cmpD .in_ S (.str r.2.1) x = some true := by
    show inD _ _ _ = _
    rw [in_strs (.inl hx), decide_eq_true h2]
  simp [c_is_road, rdD, name_w n1.short, name_w n2.short, n1, n2, h3, i1, i2, whole_w, h4, h5]
theorem need_roads_w {bs : Nat} {S : Sto} {x y : D} {ps : List (List Nat)} {rs : List Rdt} (hps : PsOk ps) (hx : EL.get S x = .lst (ps.map .str)) (hy : EL.get S y = .lst (rs.map rdD) ∨ EL.get S y = .tup (rs.map rdD)) (hl : rs.length ≤ 10) (hr : ∀ r ∈ rs, RdOk ps r) : runF (pgA 16) c_need_roads bs [x, y] S = .val .non S := by
  refine val_of ?_
  unfold Ret
  rw [run_fin rfl]
  have h6 : ¬ (10 < (rs.length : Int)) := by omega
  have hty : anyTy (pgA 16).sub (EL.get S y) [.list, .tuple] = some true := by rcases hy with h | h <;> rw [h] <;> simp [anyTy_cons]
  have hlg : lenG (EL.get S y) = some rs.length := by rcases hy with h | h <;> rw [h] <;> simp
  simp [c_need_roads, hty, hlg, h6, s_need_roads_1]
  refine loop_wp (rs.map rdD) (fun i l S' => S' = S ∧ ∃ a, l = [some x, some y, a]) (by simp; omega) (fun i l S' q => by rw [q.1]; exact it_seq hy i) ?_ ?_ ⟨rfl, _, rfl⟩
  · rintro i z l _ hz ⟨rfl, a, rfl⟩
    obtain ⟨r, hr2, rfl⟩ := List.mem_map.mp (List.mem_of_getElem? hz)
    simp [is_road_w hps hx (hr r hr2)]
  · rintro l _ ⟨rfl, a, rfl⟩
    simp
def rdsO (ps : List (List Nat)) (rs : List Rdt) : D := .obj 0 [(0, .lst (ps.map .str)), (1, .lst (rs.map rdD))]
theorem rdsO_nc (ps : List (List Nat)) (rs : List Rdt) : nc (rdsO ps rs) = true := by
  show (ncs (ps.map .str) && (ncs (rs.map rdD) && true)) = true
  rw [ncs_str, rds_nc]; rfl
theorem rinit_w {bs : Nat} {S : Sto} {x y : D} {ps : List (List Nat)} {rs : List Rdt} (hps : PsOk ps) (hl : rs.length ≤ 10) (hr : ∀ r ∈ rs, RdOk ps r) (hx : ∀ B : Sto, EL.get (S ++ B) x = .lst (ps.map .str)) (hy : ∀ B : Sto, EL.get (S ++ B) y = .lst (rs.map rdD) ∨ EL.get (S ++ B) y = .tup (rs.map rdD)) :
    runF (pgA 26) c_Roads___init__ bs [.cell S.length, x, y] (S ++ [.obj 0 []]) = .val .non (S ++ [rdsO ps rs]) := by
  have e : Ret (runF (pgA 26) c_Roads___init__ bs [.cell S.length, x, y] (S ++ [.obj 0 []])) fun d S' => d = .non ∧ S ++ [rdsO ps rs] = S' := by
    unfold Ret
    rw [run_fin rfl]
    have e1 := need_places_w (bs := S.length + 1) (S := S ++ [.obj 0 []]) hps (x := x) (fun B => by rw [List.append_assoc]; exact hx _)
    have e2 := need_roads_w (bs := S.length + 1) (S := S ++ [.obj 0 []]) hps (hx _) (hy _) hl hr
    simp [c_Roads___init__, e1, e2, hx]
    rw [fldS_obj (c := 0) (fs := []) (by simp)]
    rotate_left
    · exact may_nc (ncs_str _)
    · decide
    have lst : ∀ B, listR false (EL.get (S ++ B) y) (S ++ B) = .ok (.lst (rs.map rdD)) (S ++ B) := fun B => by
      rcases hy B with e | e <;> rw [e] <;> rfl
    simp [lst]
    rw [fldS_obj (c := 0) (fs := [(0, .lst (ps.map .str))]) (by simp)]
    rotate_left
    · exact may_nc (rds_nc _)
    · simp
    simp [fput_cons, rdsO, List.take_of_length_le]
  obtain ⟨d, S', e, rfl, rfl⟩ := e.eq
  exact e
theorem rmake_w {bs n : Nat} {S S' : Sto} {x y : D} {ps : List (List Nat)} {rs : List Rdt} (hS : S' = S ++ [.obj 0 []]) (hn : S.length = n) (hps : PsOk ps) (hl : rs.length ≤ 10) (hr : ∀ r ∈ rs, RdOk ps r) (hx : ∀ B : Sto, EL.get (S ++ B) x = .lst (ps.map .str)) (hy : ∀ B : Sto, EL.get (S ++ B) y = .lst (rs.map rdD) ∨ EL.get (S ++ B) y = .tup (rs.map rdD)) {Q : D → Sto → Prop} {X : Nat → Fds → Sto → Prop} (q : Q (rdsO ps rs) S) :
    wpR (madeE false n (runF (pgA 26) c_Roads___init__ bs [.cell n, x, y] S')) Q X := by
  subst hn hS
  rw [rinit_w hps hl hr hx hy]
  exact made_w (Y := fun _ _ _ => False) ⟨rfl, rfl, rdsO ps rs, rfl, rfl, rdsO_nc _ _, q⟩ fun _ _ _ h => h.elim
end EL

namespace EL
theorem names_w2 {bs : Nat} {S : Sto} {u v : D} {fs : Fds} {ts : List Tr} (hu : EL.get S u = .obj 2 fs) (hf : fget 10 fs = some v) (hv : EL.get S v = .lst (ts.map Tr.obj)) (hl : ts.length ≤ 100) :
    runF (pgA 31) c_Timetable_names bs [u] S = .fresh (.lst ((ts.map Tr.nm).map .str)) S := by
  rw [run_fin rfl]
  simp [c_Timetable_names, x_Timetable_names_1, hu, hf]
  rw [comp_map1 (ts.map Tr.obj) (fun d => match d with
    | .obj 1 ((2, x) :: _) => x
    | d => d) (by simp; omega) (fun i => it_seq (.inl hv) i) (fun d hd => ?_)]
  · simp
    rw [exit_new (c := .lst ((ts.map Tr.nm).map .str)) (by simp) (by simp [Tr.obj, Function.comp_def]) rfl (ncs_str _)]
    simp
  · obtain ⟨t, _, rfl⟩ := List.mem_map.mp hd
    have := get_nm (bs := S.length) (S := S) (t := t)
    unfold Tr.obj at this ⊢
    exact ⟨_, by simp; rfl, by simp, by simp [this]⟩
theorem loose_w {bs : Nat} {S : Sto} {u v : D} {fs : Fds} {ts : List Tr} (hu : EL.get S u = .obj 2 fs) (hf : fget 10 fs = some v) (hv : EL.get S v = .lst (ts.map Tr.obj)) (hl : ts.length ≤ 100) :
    runF (pgA 34) c_Timetable_loose bs [u] S = .fresh (.lst (((ts.filter fun t => decide (1 < t.ks.length)).map Tr.nm).map .str)) S := by
  rw [run_fin rfl]
  simp [c_Timetable_loose, x_Timetable_loose_1, hu, hf]
  rw [comp_map (ts.map Tr.obj) (fun d => match d with
    | .obj 1 (_ :: (3, .lst ks) :: _) => decide (1 < ks.length)
    | d => false) (fun d => match d with
    | .obj 1 ((2, x) :: _) => x
    | d => d) (by simp; omega) (fun i => it_seq (.inl hv) i) (fun d hd => ?_)]
  · simp
    rw [exit_new (c := .lst (((ts.filter fun t => decide (1 < t.ks.length)).map Tr.nm).map .str)) (by simp) (by simp [Tr.obj, Function.comp_def, List.filter_map]) rfl (ncs_str _)]
    simp
  · obtain ⟨t, _, rfl⟩ := List.mem_map.mp hd
    have e1 := get_nm (bs := S.length) (S := S) (t := t)
    have e2 := get_ks (bs := S.length) (S := S) (t := t)
    unfold Tr.obj at e1 e2 ⊢
    refine ⟨_, by simp; rfl, by simp [e2]; omega, by simp [e1]⟩
theorem span_w {bs : Nat} {S : Sto} {u : D} {fs : Fds} {days : Int} (hu : EL.get S u = .obj 2 fs) (hf : fget 8 fs = some (.int days)) : runF (pgA 5) c_Timetable_span bs [u] S = .val (.int (1440 * days)) S := by
  rw [run_fin rfl]
  have m2 : ∀ (b : Bool) (S : Sto), binD b .mul (.int 1440) (.int days) S = .ok (.int (1440 * days)) S := fun b S => bin_mul (.inl (by decide))
  simp [c_Timetable_span, hu, hf, m2]
theorem places_w {bs : Nat} {S : Sto} {ps : List (List Nat)} {rs : List Rdt} : runF (pgA 28) c_Roads_places bs [rdsO ps rs] S = .fresh (.lst (ps.map .str)) S := by
  rw [run_fin rfl]
  simp [c_Roads_places, rdsO, fget_cons]
  rw [exit_new (c := .lst (ps.map .str)) (by simp) (by simp) rfl (ncs_str _)]
  simp
theorem roads_g {bs : Nat} {S : Sto} {ps : List (List Nat)} {rs : List Rdt} : runF (pgA 42) c_Roads_roads bs [rdsO ps rs] S = .fresh (.lst (rs.map rdD)) S := by
  rw [run_fin rfl]
  simp [c_Roads_roads, rdsO, fget_cons]
  rw [exit_new (c := .lst (rs.map rdD)) (by simp) (by simp) rfl (rds_nc _)]
  simp
theorem need_ok {bs : Nat} {S : Sto} {u v : D} {fs : Fds} {days : Int} {ps : List (List Nat)} {rs : List Rdt} {ts : List Tr} {t : Tr} (hu : EL.get S u = .obj 2 fs) (h8 : fget 8 fs = some (.int days)) (h9 : fget 9 fs = some (rdsO ps rs)) (h10 : fget 10 fs = some v) (hv : EL.get S v = .lst (ts.map Tr.obj)) (hl : ts.length ≤ 100)
    (c1 : t.nm ∉ ts.map Tr.nm) (ht : TrOk days ps t) : runF (pgA 32) c_Timetable_need_train bs [u, t.obj] S = .val .non S := by
  obtain ⟨_, c2, c3, c4, c5⟩ := ht
  have e1 := get_nm (bs := S.length) (S := S) (t := t)
  have e2 := get_st (bs := S.length) (S := S) (t := t)
  have e3 := get_en (bs := S.length) (S := S) (t := t)
  have e4 := get_lv (bs := S.length) (S := S) (t := t)
  have e5 := get_tk (bs := S.length) (S := S) (t := t)
  have n1 := names_w2 (bs := S.length) hu h10 hv hl
  have n2 := span_w (bs := S.length) hu h8
  have n3 := places_w (bs := S.length) (S := S) (ps := ps) (rs := rs)
  have i1 : cmpD .in_ S (.str t.nm) (.lst ((ts.map Tr.nm).map .str)) = some (decide (t.nm ∈ ts.map Tr.nm)) := by
    show inD _ _ _ = _
    exact in_strs (.inl rfl)
  have i2 : ∀ z : List Nat, cmpD .nin S (.str z) (.lst (ps.map .str)) = some (!decide (z ∈ ps)) := fun z => by
    show (inD _ _ _).map _ = _
    rw [in_strs (.inl rfl)]
    rfl
  have c4' : ¬ 1440 * days ≤ t.lv := by omega
  have c5' : ¬ 1440 * days < t.tk := by omega
  refine val_of ?_
  unfold Ret
  rw [run_fin rfl]
  unfold Tr.obj at e1 e2 e3 e4 e5 ⊢
  simp only [List.map_map] at i1 n1
  rw [decide_eq_false c1] at i1
  simp [c_Timetable_need_train, hu, e1, n1, i1, e2, e3, s_Timetable_need_train_1]
  refine loop_wp [.str t.st, .str t.en] (fun i l S' => S = S' ∧ (∃ a, l = [some u, some (.obj 1 [(2, .str t.nm), (3, .lst (t.ks.map .str)), (4, .str t.st), (5, .int t.lv), (6, .str t.en), (7, .int t.tk)]), a])) (by simp) (fun i l S' q => it_seq (.inr rfl) i) ?_ ?_ ⟨rfl, ⟨_, rfl⟩⟩
  · rintro i y l _ hy ⟨rfl, ⟨a, rfl⟩⟩
    have hi : i < 2 := (List.getElem?_eq_some_iff.mp hy).1
    have n3 := n3
    unfold rdsO at n3 h9
    obtain rfl | rfl : i = 0 ∨ i = 1 := by omega
    · cases hy
      have i2 := i2 t.st
      rw [decide_eq_true c2] at i2
      simp [hu, h9, n3, i2, c2]
    · cases hy
      have i2 := i2 t.en
      rw [decide_eq_true c3] at i2
      simp [hu, h9, n3, i2, c3]
  · rintro l _ ⟨rfl, ⟨a, rfl⟩⟩
    simp [e4, e5, hu, n2, c4', c5']
end EL

namespace EL
def ttO (dy R : D) (ts : List Tr) : D := .obj 2 [(8, dy), (9, R), (10, .lst (ts.map Tr.obj))]
theorem objs_nc (ts : List Tr) : ncs (ts.map Tr.obj) = true := ncs_all.mpr fun d hd => by
  obtain ⟨t, _, rfl⟩ := List.mem_map.mp hd
  exact t.obj_nc
theorem exit_tt {S : Sto} {dy R : D} {ts : List Tr} (h1 : nc dy = true) (h2 : nc R = true) : exitV S.length false (.cell S.length) (S ++ [.obj 2 [(8, dy), (9, R), (10, .cell (S.length + 1))], .lst (ts.map Tr.obj)]) = .fresh (ttO dy R ts) S := by
  unfold exitV
  rw [if_neg (by decide)]
  dsimp only
  rw [if_neg (by omega)]
  have e0 : (S ++ [D.obj 2 [(8, dy), (9, R), (10, .cell (S.length + 1))], .lst (ts.map Tr.obj)])[S.length]? = some (.obj 2 [(8, dy), (9, R), (10, .cell (S.length + 1))]) := by simp
  rw [e0]
  dsimp only
  rw [if_pos (show isCont _ = true from rfl)]
  have e1 : ((S ++ [D.obj 2 [(8, dy), (9, R), (10, .cell (S.length + 1))], .lst (ts.map Tr.obj)]).set S.length .non)[S.length + 1]? = some (.lst (ts.map Tr.obj)) := by
    rw [List.getElem?_set_ne (by omega)]
    simp
  have e2 : ∀ T : Sto, T[S.length + 1]? = some (.lst (ts.map Tr.obj)) → res S.length T hops (.obj 2 [(8, dy), (9, R), (10, .cell (S.length + 1))]) = some (ttO dy R ts) := fun T hT => by
    unfold hops
    simp only [res, resW, resWF]
    rw [resW_nc _ _ _ h1, resW_nc _ _ _ h2, if_neg (by omega), hT]
    dsimp only
    rw [if_pos (show isCont _ = true from rfl)]
    simp only [res, resW]
    rw [resWs_nc _ _ _ (objs_nc ts)]
    rfl
  rw [e2 _ e1]
  simp
theorem nm_fresh {ts : List Tr} {i : Nat} (h : (ts.map Tr.nm).Nodup) (hi : i < ts.length) : ts[i].nm ∉ (ts.take i).map Tr.nm := fun hm => by
  obtain ⟨j, hj, e⟩ := List.getElem_of_mem hm
  have hj2 : j < i := by
    rw [List.length_map, List.length_take] at hj
    omega
  rw [List.getElem_map, List.getElem_take] at e
  have e2 : (ts.map Tr.nm)[j]'(by simp; omega) = (ts.map Tr.nm)[i]'(by simpa using hi) := by simpa using e
  have := (List.getElem_inj h).mp e2
  omega
/-- a timetable that is not refused; made is what stands behind -/
theorem tinit_ok {bs : Nat} {S : Sto} {tr : D} {W : Wd} (hW : W.ok) (hf : W.few) (hbs : bs ≤ S.length) (ht : ∀ B : Sto, EL.get (S ++ B) tr = .lst (W.ts.map Tr.obj) ∨ EL.get (S ++ B) tr = .tup (W.ts.map Tr.obj)) :
    runF (pgA 35) c_Timetable___init__ bs [.cell S.length, .int W.days, rdsO W.ps W.rs, tr] (S ++ [.obj 2 []]) = .val .non (S ++ [.obj 2 [(8, .int W.days), (9, rdsO W.ps W.rs), (10, .cell (S.length + 1))], .lst (W.ts.map Tr.obj)]) := by
  obtain ⟨days, ps, rs, ts⟩ := W
  obtain ⟨h1, h2, hps, ⟨hr1, hr2⟩, hl, hn, hok⟩ := hW
  have h1 : 1 ≤ days := h1
  have h2 : days ≤ 7 := h2
  have hl : ts.length ≤ 12 := hl
  have hf : (lsOf ts).length ≤ 2 := hf
  have e : Ret (runF (pgA 35) c_Timetable___init__ bs [.cell S.length, .int days, rdsO ps rs, tr] (S ++ [.obj 2 []])) fun d S' => d = .non ∧ S ++ [.obj 2 [(8, .int days), (9, rdsO ps rs), (10, .cell (S.length + 1))], .lst (ts.map Tr.obj)] = S' := by
    unfold Ret
    rw [run_fin rfl]
    have hR : EL.get (S ++ [.obj 2 []]) (rdsO ps rs) = rdsO ps rs := rfl
    have hT : ∀ s, tyD s (.cls 0) (rdsO ps rs) = some (s 0 0) := fun s => rfl
    have hl1 := ht [.obj 2 []]
    have hty : anyTy (pgA 35).sub (EL.get (S ++ [.obj 2 []]) tr) [.list, .tuple] = some true := by rcases hl1 with h | h <;> rw [h] <;> simp [anyTy_cons]
    have hlg : lenG (EL.get (S ++ [.obj 2 []]) tr) = some ts.length := by rcases hl1 with h | h <;> rw [h] <;> simp
    have h12' : ¬ (12 : Int) < ts.length := by omega
    simp [c_Timetable___init__, whole_w, h1, h2, hR, hT, hty, hlg, h12']
    rw [fldS_obj (c := 2) (fs := []) (by simp)]
    rotate_left
    · exact may_nc rfl
    · decide
    simp
    rw [fldS_obj (c := 2) (fs := [(8, .int days)]) (by simp)]
    rotate_left
    · exact may_nc (rdsO_nc _ _)
    · simp
    simp [fput_cons]
    rw [fldS_obj (c := 2) (fs := [(8, .int days), (9, rdsO ps rs)]) (by simp)]
    rotate_left
    · exact may_new hbs
    · simp
    simp [fput_cons, s_Timetable___init___1]
    refine loop_wp (ts.map Tr.obj) (fun i l' S' => ∃ (a : Option D), S' = S ++ [.obj 2 [(8, .int days), (9, rdsO ps rs), (10, .cell (S.length + 1))], .lst ((ts.take i).map Tr.obj)] ∧ l' = [some (.cell S.length), some (.int days), some (rdsO ps rs), some tr, a]) (by simp; omega) (fun i l' S' ⟨a, h2, h3⟩ => by rw [h2]; exact it_seq (ht _) i) ?_ ?_ ⟨none, by simp, rfl⟩
    · rintro i y l' _ hy ⟨a, rfl, rfl⟩
      have hlt : i < ts.length := by
        have := (List.getElem?_eq_some_iff.mp hy).1
        simpa using this
      have e : y = ts[i].obj := by
        rw [List.getElem?_map, List.getElem?_eq_getElem hlt] at hy
        exact (Option.some.inj hy).symm
      subst e
      have hnd := need_ok (bs := bs) (days := days) (ps := ps) (rs := rs) (u := .cell S.length) (v := .cell (S.length + 1)) (fs := [(8, .int days), (9, rdsO ps rs), (10, .cell (S.length + 1))]) (ts := ts.take i) (t := ts[i]) (S := S ++ [.obj 2 [(8, .int days), (9, rdsO ps rs), (10, .cell (S.length + 1))], .lst ((ts.take i).map Tr.obj)]) (get_at (by simp)) (by simp [fget_cons]) (by simp [fget_cons]) (by simp [fget_cons]) (get_at (by simp)) (by simp; omega) (nm_fresh hn hlt) (hok _ (List.getElem_mem hlt))
      simp only [List.map_take] at hnd ⊢
      simp [hnd, fget_cons]
      rw [app_lst (xs := (ts.map Tr.obj).take i)]
      rotate_left
      · simp
      · simp; omega
      · exact may_nc (Tr.obj_nc _)
      simp
      rw [List.take_succ, List.getElem?_map, List.getElem?_eq_getElem hlt]
      simp
    · rintro l' _ ⟨a, rfl, rfl⟩
      rw [List.length_map, List.take_length]
      have hlo := fun bs => loose_w (bs := bs) (S := S ++ [.obj 2 [(8, .int days), (9, rdsO ps rs), (10, .cell (S.length + 1))], .lst (ts.map Tr.obj)]) (u := .cell S.length) (v := .cell (S.length + 1)) (fs := [(8, .int days), (9, rdsO ps rs), (10, .cell (S.length + 1))]) (ts := ts) (get_at (by simp)) (by simp [fget_cons]) (get_at (by simp)) (by omega)
      have h2' : ¬ (2 : Int) < ((ts.filter fun t => decide (1 < t.ks.length)).length : Nat) := by
        have hf : (ts.filter fun t => decide (1 < t.ks.length)).length ≤ 2 := hf
        omega
      simp [hlo, h2']
      exact ⟨rfl, rfl, rfl⟩
  obtain ⟨d, S', e, rfl, rfl⟩ := e.eq
  exact e
end EL

namespace EL
def toldD (dn : Int) (ps : List (List Nat)) (rs : List Rdt) (ts : List Tr) : D := .tup [.int dn, .tup (ps.map .str), .tup (rs.map rdD), .tup ((ts.map Tr.row).map .str)]
theorem told_w {bs : Nat} {S : Sto} {dn : Int} {ps : List (List Nat)} {rs : List Rdt} {ts : List Tr} (ht : ∀ t ∈ ts, t.ok) (hl : ts.length ≤ 100) : runF (pgA 44) c_Timetable_told bs [ttO (.int dn) (rdsO ps rs) ts] S = .val (toldD dn ps rs ts) S := by
  rw [run_fin rfl]
  have e1 := places_w (bs := S.length) (S := S) (ps := ps) (rs := rs)
  have e2 := roads_g (bs := S.length) (S := S) (ps := ps) (rs := rs)
  have hc : compG (.v 2) (wipeL [some (ttO (.int dn) (rdsO ps rs) ts), none, none] [2]) (evTs ⟨pgA 44, S.length, []⟩ []) (evE ⟨pgA 44, S.length, []⟩ (.meth false 14 (.var 2) [])) 0 [.lst (ts.map Tr.obj)] fuel 0 [] S = .ok ((ts.map Tr.row).map .str) S := by
    rw [comp_map1 (ts.map Tr.obj) (fun d => match d with
      | .obj 1 [(2, .str nm), (3, .lst ks), (4, .str st), (5, .int lv), (6, .str en), (7, .int tk)] => match allS ks with
        | some ks => .str (Tr.mk nm ks st lv en tk).row
        | none => d
      | d => d) (by simp; omega) (fun i => it_seq (.inl rfl) i) (fun d hd => ?_)]
    · congr 1
      rw [List.map_map, List.map_map]
      refine List.map_congr_left fun t _ => ?_
      simp [Tr.obj, allS_str]
    · obtain ⟨t, h, rfl⟩ := List.mem_map.mp hd
      have := trow_w (bs := S.length) (S := S) (ht t h)
      unfold Tr.obj at this ⊢
      refine ⟨_, by simp; rfl, by simp, ?_⟩
      simp [this, allS_str]
  unfold rdsO ttO at *
  simp at hc
  simp [c_Timetable_told, x_Timetable_told_1, fget_cons, hc, e1, e2]
  rw [exit_nc (by
    show (true && (ncs (ps.map .str) && (ncs (rs.map rdD) && (ncs _ && true)))) = true
    rw [ncs_str, rds_nc]
    have := ncs_str (ts.map Tr.row)
    rw [List.map_map] at this
    rw [this]
    rfl)]
  simp [toldD]
/-! ### trains handed in -/
theorem Wd.trs {W : Wd} (h : W.ok) : ∀ t ∈ W.ts, t.ok := fun t ht => (h.2.2.2.2.2.2 t ht).1
end EL

namespace EL
/-! ### the timetable of a world -/
def Wd.tt (W : Wd) : D := ttO (.int W.days) (rdsO W.ps W.rs) W.ts
theorem Wd.tt_nc (W : Wd) : EL.nc W.tt = true := by
  show (true && (EL.nc (rdsO W.ps W.rs) && (ncs (W.ts.map Tr.obj) && true))) = true
  rw [rdsO_nc, objs_nc]
  rfl
theorem wd_get (S : Sto) (W : Wd) (kn : List (List Nat)) : EL.get S (W.d kn) = W.d kn := rfl
theorem wd_days (W : Wd) (kn : List (List Nat)) : idxG (W.d kn) (.str [100, 97, 121, 115]) = some (.int W.days) := rfl
theorem wd_places (W : Wd) (kn : List (List Nat)) : idxG (W.d kn) (.str [112, 108, 97, 99, 101, 115]) = some (.lst (W.ps.map .str)) := rfl
theorem wd_roads (W : Wd) (kn : List (List Nat)) : idxG (W.d kn) (.str [114, 111, 97, 100, 115]) = some (.lst (W.rs.map rdD)) := rfl
theorem wd_trains (W : Wd) (kn : List (List Nat)) : idxG (W.d kn) (.str [116, 114, 97, 105, 110, 115]) = some (.lst (W.ts.map Tr.tup)) := rfl
theorem exit_tt2 {S : Sto} {dy R x : D} {ts : List Tr} (h1 : nc dy = true) (h2 : nc R = true) : exitV S.length false (.cell (S.length + 1)) (S ++ [x, .obj 2 [(8, dy), (9, R), (10, .cell (S.length + 2))], .lst (ts.map Tr.obj)]) = .fresh (ttO dy R ts) S := by
  unfold exitV
  rw [if_neg (by decide)]
  dsimp only
  rw [if_neg (by omega)]
  have e0 : (S ++ [x, D.obj 2 [(8, dy), (9, R), (10, .cell (S.length + 2))], .lst (ts.map Tr.obj)])[S.length + 1]? = some (.obj 2 [(8, dy), (9, R), (10, .cell (S.length + 2))]) := by simp
  rw [e0]
  dsimp only
  rw [if_pos (show isCont _ = true from rfl)]
  have e1 : ((S ++ [x, D.obj 2 [(8, dy), (9, R), (10, .cell (S.length + 2))], .lst (ts.map Tr.obj)]).set (S.length + 1) .non)[S.length + 2]? = some (.lst (ts.map Tr.obj)) := by
    rw [List.getElem?_set_ne (by omega)]
    simp
  have e2 : ∀ T : Sto, T[S.length + 2]? = some (.lst (ts.map Tr.obj)) → res S.length T hops (.obj 2 [(8, dy), (9, R), (10, .cell (S.length + 2))]) = some (ttO dy R ts) := fun T hT => by
    unfold hops
    simp only [res, resW, resWF]
    rw [resW_nc _ _ _ h1, resW_nc _ _ _ h2, if_neg (by omega), hT]
    dsimp only
    rw [if_pos (show isCont _ = true from rfl)]
    simp only [res, resW]
    rw [resWs_nc _ _ _ (objs_nc ts)]
    rfl
  rw [e2 _ e1]
  simp
theorem table_w {bs : Nat} {S : Sto} {W : Wd} {kn : List (List Nat)} (hW : W.ok) (hf : W.few) : runF (pgA 36) c__law_table bs [W.d kn] S = .fresh W.tt S := by
  refine fre_of ?_
  unfold Fre
  rw [run_fin rfl]
  have hl := hW.2.2.2.2.1
  simp [-idxG_l, c__law_table, s__law_table_1, wd_get, wd_trains]
  refine ws_go (I := fun l S' => S' = S ++ [.lst (W.ts.map Tr.obj)] ∧ ∃ a b c d e f, l = [some (W.d kn), some (.cell S.length), a, b, c, d, e, f]) ?_ ?_
  · refine loop_wp (W.ts.map Tr.tup) (fun i l S' => S' = S ++ [.lst ((W.ts.take i).map Tr.obj)] ∧ ∃ a b c d e f, l = [some (W.d kn), some (.cell S.length), a, b, c, d, e, f]) (by simp; omega) (fun i l S' q => it_seq (.inl rfl) i) ?_ ?_ ⟨by simp, _, _, _, _, _, _, rfl⟩
    · rintro i x l _ hx ⟨rfl, a, b, c, d, e, f, rfl⟩
      have hlt : i < W.ts.length := by
        have := (List.getElem?_eq_some_iff.mp hx).1
        simpa using this
      have e : x = W.ts[i].tup := by
        rw [List.getElem?_map, List.getElem?_eq_getElem hlt] at hx
        exact (Option.some.inj hx).symm
      subst e
      have ht := Wd.trs hW _ (List.getElem_mem hlt)
      simp [Tr.tup, Tr.fs]
      refine make_w (S := S ++ [.lst ((W.ts.take i).map Tr.obj)]) (t := W.ts[i]) (by simp) (by simp) ht (fun B => .inl rfl) ?_
      simp
      rw [app_lst (xs := (W.ts.map Tr.obj).take i)]
      rotate_left
      · simp
      · simp; omega
      · exact may_nc (Tr.obj_nc _)
      simp
      rw [List.take_succ, List.getElem?_map, List.getElem?_eq_getElem hlt]
      simp
    · rintro l _ ⟨rfl, q⟩
      exact ⟨by rw [List.length_map, List.take_length], q⟩
  · rintro l _ ⟨rfl, a, b, c, d, e, f, rfl⟩
    simp [-idxG_l, wd_get, wd_days, wd_places, wd_roads]
    refine rmake_w (S := S ++ [.lst (W.ts.map Tr.obj)]) (by simp) (by simp) hW.2.2.1 hW.2.2.2.1.1 hW.2.2.2.1.2 (fun B => rfl) (fun B => .inr rfl) ?_
    have h := tinit_ok (bs := S.length) (S := S ++ [.lst (W.ts.map Tr.obj)]) (tr := .cell S.length) hW hf (by simp) (fun B => .inl (by simp))
    simp at h
    simp [h, madeE]
    rw [exit_tt2 rfl (rdsO_nc _ _)]
    exact ⟨rfl, rfl, rfl⟩
/-! ### facts that keep timetables folded -/
theorem tt_get (S : Sto) (W : Wd) : EL.get S W.tt = W.tt := rfl
theorem tt_8 (W : Wd) : fldG 8 W.tt = some (.int W.days) := rfl
theorem tt_9 (W : Wd) : fldG 9 W.tt = some (rdsO W.ps W.rs) := rfl
theorem tt_10 (W : Wd) : fldG 10 W.tt = some (.lst (W.ts.map Tr.obj)) := rfl
theorem tt_m (n m : Nat) (W : Wd) : mthO (pgA n) m W.tt = (pgA n).mth 2 m := rfl
theorem tr_get (S : Sto) (t : Tr) : EL.get S t.obj = t.obj := rfl
theorem tr_m (n m : Nat) (t : Tr) : mthO (pgA n) m t.obj = (pgA n).mth 1 m := rfl
theorem span_t {bs : Nat} {S : Sto} {W : Wd} : runF (pgA 5) c_Timetable_span bs [W.tt] S = .val (.int (1440 * W.days)) S := span_w (days := W.days) rfl rfl
theorem days_t {bs : Nat} {S : Sto} {W : Wd} : runF (pgA 10) c_Timetable_days bs [W.tt] S = .val (.int W.days) S := by
  rw [run_fin rfl]
  simp [c_Timetable_days, tt_get, tt_8]
theorem trains_t {bs : Nat} {S : Sto} {W : Wd} : runF (pgA 11) c_Timetable_trains bs [W.tt] S = .fresh (.lst (W.ts.map Tr.obj)) S := by
  rw [run_fin rfl]
  simp [c_Timetable_trains, tt_get, tt_10]
  rw [exit_new (c := .lst (W.ts.map Tr.obj)) (by simp) (by simp) rfl (objs_nc _)]
  simp
theorem told_t {bs : Nat} {S : Sto} {W : Wd} (hW : W.ok) : runF (pgA 44) c_Timetable_told bs [W.tt] S = .val (toldD W.days W.ps W.rs W.ts) S := told_w (Wd.trs hW) (by have := hW.2.2.2.2.1; omega)
theorem until_w {bs : Nat} {S : Sto} {a b dy : Int} (h1 : 1 ≤ dy) (h7 : dy ≤ 7) (a0 : 0 ≤ a) (a1 : a < 1440 * dy) (b0 : 0 ≤ b) (b1 : b < 1440 * dy) : runF (pgA 4) c_minutes_until bs [.int a, .int b, .int dy] S = .val (.int ((b - a) % (1440 * dy))) S := by
  refine val_of ?_
  unfold Ret
  rw [run_fin rfl]
  have m2 : ∀ (b : Bool) (S : Sto), binD b .mul (.int 1440) (.int dy) S = .ok (.int (1440 * dy)) S := fun b S => bin_mul (.inl (by decide))
  simp [c_minutes_until, s_minutes_until_1, whole_w, h1, h7, m2]
  refine loop_wp [.int a, .int b] (fun i l S' => S = S' ∧ ∃ u, l = [some (.int a), some (.int b), some (.int dy), u]) (by simp) (fun i l S' q => it_seq (.inr rfl) i) ?_ ?_ ⟨rfl, _, rfl⟩
  · rintro i y l _ hy ⟨rfl, u, rfl⟩
    have hi : i < 2 := (List.getElem?_eq_some_iff.mp hy).1
    obtain rfl | rfl : i = 0 ∨ i = 1 := by omega
    · cases hy
      have : a ≤ 1440 * dy - 1 := by omega
      simp [whole_w, m2, a0, this]
    · cases hy
      have : b ≤ 1440 * dy - 1 := by omega
      simp [whole_w, m2, b0, this]
  · rintro l _ ⟨rfl, u, rfl⟩
    simp [m2]
    rw [bin_mod (by omega)]
    simp
end EL

namespace EL
/-! ### under way -/
def Wd.whole (W : Wd) : Int := 1440 * W.days
/-- whether a train is under way -/
def uwB (W : Wd) (t : Int) (T : Tr) : Bool := decide ((t - T.lv) % (1440 * W.days) < T.tk)
def Wd.uw (W : Wd) (t : Int) : List (List Nat) := (W.ts.filter (uwB W t)).map Tr.nm
theorem needt_w {bs : Nat} {S : Sto} {W : Wd} {t : Int} (t0 : 0 ≤ t) (t1 : t < 1440 * W.days) : runF (pgA 6) c_need_time bs [W.tt, .int t] S = .val .non S := by
  refine val_of ?_
  unfold Ret
  rw [run_fin rfl]
  have : t ≤ 1440 * W.days - 1 := by omega
  simp [c_need_time, tt_get, tt_m, span_t, whole_w, t0, this]
theorem uw_w {bs : Nat} {S : Sto} {W : Wd} {t : Int} (hW : W.ok) (t0 : 0 ≤ t) (t1 : t < 1440 * W.days) : runF (pgA 12) c_under_way bs [W.tt, .int t] S = .fresh (.lst ((W.uw t).map .str)) S := by
  refine fre_of ?_
  unfold Fre
  rw [run_fin rfl]
  have hl := hW.2.2.2.2.1
  simp [c_under_way, s_under_way_1, needt_w t0 t1, tt_get, tt_m, trains_t]
  refine loop_wp (W.ts.map Tr.obj) (fun i l S' => S' = S ++ [.lst ((((W.ts.take i).filter (uwB W t)).map Tr.nm).map .str)] ∧ ∃ a, l = [some W.tt, some (.int t), some (.cell S.length), a]) (by simp; omega) (fun i l S' q => it_seq (.inl rfl) i) ?_ ?_ ⟨by simp, _, rfl⟩
  · rintro i x l _ hx ⟨rfl, a, rfl⟩
    have hlt : i < W.ts.length := by
      have := (List.getElem?_eq_some_iff.mp hx).1
      simpa using this
    have e : x = W.ts[i].obj := by
      rw [List.getElem?_map, List.getElem?_eq_getElem hlt] at hx
      exact (Option.some.inj hx).symm
    subst e
    obtain ⟨hok, _, _, h4, _⟩ := hW.2.2.2.2.2.2 _ (List.getElem_mem hlt)
    have h3 := hok.2.2.2.1.1
    have et : W.ts.take (i + 1) = W.ts.take i ++ [W.ts[i]] := by
      rw [List.take_succ, List.getElem?_eq_getElem hlt]; rfl
    simp [tr_get, tr_m, get_lv, get_tk, get_nm, tt_get, tt_m, days_t, until_w hW.1 hW.2.1 h3 h4 t0 t1]
    refine Br.mk (fun hq => ?_) fun hq => ?_
    · rw [app_lst (xs := (((W.ts.take i).filter (uwB W t)).map Tr.nm).map .str)]
      rotate_left
      · simp
      · have : ((W.ts.take i).filter (uwB W t)).length ≤ (W.ts.take i).length := List.length_filter_le _ _
        rw [List.length_take] at this
        simp
        omega
      · exact may_nc rfl
      have hq2 : uwB W t W.ts[i] = true := hq
      have ef : (W.ts.take (i + 1)).filter (uwB W t) = (W.ts.take i).filter (uwB W t) ++ [W.ts[i]] := by
        rw [et, List.filter_append, List.filter_cons, if_pos hq2]
        rfl
      simp [ef]
    · have hq2 : uwB W t W.ts[i] = false := hq
      have ef : (W.ts.take (i + 1)).filter (uwB W t) = (W.ts.take i).filter (uwB W t) := by
        rw [et, List.filter_append, List.filter_cons, if_neg (by simp [hq2])]
        simp
      simp [ef]
  · rintro l _ ⟨rfl, a, rfl⟩
    rw [List.length_map, List.take_length]
    simp only [ss_cons, s_ret, e_var, ss_nil]
    simp
    rw [exit_new (c := .lst ((W.uw t).map .str)) (by simp) (by simp [Wd.uw]) rfl (ncs_str _)]
    simp
/-- the law's own -/
theorem luw_w {bs : Nat} {S : Sto} {W : Wd} {kn : List (List Nat)} {t : Int} (hW : W.ok) : runF (pgA 37) c__law_under_way bs [W.d kn, .int t] S = .fresh (.lst ((W.uw t).map .str)) S := by
  rw [run_fin rfl]
  have hl := hW.2.2.2.2.1
  have h1 := hW.1
  have m2 : ∀ (b : Bool) (S : Sto), binD b .mul (.int 1440) (.int W.days) S = .ok (.int (1440 * W.days)) S := fun b S => bin_mul (.inl (by decide))
  simp [c__law_under_way, x__law_under_way_1, wd_get, wd_days, wd_trains, m2]
  rw [comp_map (W.ts.map Tr.tup) (fun d => match d with
    | .tup [.str nm, .lst ks, .str st, .int lv, .str en, .int tk] => decide ((t - lv) % (1440 * W.days) < tk)
    | _ => false) (fun d => match d with
    | .tup (x :: _) => x
    | d => d) (by simp; omega) (fun i => it_seq (.inl rfl) i) (fun d hd => ?_)]
  · simp
    rw [exit_new (c := .lst ((W.uw t).map .str)) (by simp) (by simp [Wd.uw, List.filter_map, Function.comp_def, Tr.tup, Tr.fs]; rfl) rfl (ncs_str _)]
    simp
  · obtain ⟨T, _, rfl⟩ := List.mem_map.mp hd
    have hm : ∀ x (S : Sto), binD false .mod (.int x) (.int (1440 * W.days)) S = .ok (.int (x % (1440 * W.days))) S := fun x S => bin_mod (by omega)
    refine ⟨_, by simp; rfl, ?_, ?_⟩
    · simp [Tr.tup, Tr.fs, ix, hm]
    · simp [Tr.tup, Tr.fs]
end EL

namespace EL
/-! ### the busiest time: the plain law -/
def bstp (c : Int → Nat) (b : Int × Nat) (t : Int) : Int × Nat := if b.2 < c t then (t, c t) else b
/-- the least of the times at which c is greatest -/
def IsB (c : Int → Nat) (B : List Int) (b : Int) (m : Nat) : Prop := b ∈ B ∧ c b = m ∧ (∀ x ∈ B, c x ≤ m) ∧ ∀ x ∈ B, c x = m → b ≤ x
theorem IsB.uniq {c : Int → Nat} {B : List Int} {b b' : Int} {m m' : Nat} (h : IsB c B b m) (h' : IsB c B b' m') : b = b' ∧ m = m' := by
  obtain ⟨h1, h2, h3, h4⟩ := h
  obtain ⟨k1, k2, k3, k4⟩ := h'
  have e : m = m' := by
    have a := h3 _ k1
    have b := k3 _ h1
    omega
  subst e
  have a := h4 _ k1 k2
  have b := k4 _ h1 h2
  exact ⟨by omega, rfl⟩
theorem fold_b {c : Int → Nat} : ∀ (L : List Int) (b0 : Int × Nat), L.Pairwise (· ≤ ·) → b0.2 ≤ (L.foldl (bstp c) b0).2 ∧ (∀ x ∈ L, c x ≤ (L.foldl (bstp c) b0).2) ∧ (L.foldl (bstp c) b0 = b0 ∨ ((L.foldl (bstp c) b0).1 ∈ L ∧ c (L.foldl (bstp c) b0).1 = (L.foldl (bstp c) b0).2 ∧ b0.2 < (L.foldl (bstp c) b0).2 ∧ ∀ x ∈ L, c x = (L.foldl (bstp c) b0).2 → (L.foldl (bstp c) b0).1 ≤ x))
  | [], b0, _ => ⟨Nat.le_refl _, fun x hx => (by cases hx), .inl rfl⟩
  | x :: L, b0, h => by
    obtain ⟨hx, hL⟩ := List.pairwise_cons.mp h
    obtain ⟨i1, i2, i3⟩ := fold_b (c := c) L (bstp c b0 x) hL
    have e : (x :: L).foldl (bstp c) b0 = L.foldl (bstp c) (bstp c b0 x) := rfl
    rw [e]
    generalize L.foldl (bstp c) (bstp c b0 x) = r at *
    have k : b0.2 ≤ (bstp c b0 x).2 ∧ c x ≤ (bstp c b0 x).2 ∧ (bstp c b0 x = b0 ∨ (bstp c b0 x = (x, c x) ∧ b0.2 < c x)) := by
      unfold bstp
      split
      · exact ⟨by omega, Nat.le_refl _, .inr ⟨rfl, by assumption⟩⟩
      · exact ⟨Nat.le_refl _, by omega, .inl rfl⟩
    obtain ⟨k1, k2, k3⟩ := k
    refine ⟨by omega, fun y hy => ?_, ?_⟩
    · rcases List.mem_cons.mp hy with rfl | hy
      · omega
      · exact i2 y hy
    · rcases i3 with i3 | ⟨j1, j2, j3, j4⟩
      · rcases k3 with k3 | ⟨k3, k4⟩
        · exact .inl (i3.trans k3)
        · rw [k3] at i3
          subst i3
          refine .inr ⟨List.mem_cons_self, rfl, k4, fun y hy _ => ?_⟩
          rcases List.mem_cons.mp hy with rfl | hy
          · exact Int.le_refl _
          · exact hx y hy
      · refine .inr ⟨List.mem_cons_of_mem _ j1, j2, by omega, fun y hy ey => ?_⟩
        rcases List.mem_cons.mp hy with rfl | hy
        · omega
        · exact j4 y hy ey
/-- the program's own way -/
theorem fold_is {c : Int → Nat} {A : List Int} (h0 : ∀ x ∈ A, 0 ≤ x) : IsB c (0 :: A) ((sortI (0 :: A)).foldl (bstp c) (0, 0)).1 ((sortI (0 :: A)).foldl (bstp c) (0, 0)).2 := by
  have hm : ∀ x, x ∈ sortI (0 :: A) ↔ x ∈ 0 :: A := fun x => (sortI_perm _).mem_iff
  obtain ⟨_, h2, h3⟩ := fold_b (c := c) _ (0, 0) (sortI_srt (0 :: A))
  generalize (sortI (0 :: A)).foldl (bstp c) (0, 0) = r at *
  have h2' : ∀ x ∈ 0 :: A, c x ≤ r.2 := fun x hx => h2 x ((hm x).mpr hx)
  rcases h3 with rfl | ⟨j1, j2, j3, j4⟩
  · have c0 : c 0 ≤ 0 := h2' 0 List.mem_cons_self
    refine ⟨List.mem_cons_self, (by show c 0 = 0; omega), h2', fun x hx _ => ?_⟩
    rcases List.mem_cons.mp hx with rfl | hx
    · exact Int.le_refl _
    · exact h0 x hx
  · exact ⟨(hm _).mp j1, j2, h2', fun x hx e => j4 x ((hm x).mpr hx) e⟩
/-- the last one of A up to e -/
theorem last_of : ∀ (A : List Int) (e : Int), (∃ x ∈ A, x ≤ e) → ∃ a ∈ A, a ≤ e ∧ ∀ x ∈ A, x ≤ e → x ≤ a
  | [], _, ⟨x, hx, _⟩ => by cases hx
  | x :: A, e, h => by
    by_cases hA : ∃ y ∈ A, y ≤ e
    · obtain ⟨a, h1, h2, h3⟩ := last_of A e hA
      by_cases hx : x ≤ e ∧ a < x
      · refine ⟨x, List.mem_cons_self, hx.1, fun y hy hy2 => ?_⟩
        rcases List.mem_cons.mp hy with rfl | hy
        · exact Int.le_refl _
        · have := h3 y hy hy2
          omega
      · refine ⟨a, List.mem_cons_of_mem _ h1, h2, fun y hy hy2 => ?_⟩
        rcases List.mem_cons.mp hy with rfl | hy
        · omega
        · exact h3 y hy hy2
    · obtain ⟨y, hy, hy2⟩ := h
      rcases List.mem_cons.mp hy with rfl | hy
      · refine ⟨y, List.mem_cons_self, hy2, fun z hz hz2 => ?_⟩
        rcases List.mem_cons.mp hz with rfl | hz
        · exact Int.le_refl _
        · exact absurd ⟨z, hz, hz2⟩ hA
      · exact absurd ⟨y, hy, hy2⟩ hA
def Wd.cnt (W : Wd) (t : Int) : Nat := (W.uw t).length
theorem cnt_eq (W : Wd) (t : Int) : W.cnt t = W.ts.countP (uwB W t) := by
  unfold Wd.cnt Wd.uw
  rw [List.length_map, List.countP_eq_length_filter]
def Wd.lvs (W : Wd) : List Int := W.ts.map Tr.lv
def Wd.both (W : Wd) : List Int := W.ts.flatMap fun T => [T.lv, (T.lv + T.tk) % (1440 * W.days)]
theorem emod_shift {a w : Int} (h0 : 0 < w) (h1 : -w ≤ a) (h2 : a < 0) : a % w = a + w := by
  have : (a + w) % w = a % w := by rw [Int.add_emod_right]
  rw [← this, Int.emod_eq_of_lt (by omega) (by omega)]
/-- at the last leaving (or 0) ahead of a time there are no fewer -/
theorem cnt_last {W : Wd} (hW : W.ok) {e : Int} (e0 : 0 ≤ e) (e1 : e < 1440 * W.days) : ∃ a ∈ 0 :: W.lvs, a ≤ e ∧ W.cnt e ≤ W.cnt a := by
  obtain ⟨a, h1, h2, h3⟩ := last_of (0 :: W.lvs) e ⟨0, List.mem_cons_self, e0⟩
  have hw := hW.1
  have a0 : 0 ≤ a := h3 0 List.mem_cons_self e0
  refine ⟨a, h1, h2, ?_⟩
  rw [cnt_eq, cnt_eq]
  refine List.countP_mono_left fun T hT q => ?_
  have q : (e - T.lv) % (1440 * W.days) < T.tk := of_decide_eq_true q
  obtain ⟨g1, _, _, g4, _⟩ := hW.2.2.2.2.2.2 T hT
  have g0 := g1.2.2.2.1.1
  refine decide_eq_true ?_
  by_cases hl : T.lv ≤ e
  · have := h3 T.lv (List.mem_cons_of_mem _ (List.mem_map.mpr ⟨T, hT, rfl⟩)) hl
    rw [Int.emod_eq_of_lt (by omega) (by omega)] at q ⊢
    omega
  · rw [emod_shift (by omega) (by omega) (by omega)] at q ⊢
    omega
theorem isB_both {W : Wd} (hW : W.ok) {b : Int} {m : Nat} (h : IsB W.cnt (0 :: W.lvs) b m) : IsB W.cnt (0 :: W.both) b m := by
  obtain ⟨h1, h2, h3, h4⟩ := h
  have hw := hW.1
  have sub : ∀ x ∈ 0 :: W.lvs, x ∈ 0 :: W.both := fun x hx => by
    rcases List.mem_cons.mp hx with rfl | hx
    · exact List.mem_cons_self
    · obtain ⟨T, hT, rfl⟩ := List.mem_map.mp hx
      exact List.mem_cons_of_mem _ (List.mem_flatMap.mpr ⟨T, hT, List.mem_cons_self⟩)
  have rg : ∀ x ∈ 0 :: W.both, 0 ≤ x ∧ x < 1440 * W.days := fun x hx => by
    rcases List.mem_cons.mp hx with rfl | hx
    · omega
    · obtain ⟨T, hT, hx⟩ := List.mem_flatMap.mp hx
      obtain ⟨g1, _, _, g4, _⟩ := hW.2.2.2.2.2.2 T hT
      have g0 := g1.2.2.2.1.1
      rcases List.mem_cons.mp hx with rfl | hx
      · exact ⟨g0, g4⟩
      · rw [List.mem_singleton.mp hx]
        exact ⟨Int.emod_nonneg _ (by omega), Int.emod_lt_of_pos _ (by omega)⟩
  refine ⟨sub b h1, h2, fun x hx => ?_, fun x hx ex => ?_⟩
  · obtain ⟨a, ha, _, hc⟩ := cnt_last hW (rg x hx).1 (rg x hx).2
    have := h3 a ha
    omega
  · obtain ⟨a, ha, hle, hc⟩ := cnt_last hW (rg x hx).1 (rg x hx).2
    have h5 := h3 a ha
    have := h4 a ha (by omega)
    omega
end EL

namespace EL
/-! ### the busiest time: what both tell -/
def bpD (b : Int × Nat) : D := .tup [.int b.1, .int (b.2 : Nat)]
theorem lv_map (W : Wd) : (W.ts.map Tr.obj).map (fun d => match d with
    | .obj 1 [_, _, _, (5, x), _, _] => x
    | d => d) = W.lvs.map .int := by
  unfold Wd.lvs
  rw [List.map_map, List.map_map]
  rfl
theorem busy_w {bs : Nat} {S : Sto} {W : Wd} (hW : W.ok) : ∃ (b : Int) (m : Nat), runF (pgA 13) c_busiest bs [W.tt] S = .val (bpD (b, m)) S ∧ IsB W.cnt (0 :: W.lvs) b m := by
  have hl := hW.2.2.2.2.1
  have hw := hW.1
  have lr : ∀ x ∈ W.lvs, 0 ≤ x ∧ x < 1440 * W.days := fun x hx => by
    obtain ⟨T, hT, rfl⟩ := List.mem_map.mp hx
    obtain ⟨g1, _, _, g4, _⟩ := hW.2.2.2.2.2.2 T hT
    exact ⟨g1.2.2.2.1.1, g4⟩
  refine ⟨_, _, ?_, fold_is (c := W.cnt) fun x hx => (lr x hx).1⟩
  refine val_of ?_
  unfold Ret
  rw [run_fin rfl]
  have hln : W.lvs.length ≤ 12 := by unfold Wd.lvs; rw [List.length_map]; exact hl
  have hs : (sortI (0 :: W.lvs)).length = W.lvs.length + 1 := (sortI_perm _).length_eq
  have hm : ∀ x ∈ sortI (0 :: W.lvs), 0 ≤ x ∧ x < 1440 * W.days := fun x hx => by
    rcases List.mem_cons.mp ((sortI_perm _).mem_iff.mp hx) with rfl | hx
    · omega
    · exact lr x hx
  simp [c_busiest, s_busiest_2, x_busiest_1, tt_get, tt_m, trains_t]
  rw [comp_map1 (W.ts.map Tr.obj) (fun d => match d with
    | .obj 1 [_, _, _, (5, x), _, _] => x
    | d => d) (by simp; omega) (fun i => it_seq (.inl rfl) i) (fun d hd => by
      obtain ⟨T, _, rfl⟩ := List.mem_map.mp hd
      exact ⟨_, by simp; rfl, by simp, by simp [tr_get, tr_m, get_lv]; rfl⟩), lv_map]
  simp
  rw [bin_catl (xs := [.int 0]) (ys := W.lvs.map .int) rfl rfl (by simp; omega)]
  simp
  rw [show (D.int 0 :: W.lvs.map D.int) = ((0 :: W.lvs).map D.int) from rfl, srtG_int (by simp; omega)]
  simp
  refine loop_wp ((sortI (0 :: W.lvs)).map .int) (fun i l S' => S = S' ∧ ∃ a b c, l = [some W.tt, some (bpD (((sortI (0 :: W.lvs)).take i).foldl (bstp W.cnt) (0, 0))), a, b, c]) (by simp; omega) (fun i l S' q => it_seq (.inl rfl) i) ?_ ?_ ⟨rfl, _, _, _, rfl⟩
  · rintro i x l _ hx ⟨rfl, a, b, c, rfl⟩
    have hlt : i < (sortI (0 :: W.lvs)).length := by
      have := (List.getElem?_eq_some_iff.mp hx).1
      simpa using this
    have e : x = .int (sortI (0 :: W.lvs))[i] := by
      rw [List.getElem?_map, List.getElem?_eq_getElem hlt] at hx
      exact (Option.some.inj hx).symm
    subst e
    have hr := hm _ (List.getElem_mem hlt)
    have et : (sortI (0 :: W.lvs)).take (i + 1) = (sortI (0 :: W.lvs)).take i ++ [(sortI (0 :: W.lvs))[i]] := by
      rw [List.take_succ, List.getElem?_eq_getElem hlt]; rfl
    rw [et, List.foldl_append]
    generalize ((sortI (0 :: W.lvs)).take i).foldl (bstp W.cnt) (0, 0) = r
    generalize (sortI (0 :: W.lvs))[i] = t at *
    have hu : (W.uw t).length = W.cnt t := rfl
    have fo : [t].foldl (bstp W.cnt) r = bstp W.cnt r t := rfl
    rw [fo]
    have i1 : idxG (bpD r) (.int 1) = some (.int (r.2 : Nat)) := rfl
    have g1 : ∀ S, EL.get S (bpD r) = bpD r := fun _ => rfl
    simp [uw_w hW hr.1 hr.2, hu, i1, g1]
    refine Br.mk (fun hq => ?_) fun hq => ?_
    · have hq : r.2 < W.cnt t := by simpa using hq
      simp [bstp, hq, bpD]
    · have hq : ¬ r.2 < W.cnt t := by simpa using hq
      simp [bstp, hq]
  · rintro l _ ⟨rfl, a, b, c, rfl⟩
    rw [List.length_map, List.take_length]
    simp
    rw [exit_nc rfl]
    exact ⟨rfl, rfl, by simp⟩
theorem lbusy_w {bs : Nat} {S : Sto} {W : Wd} {kn : List (List Nat)} (hW : W.ok) : ∃ (b : Int) (m : Nat), runF (pgA 38) c__law_busiest bs [W.d kn] S = .val (bpD (b, m)) S ∧ IsB W.cnt (0 :: W.both) b m := by
  have hl := hW.2.2.2.2.1
  have hw := hW.1
  have m2 : ∀ (b : Bool) (S : Sto), binD b .mul (.int 1440) (.int W.days) S = .ok (.int (1440 * W.days)) S := fun b S => bin_mul (.inl (by decide))
  have hm : ∀ b x (S : Sto), binD b .mod (.int x) (.int (1440 * W.days)) S = .ok (.int (x % (1440 * W.days))) S := fun b x S => bin_mod (by omega)
  have hb : ∀ n, ((W.ts.take n).flatMap fun T => [T.lv, (T.lv + T.tk) % (1440 * W.days)]).length = 2 * (W.ts.take n).length := fun n => by
    generalize W.ts.take n = L
    induction L with
    | nil => rfl
    | cons a L ih => rw [List.flatMap_cons, List.length_append, ih]; simp; omega
  have hbl : W.both.length ≤ 24 := by
    have := hb W.ts.length
    rw [List.take_length] at this
    unfold Wd.both
    omega
  -- the greatest
  obtain ⟨mm, hmm, hmx1, hmx2⟩ : ∃ m : Nat, mxI (W.cnt 0 : Nat) (W.both.map fun x => (W.cnt x : Int)) = (m : Int) ∧ (∃ x ∈ 0 :: W.both, W.cnt x = m) ∧ ∀ x ∈ 0 :: W.both, W.cnt x ≤ m := by
    obtain ⟨h1, h2⟩ := mxI_is (W.both.map fun x => (W.cnt x : Int)) (W.cnt 0 : Nat)
    have e : ((W.cnt 0 : Nat) : Int) :: (W.both.map fun x => (W.cnt x : Int)) = (0 :: W.both).map fun x => (W.cnt x : Int) := rfl
    rw [e] at h1 h2
    obtain ⟨x, hx, ex⟩ := List.mem_map.mp h1
    refine ⟨W.cnt x, ex.symm, ⟨x, hx, rfl⟩, fun y hy => ?_⟩
    have := h2 _ (List.mem_map.mpr ⟨y, hy, rfl⟩)
    rw [← ex] at this
    exact Int.ofNat_le.mp this
  have hne : (0 :: W.both).filter (fun x => decide (W.cnt x = mm)) ≠ [] := fun e => by
    obtain ⟨x, hx, ex⟩ := hmx1
    have : x ∈ (0 :: W.both).filter (fun x => decide (W.cnt x = mm)) := List.mem_filter.mpr ⟨hx, decide_eq_true ex⟩
    rw [e] at this
    cases this
  obtain ⟨f0, fr, ef⟩ := List.exists_cons_of_ne_nil hne
  obtain ⟨n1, n2⟩ := mnI_is fr f0
  rw [← ef] at n1 n2
  refine ⟨mnI f0 fr, mm, ?_, (List.mem_filter.mp n1).1, of_decide_eq_true (List.mem_filter.mp n1).2, hmx2, fun x hx e => n2 x (List.mem_filter.mpr ⟨hx, decide_eq_true e⟩)⟩
  refine val_of ?_
  unfold Ret
  rw [run_fin rfl]
  simp [c__law_busiest, wd_get, wd_days, m2, s__law_busiest_1, wd_trains]
  refine ws_go (I := fun l S' => S = S' ∧ ∃ a, l = [some (W.d kn), some (.int (1440 * W.days)), some (.lst ((0 :: W.both).map .int)), a, none, none]) ?_ ?_
  · refine loop_wp (W.ts.map Tr.tup) (fun i l S' => S = S' ∧ ∃ a, l = [some (W.d kn), some (.int (1440 * W.days)), some (.lst ((0 :: (W.ts.take i).flatMap fun T => [T.lv, (T.lv + T.tk) % (1440 * W.days)]).map .int)), a, none, none]) (by simp; omega) (fun i l S' q => it_seq (.inl rfl) i) ?_ ?_ ⟨rfl, _, rfl⟩
    · rintro i x l _ hx ⟨rfl, a, rfl⟩
      have hlt : i < W.ts.length := by
        have := (List.getElem?_eq_some_iff.mp hx).1
        simpa using this
      have e : x = W.ts[i].tup := by
        rw [List.getElem?_map, List.getElem?_eq_getElem hlt] at hx
        exact (Option.some.inj hx).symm
      subst e
      have et : W.ts.take (i + 1) = W.ts.take i ++ [W.ts[i]] := by
        rw [List.take_succ, List.getElem?_eq_getElem hlt]; rfl
      have hbi := hb i
      have htl : (W.ts.take i).length ≤ 12 := by rw [List.length_take]; omega
      rw [et, List.flatMap_append]
      generalize (W.ts.take i).flatMap (fun T => [T.lv, (T.lv + T.tk) % (1440 * W.days)]) = L at *
      simp [tup_get, tup_3, tup_5, hm]
      rw [bin_catl (xs := .int 0 :: L.map .int) (ys := [.int W.ts[i].lv, .int ((W.ts[i].lv + W.ts[i].tk) % (1440 * W.days))]) rfl rfl (by simp; omega)]
      simp
    · rintro l _ ⟨rfl, q⟩
      rw [List.length_map, List.take_length] at q
      exact ⟨rfl, q⟩
  · rintro l _ ⟨rfl, a, rfl⟩
    simp [x__law_busiest_2, x__law_busiest_3]
    have c1 : ∀ (C : Loc → Sto → R Bool) (l0 : Loc) (hC : ∀ l, C l S = .ok true S) (h0 : l0[0]? = some (some (W.d kn))) (h5 : 5 < l0.length),
        compG (.v 5) l0 C (evE ⟨pgA 38, S.length, []⟩ (.bf false .len [(.call false 37 [(.var 0), (.var 5)])])) 0 [.lst ((0 :: W.both).map .int)] fuel 0 [] S = .ok (((0 :: W.both).map fun x => (W.cnt x : Int)).map .int) S := fun C l0 hC h0 h5 => by
      rw [comp_map1 ((0 :: W.both).map .int) (fun d => match d with
        | .int t => .int (W.cnt t : Nat)
        | d => d) (by simp; omega) (fun i => it_seq (.inl rfl) i) (fun d hd => by
          obtain ⟨x, _, rfl⟩ := List.mem_map.mp hd
          refine ⟨_, by simp; rfl, hC _, ?_⟩
          have h0' : (l0.set 5 (some (.int x)))[0]? = some (some (W.d kn)) := by rw [List.getElem?_set_ne (by decide)]; exact h0
          simp [h0', h5, luw_w hW]
          rfl)]
      rw [List.map_map, List.map_map]
      rfl
    have c2 : ∀ (l0 : Loc) (h0 : l0[0]? = some (some (W.d kn))) (h4 : l0[4]? = some (some (.int mm))) (h5 : 5 < l0.length),
        compG (.v 5) l0 (evTs ⟨pgA 38, S.length, []⟩ [(.b (.cmp .eq (.bf false .len [(.call false 37 [(.var 0), (.var 5)])]) (.var 4)))]) (evE ⟨pgA 38, S.length, []⟩ (.var 5)) 0 [.lst ((0 :: W.both).map .int)] fuel 0 [] S = .ok (((0 :: W.both).filter (fun x => decide (W.cnt x = mm))).map .int) S := fun l0 h0 h4 h5 => by
      rw [comp_map ((0 :: W.both).map .int) (fun d => match d with
        | .int t => decide (W.cnt t = mm)
        | d => false) (fun d => d) (by simp; omega) (fun i => it_seq (.inl rfl) i) (fun d hd => by
          obtain ⟨x, _, rfl⟩ := List.mem_map.mp hd
          have h0' : (l0.set 5 (some (.int x)))[0]? = some (some (W.d kn)) := by rw [List.getElem?_set_ne (by decide)]; exact h0
          have h4' : (l0.set 5 (some (.int x)))[4]? = some (some (.int mm)) := by rw [List.getElem?_set_ne (by decide)]; exact h4
          refine ⟨_, by simp; rfl, ?_, fun _ => ?_⟩
          · simp [h0', h4', h5, luw_w hW]
            exact Int.ofNat_inj
          · simp [h5])]
      rw [List.filter_map, List.map_id']
      rfl
    rw [show (D.int 0 :: W.both.map D.int) = ((0 :: W.both).map D.int) from rfl]
    rw [c1 _ _ (fun l => by simp) (by simp) (by simp)]
    have mx := fun b S => b_max1 (b := b) (S := S) (i := (W.cnt 0 : Nat)) (ns := W.both.map fun x => (W.cnt x : Int))
    rw [hmm] at mx
    simp only [List.map_cons, List.map_map] at mx ⊢
    simp [mx, -List.map_cons]
    rw [c2 _ (by simp) (by simp) (by simp), ef]
    simp only [w_ok, bind_ok, mkF_f, b_min1, es_cons, es_nil, w_bind]
    simp
    rw [exit_nc rfl]
    exact ⟨rfl, rfl, by simp⟩
end EL

namespace EL
/-! ### what is no time -/
def NoT (W : Wd) (S : Sto) (x : D) : Prop := ∀ bs, runF (pgA 0) c_is_whole bs [x, .int 0, .int (1440 * W.days - 1)] S = .val (.bl false) S
theorem needx_w {bs : Nat} {S : Sto} {W : Wd} {x : D} (hq : NoT W S x) (hb : bnd S.length x = true) : runF (pgA 6) c_need_time bs [W.tt, x] S = .ex 4 [(11, x)] S := by
  have hq := hq S.length
  rw [run_fin rfl]
  simp [c_need_time, tt_get, tt_m, span_t, hq]
  rw [exitX_1 hb]
theorem uwx_w {bs : Nat} {S : Sto} {W : Wd} {x : D} (hq : NoT W S x) (hb : bnd S.length x = true) : runF (pgA 12) c_under_way bs [W.tt, x] S = .ex 4 [(11, x)] S := by
  rw [run_fin rfl]
  simp [c_under_way, needx_w hq hb]
  rw [exitX_1 hb]
theorem rep_same {S : Sto} {x : D} (h : ∃ t, reprD S x = some t) : ∃ t, reprD S x = some t ∧ True := h.imp fun _ q => ⟨q, trivial⟩
theorem refused_a {bs : Nat} {S : Sto} {W : Wd} {x : D} (hq : NoT W S x) (hb : bnd S.length x = true) (h1 : ∀ s, tyD s .list (EL.get S x) = some false) (h2 : ∀ s, tyD s .dict (EL.get S x) = some false) (hr : ∃ t, reprD S (.lst [x]) = some t) : runF (pgA 39) c__law_refused bs [W.tt, x] S = .val (.bl true) S := by
  obtain ⟨t, hr⟩ := hr
  refine val_of ?_
  unfold Ret
  rw [run_fin rfl]
  simp [c__law_refused, uwx_w hq hb, h1, h2, hr]
theorem refused_l {bs n : Nat} {S : Sto} {W : Wd} (hs : S[n]? = some (.lst [.int 0])) : Ret (runF (pgA 39) c__law_refused bs [W.tt, .cell n] S) fun d S' => d = .bl true ∧ S' = S.set n (.lst [.int 0, .str [109, 111, 114, 101]]) := by
  have hn : n < S.length := lt_at hs
  have hs2 : S[n] = .lst [.int 0] := (List.getElem?_eq_some_iff.mp hs).2
  have hb : bnd S.length (.cell n) = true := decide_eq_true hn
  have hq : NoT W S (.cell n) := fun bs => by
    rw [run_fin rfl]
    simp [c_is_whole, hs]
  obtain ⟨t, hr⟩ : ∃ t, reprD (S.set n (.lst [.int 0, .str [109, 111, 114, 101]])) (.lst [.cell n]) = some t := by
    refine repr_of (p := .list [.list [.int 0, .str ⟨#[109, 111, 114, 101]⟩]]) ?_ (by decide) (by decide)
    simp [toP, toPW, toPWs, hn]
  unfold Ret
  rw [run_fin rfl]
  simp [c__law_refused, uwx_w hq hb, hs]
  rw [app_lst hs (by decide) (may_nc rfl)]
  simp [hn, hr]
theorem refused_d {bs n : Nat} {S : Sto} {W : Wd} (hs : S[n]? = some (.dK [])) : Ret (runF (pgA 39) c__law_refused bs [W.tt, .cell n] S) fun d S' => d = .bl true ∧ S' = S.set n (.dK [(.s [109, 111, 114, 101], .int 1)]) := by
  have hn : n < S.length := lt_at hs
  have hb : bnd S.length (.cell n) = true := decide_eq_true hn
  have hq : NoT W S (.cell n) := fun bs => by
    rw [run_fin rfl]
    simp [c_is_whole, hs]
  obtain ⟨t, hr⟩ : ∃ t, reprD (S.set n (.dK [(.s [109, 111, 114, 101], .int 1)])) (.lst [.cell n]) = some t := by
    refine repr_of (p := .list [.dict [(.str ⟨#[109, 111, 114, 101]⟩, .int 1)]]) ?_ (by decide) (by decide)
    simp [toP, toPW, toPWs, toPWK, kyP, hn]
  have hsub : ∀ bs, subD bs (.cell n) (.str [109, 111, 114, 101]) (.int 1) S = some (S.set n (.dK [(.s [109, 111, 114, 101], .int 1)])) := fun bs => by
    simp [subD, hs, kyOf, may_nc (show nc (.int 1) = true from rfl), big, dput, setC]
  unfold Ret
  rw [run_fin rfl]
  simp [c__law_refused, uwx_w hq hb, hs, hsub]
  simp [hr]
theorem Sm1.rep1 {d : D} (h : wD d ≤ 90000) (h2 : dD d ≤ 30) : ∃ t, ∀ S, reprD S (.lst [d]) = some t := by
  obtain ⟨t, h, _⟩ := (Sm1.of (d := .lst [d]) (by simp; omega) (by simp; omega)).rp
  exact ⟨t, h⟩
/-- any of the odd things -/
theorem refused_odd {bs : Nat} {S : Sto} {W : Wd} {y : Int} (hW : W.ok) (y0 : 0 ≤ y) (y1 : y < 11) :
    ∃ x, idxG (.lst [.int (-1), .int (1440 * W.days), .non, .bl true, .bl false, .str [48, 46, 48, 48, 46, 48, 48], .cell S.length, .tup [.int 0], .cell (S.length + 1), .int 100000000000000000000000000000, .tup [.cell (S.length + 2)]]) (.int y) = some x ∧
    Ret (runF (pgA 39) c__law_refused bs [W.tt, x] (S ++ [.lst [.int 0], .dK [], .lst [.int 0]])) fun d S' => d = .bl true ∧ ∃ B, S' = S ++ B := by
  have hd := hW.1
  have hd7 := hW.2.1
  have val : ∀ {x : D}, runF (pgA 39) c__law_refused bs [W.tt, x] (S ++ [.lst [.int 0], .dK [], .lst [.int 0]]) = .val (.bl true) (S ++ [.lst [.int 0], .dK [], .lst [.int 0]]) → Ret (runF (pgA 39) c__law_refused bs [W.tt, x] (S ++ [.lst [.int 0], .dK [], .lst [.int 0]])) fun d S' => d = .bl true ∧ ∃ B, S' = S ++ B := fun h => by
    rw [h]
    exact ⟨rfl, rfl, _, rfl⟩
  have num : ∀ i : Int, (i < 0 ∨ 1440 * W.days ≤ i) → i.natAbs < 10000000000000000000000000000000000000000 → runF (pgA 39) c__law_refused bs [W.tt, .int i] (S ++ [.lst [.int 0], .dK [], .lst [.int 0]]) = .val (.bl true) (S ++ [.lst [.int 0], .dK [], .lst [.int 0]]) := fun i hi hi2 => by
    refine refused_a (fun bs => ?_) rfl (fun s => rfl) (fun s => rfl) ?_
    · rw [whole_w]
      have : (decide (0 ≤ i) && decide (i ≤ 1440 * W.days - 1)) = false := by
        rw [Bool.and_eq_false_iff, decide_eq_false_iff_not, decide_eq_false_iff_not]
        omega
      rw [this]
    · obtain ⟨t, h⟩ := Sm1.rep1 (d := .int i) (by rw [wD_int hi2]; decide) (by rw [dD_int]; decide)
      exact ⟨t, h _⟩
  obtain rfl | rfl | rfl | rfl | rfl | rfl | rfl | rfl | rfl | rfl | rfl : y = 0 ∨ y = 1 ∨ y = 2 ∨ y = 3 ∨ y = 4 ∨ y = 5 ∨ y = 6 ∨ y = 7 ∨ y = 8 ∨ y = 9 ∨ y = 10 := by omega
  · exact ⟨_, rfl, val (num _ (by omega) (by decide))⟩
  · exact ⟨_, rfl, val (num _ (by omega) (by omega))⟩
  · refine ⟨_, rfl, val (refused_a (fun bs => ?_) rfl (fun s => rfl) (fun s => rfl) ?_)⟩
    · generalize S ++ [D.lst [.int 0], .dK [], .lst [.int 0]] = T
      rw [run_fin rfl]
      simp [c_is_whole]
    · obtain ⟨t, h⟩ := Sm1.rep1 (d := .non) (by decide) (by decide)
      exact ⟨t, h _⟩
  · refine ⟨_, rfl, val (refused_a (fun bs => ?_) rfl (fun s => rfl) (fun s => rfl) ?_)⟩
    · generalize S ++ [D.lst [.int 0], .dK [], .lst [.int 0]] = T
      rw [run_fin rfl]
      simp [c_is_whole]
    · obtain ⟨t, h⟩ := Sm1.rep1 (d := .bl true) (by decide) (by decide)
      exact ⟨t, h _⟩
  · refine ⟨_, rfl, val (refused_a (fun bs => ?_) rfl (fun s => rfl) (fun s => rfl) ?_)⟩
    · generalize S ++ [D.lst [.int 0], .dK [], .lst [.int 0]] = T
      rw [run_fin rfl]
      simp [c_is_whole]
    · obtain ⟨t, h⟩ := Sm1.rep1 (d := .bl false) (by decide) (by decide)
      exact ⟨t, h _⟩
  · refine ⟨_, rfl, val (refused_a (fun bs => ?_) rfl (fun s => rfl) (fun s => rfl) ?_)⟩
    · generalize S ++ [D.lst [.int 0], .dK [], .lst [.int 0]] = T
      rw [run_fin rfl]
      simp [c_is_whole]
    · obtain ⟨t, h⟩ := Sm1.rep1 (d := .str [48, 46, 48, 48, 46, 48, 48]) (by decide) (by decide)
      exact ⟨t, h _⟩
  · have h := refused_l (bs := bs) (W := W) (n := S.length) (S := S ++ [.lst [.int 0], .dK [], .lst [.int 0]]) (by simp)
    refine ⟨_, rfl, ?_⟩
    obtain ⟨d, S', e, rfl, rfl⟩ := h.eq
    rw [e]
    exact ⟨rfl, rfl, _, app_set0⟩
  · refine ⟨_, rfl, val (refused_a (fun bs => ?_) rfl (fun s => rfl) (fun s => rfl) ?_)⟩
    · generalize S ++ [D.lst [.int 0], .dK [], .lst [.int 0]] = T
      rw [run_fin rfl]
      simp [c_is_whole]
    · obtain ⟨t, h⟩ := Sm1.rep1 (d := .tup [.int 0]) (by decide) (by decide)
      exact ⟨t, h _⟩
  · have h := refused_d (bs := bs) (W := W) (n := S.length + 1) (S := S ++ [.lst [.int 0], .dK [], .lst [.int 0]]) (by simp)
    refine ⟨_, rfl, ?_⟩
    obtain ⟨d, S', e, rfl, rfl⟩ := h.eq
    rw [e]
    exact ⟨rfl, rfl, _, app_setk⟩
  · exact ⟨_, rfl, val (num _ (by omega) (by decide))⟩
  · refine ⟨_, rfl, val (refused_a (fun bs => ?_) (by show (decide (S.length + 2 < _) && true) = true; simp) (fun s => rfl) (fun s => rfl) ?_)⟩
    · generalize S ++ [D.lst [.int 0], .dK [], .lst [.int 0]] = T
      rw [run_fin rfl]
      simp [c_is_whole]
    · refine repr_of (p := .list [.tuple [.list [.int 0]]]) ?_ (by decide) (by decide)
      simp [toP, toPW, toPWs]
end EL

namespace EL
/-! ### times -/
theorem times_w {bs p : Nat} {S : Sto} {v : D} {k : Int} {W : Wd} {kn : List (List Nat)} (hbs : bs ≤ S.length) (h : S[p]? = some v) (hv : PV v k) (hk : k + 100 < 1000000) (hW : W.ok) :
    Fre (runF (pgA 40) c__law_times bs [.cell p, W.d kn] S) fun d S' => ∃ xs : List Int, d = .lst (xs.map .int) ∧ xs.length ≤ 9 ∧ (∀ x ∈ xs, 0 ≤ x ∧ x < 1440 * W.days) ∧ ∃ w, PV w (k + 20) ∧ S' = S.set p w := by
  have hp := lt_at h
  have hl := hW.2.2.2.2.1
  have hw := hW.1
  have hw7 := hW.2.1
  have m2 : ∀ (b : Bool) (S : Sto), binD b .mul (.int 1440) (.int W.days) S = .ok (.int (1440 * W.days)) S := fun b S => bin_mul (.inl (by decide))
  have hm : ∀ b x (S : Sto), binD b .mod (.int x) (.int (1440 * W.days)) S = .ok (.int (x % (1440 * W.days))) S := fun b x S => bin_mod (by omega)
  unfold Fre
  rw [run_fin rfl]
  simp [-idxG_l, c__law_times, wd_get, wd_days, m2]
  refine (take_w (m := 1440 * W.days) h hv (by omega) (by omega) (by omega)).call ?_
  rintro _ _ ⟨z, w, rfl, z0, z1, hw, rfl⟩
  simp [-idxG_l, s__law_times_1, wd_get, wd_trains]
  rw [ne_nil]
  obtain ⟨n, hn1, hn2, hn3⟩ : ∃ n : Nat, n ≤ 6 ∧ (n = 0 ∨ W.ts ≠ []) ∧ (6 : Int) * (if (!(W.ts.map Tr.tup).isEmpty) = true then (1 : Int) else 0) = n := by
    by_cases h1 : W.ts = []
    · exact ⟨0, by omega, .inl rfl, by simp [h1]⟩
    · exact ⟨6, by omega, .inr h1, by simp [h1]⟩
  have hmul : ∀ S : Sto, binD false .mul (.int 6) (.int (if (!(W.ts.map Tr.tup).isEmpty) = true then (1 : Int) else 0)) S = .ok (.int (6 * (if (!(W.ts.map Tr.tup).isEmpty) = true then (1 : Int) else 0))) S := fun S => bin_mul (.inl (by decide))
  simp only [map_bl, optR_some, w_ok, es_cons, es_nil, bind_ok, w_bind, b_int_bl]
  rw [hmul, hn3]
  simp [-idxG_l]
  refine loop_wp (rng 0 n) (fun i l S' => ∃ (a b : Option D) (w : D) (xs : List Int), l = [some (.cell p), some (W.d kn), some (.int (1440 * W.days)), some (.cell S.length), a, b] ∧ xs.length = 3 + i ∧ (∀ x ∈ xs, 0 ≤ x ∧ x < 1440 * W.days) ∧ PV w (k + 1 + 2 * i) ∧ S' = S.set p w ++ [.lst (xs.map .int)]) (by rw [rng_len]; omega) (fun i l S' q => it_rngN (by omega)) ?_ ?_ ⟨_, _, w, [0, 1440 * W.days - 1, z], rfl, rfl, fun x hx => ?_, hw.mono (by omega), rfl⟩
  · rintro i x l _ hx ⟨a, b, w, xs, rfl, hxl, hxs, hw, rfl⟩
    obtain ⟨rfl, hi⟩ := rng_at hx
    have hne := hn2.resolve_left (by omega)
    have hl0 : 0 < W.ts.length := List.length_pos_iff.mpr hne
    simp [-idxG_l, wd_get, wd_trains]
    refine (take_w (m := (W.ts.length : Nat)) (set_app_at hp) hw (by omega) (by omega) (by omega)).call ?_
    rintro _ _ ⟨j, w, rfl, j0, j1, hw, rfl⟩
    obtain ⟨j', hj, ej⟩ : ∃ j' : Nat, j' < W.ts.length ∧ (j' : Int) = j := ⟨j.toNat, by omega, by omega⟩
    subst ej
    have hix : idxG (.lst (W.ts.map Tr.tup)) (.int (j' : Int)) = some W.ts[j'].tup := by
      rw [idxG_lst (by omega) (by simpa using hj)]
      simp
    simp [-idxG_l, hp, hix, tup_get, tup_3, tup_5]
    refine (take_w (set_app_at hp) hw (by omega) (by decide) (by decide)).call ?_
    rintro _ _ ⟨y, w, rfl, y0, y1, hw, rfl⟩
    obtain ⟨c, ec⟩ : ∃ c : Int, idxG (.lst [.int 0, .int W.ts[j'].tk, .int (W.ts[j'].tk - 1), .int (-1), .int 1]) (.int y) = some (.int c) := by
      obtain rfl | rfl | rfl | rfl | rfl : y = 0 ∨ y = 1 ∨ y = 2 ∨ y = 3 ∨ y = 4 := by omega <;> exact ⟨_, rfl⟩
      all_goals exact ⟨_, rfl⟩
    simp [-idxG_l, hp, ec, hm]
    rw [app_lst (xs := xs.map .int)]
    rotate_left
    · simp
    · simp; omega
    · exact may_nc rfl
    simp
    refine ⟨w, xs ++ [(W.ts[j'].lv + c) % (1440 * W.days)], by simp; omega, fun x hx => ?_, hw.mono (by omega), by simp⟩
    rcases List.mem_append.mp hx with hx | hx
    · exact hxs x hx
    · rw [List.mem_singleton.mp hx]
      exact ⟨Int.emod_nonneg _ (by omega), Int.emod_lt_of_pos _ (by omega)⟩
  · rintro l _ ⟨a, b, w, xs, rfl, hxl, hxs, hw, rfl⟩
    rw [rng_len] at hxl hw
    simp
    rw [exit_new (c := .lst (xs.map .int)) (by simp) (by simp) rfl (ncs_all.mpr fun d hd => by
      obtain ⟨x, _, rfl⟩ := List.mem_map.mp hd
      rfl)]
    simp
    exact ⟨xs, rfl, by omega, hxs, w, hw.mono (by omega), rfl⟩
  · simp only [List.mem_cons, List.not_mem_nil, or_false] at hx
    rcases hx with rfl | rfl | rfl <;> omega
theorem rev_lst {bs n : Nat} {S : Sto} {xs : List D} (h : S[n]? = some (.lst xs)) : mmD bs .reverse (.cell n) [] S = .ok .non (S.set n (.lst xs.reverse)) := by
  simp only [mmD, h]
  rfl
theorem nms_sm {xs : List (List Nat)} (h : ∀ x ∈ xs, Nm x) (hl : xs.length ≤ 20) : Sm1 (.lst (xs.map .str)) ∧ nd (.lst (xs.map .str)) = true := by
  have a1 := wDs_le (xs := xs.map D.str) (m := 62) fun d hd => by
    obtain ⟨x, hx, rfl⟩ := List.mem_map.mp hd
    exact wD_nm (h x hx)
  have a2 := dDs_le (xs := xs.map D.str) (m := 0) fun d hd => by
    obtain ⟨x, hx, rfl⟩ := List.mem_map.mp hd
    exact Nat.le_refl _
  have a3 : xs.length * 64 ≤ 20 * 64 := Nat.mul_le_mul_right _ hl
  rw [List.length_map] at a1
  refine ⟨⟨by rw [wD_lst]; omega, by rw [dD_lst]; omega⟩, nds_all.mpr fun d hd => ?_⟩
  obtain ⟨x, hx, rfl⟩ := List.mem_map.mp hd
  rfl
theorem uw_nm {W : Wd} (hW : W.ok) (t : Int) : (∀ x ∈ W.uw t, Nm x) ∧ (W.uw t).length ≤ 12 := by
  refine ⟨fun x hx => ?_, ?_⟩
  · obtain ⟨T, hT, rfl⟩ := List.mem_map.mp hx
    exact (Wd.trs hW T (List.mem_filter.mp hT).1).1
  · unfold Wd.uw
    rw [List.length_map]
    exact Nat.le_trans (List.length_filter_le _ _) hW.2.2.2.2.1
theorem bp_rep {W : Wd} (hW : W.ok) {b : Int} {m : Nat} (h : IsB W.cnt (0 :: W.lvs) b m) : ∃ t, ∀ S, reprD S (bpD (b, m)) = some t := by
  have hw7 := hW.2.1
  have hb : b.natAbs < 10000000000000000000000000000000000000000 := by
    rcases List.mem_cons.mp h.1 with rfl | hb
    · decide
    · obtain ⟨T, hT, rfl⟩ := List.mem_map.mp hb
      have := (Wd.trs hW T hT).2.2.2.1
      omega
  have hm : (m : Int).natAbs < 10000000000000000000000000000000000000000 := by
    have : W.cnt b ≤ 12 := (uw_nm hW b).2
    have := h.2.1
    omega
  obtain ⟨t, h, _⟩ := (Sm1.of (d := bpD (b, m)) (by
    unfold bpD
    simp only [wD_tup, wDs_cons, wDs_nil]
    rw [wD_int hb, wD_int hm]
    decide) (by
    unfold bpD
    simp only [dD_tup, dDs_cons, dDs_nil, dD_int]
    decide)).rp
  exact ⟨t, h⟩
theorem right_w {bs : Nat} {S : Sto} {W : Wd} {kn : List (List Nat)} {xs : List Int} (hW : W.ok) (hl : xs.length ≤ 9) (hx : ∀ x ∈ xs, 0 ≤ x ∧ x < 1440 * W.days) :
    runF (pgA 41) c__law_right bs [W.tt, W.d kn, .lst (xs.map .int)] S = .val (.bl true) S := by
  refine val_of ?_
  obtain ⟨b, m, _, hB⟩ := busy_w (bs := 0) (S := []) hW
  have e1 : ∀ bs S, runF (pgA 13) c_busiest bs [W.tt] S = .val (bpD (b, m)) S := fun bs S => by
    obtain ⟨b', m', e, h'⟩ := busy_w (bs := bs) (S := S) hW
    obtain ⟨rfl, rfl⟩ := hB.uniq h'
    exact e
  have e2 : ∀ bs S, runF (pgA 38) c__law_busiest bs [W.d kn] S = .val (bpD (b, m)) S := fun bs S => by
    obtain ⟨b', m', e, h'⟩ := lbusy_w (bs := bs) (S := S) (kn := kn) hW
    obtain ⟨rfl, rfl⟩ := (isB_both hW hB).uniq h'
    exact e
  have hc : ∀ x ∈ xs, W.cnt x ≤ m := fun x h => by
    obtain ⟨a, h1, _, h2⟩ := cnt_last hW (hx x h).1 (hx x h).2
    have := hB.2.2.1 a h1
    omega
  obtain ⟨t, ht⟩ := bp_rep hW hB
  unfold Ret
  rw [run_fin rfl]
  simp [c__law_right, e2, s__law_right_2]
  refine loop_wp (rng 0 2) (fun i l S' => ∃ a b c B, S' = S ++ B ∧ l = [some W.tt, some (W.d kn), some (.lst (xs.map .int)), some (bpD (_, m)), a, b, c]) (by rw [rng_len]; omega) (fun i l S' q => it_rng (by decide)) ?_ ?_ ⟨_, _, _, [], by simp, rfl⟩
  · rintro i x l _ hi ⟨a, u, c, B, rfl, rfl⟩
    simp [e1, ht, s__law_right_1]
    refine loop_wp (xs.map .int) (fun i l S' => ∃ a u c B, S' = S ++ B ∧ l = [some W.tt, some (W.d kn), some (.lst (xs.map .int)), some (bpD (b, m)), a, u, c]) (by simp; omega) (fun i l S' q => it_seq (.inl rfl) i) ?_ ?_ ⟨_, _, _, B, rfl, rfl⟩
    · rintro j y l _ hy ⟨a, u, c, B, rfl, rfl⟩
      obtain ⟨t0, ht0, rfl⟩ := List.mem_map.mp (List.mem_of_getElem? hy)
      obtain ⟨g0, g1⟩ := hx t0 ht0
      have hct := hc t0 ht0
      have hcn : ¬ ((m : Int) < ((W.uw t0).length : Nat)) := by
        have : (W.uw t0).length = W.cnt t0 := rfl
        omega
      obtain ⟨n1, n2⟩ := uw_nm hW t0
      obtain ⟨s1, s2⟩ := nms_sm n1 (by omega)
      obtain ⟨T, hT⟩ : ∃ T, S ++ B = T := ⟨_, rfl⟩
      rw [hT]
      have hne : cmpD .ne (T ++ [.lst ((W.uw t0).map .str)]) (.cell T.length) (.lst ((W.uw t0).map .str)) = some false := ne_me (get_at (by simp)) rfl (Lv.at (by simp)) Lv.lst s1 s2 (fun i e => by cases e) (fun i e => by cases e)
      have i1 : idxG (bpD (b, m)) (.int 1) = some (.int (m : Nat)) := rfl
      have g2 : ∀ S, EL.get S (bpD (b, m)) = bpD (b, m) := fun _ => rfl
      simp [uw_w hW g0 g1, luw_w hW, hne, i1, g2, hcn]
      rw [app_lst (xs := (W.uw t0).map .str)]
      rotate_left
      · simp
      · simp; omega
      · exact may_nc rfl
      simp
      rw [rev_lst (xs := (W.uw t0).map .str ++ [.str [109, 111, 114, 101]]) (by simp)]
      simp
      exact ⟨B ++ [_], by rw [← hT, List.append_assoc]⟩
    · rintro l _ ⟨a, u, c, B, rfl, rfl⟩
      exact ⟨_, _, _, B, rfl, rfl⟩
  · rintro l _ ⟨a, u, c, B, rfl, rfl⟩
    simp
end EL

namespace EL
/-! ### the law -/
theorem told_sm {W : Wd} (hW : W.ok) : Sm1 (toldD W.days W.ps W.rs W.ts) ∧ nd (toldD W.days W.ps W.rs W.ts) = true := by
  obtain ⟨h1, h7, hps, ⟨hr1, hr2⟩, hl, _, hok⟩ := hW
  have a1 := wDs_le (xs := W.ps.map .str) (m := 62) fun d hd => by
    obtain ⟨x, hx, rfl⟩ := List.mem_map.mp hd
    exact wD_nm (hps.2.2.2 x hx)
  have a2 := dDs_le (xs := W.ps.map .str) (m := 0) fun d hd => by
    obtain ⟨x, hx, rfl⟩ := List.mem_map.mp hd
    exact Nat.le_refl _
  have b1 := wDs_le (xs := W.rs.map rdD) (m := 200) fun d hd => by
    obtain ⟨r, hr, rfl⟩ := List.mem_map.mp hd
    obtain ⟨g1, g2, _, g3, g4⟩ := hr2 r hr
    have := wD_nm (hps.2.2.2 _ g1)
    have := wD_nm (hps.2.2.2 _ g2)
    show wD (.str r.1) + 2 + (wD (.str r.2.1) + 2 + (wD (.int r.2.2) + 2 + 0)) + 3 ≤ 200
    rw [wD_int (i := r.2.2) (by omega)]
    omega
  have b2 := dDs_le (xs := W.rs.map rdD) (m := 1) fun d hd => by
    obtain ⟨r, hr, rfl⟩ := List.mem_map.mp hd
    exact Nat.le_refl _
  have rowlt : ∀ t ∈ W.ts, ∀ c ∈ t.row, c < 1114112 := fun t ht => by
    obtain ⟨n1, n2, n3, n4, n5, _⟩ := (hok t ht).1
    have two : ∀ n, ∀ c ∈ two n, c < 1114112 := fun n c hc => by
      unfold EL.two at hc
      split at hc
      · rcases List.mem_append.mp hc with hc | hc
        · rw [List.mem_singleton.mp hc]; decide
        · exact dec_lt c hc
      · exact dec_lt c hc
    unfold Tr.row
    refine joinT_all (P := fun c => c < 1114112) (fun c hc => by rw [List.mem_singleton.mp hc]; decide) fun x hx => ?_
    simp only [List.cons_append, List.nil_append, List.mem_cons, List.not_mem_nil, or_false] at hx
    rcases hx with rfl | rfl | rfl | rfl | rfl | rfl | rfl
    · decide
    · exact n1.lt
    · exact joinT_all (P := fun c => c < 1114112) (fun c hc => by rw [List.mem_singleton.mp hc]; decide) fun x hx => (n2.2.2 x hx).lt
    · exact n3.lt
    · intro c hc
      unfold timeT at hc
      simp only [List.append_assoc, List.mem_append, List.mem_singleton] at hc
      rcases hc with hc | rfl | hc | rfl | hc
      · exact dec_lt c hc
      · decide
      · exact two _ c hc
      · decide
      · exact two _ c hc
    · exact n5.lt
    · exact dec_lt
  have c1 := wDs_le (xs := (W.ts.map Tr.row).map .str) (m := 2002) fun d hd => by
    obtain ⟨x, hx, rfl⟩ := List.mem_map.mp hd
    obtain ⟨t, ht, rfl⟩ := List.mem_map.mp hx
    rw [wD_str (rowlt t ht)]
    have : t.row.length ≤ 200 := Nat.le_trans (joinT_len _ _) (Tr.row_lenT (hok t ht).1)
    omega
  have c2 := dDs_le (xs := (W.ts.map Tr.row).map .str) (m := 0) fun d hd => by
    obtain ⟨x, hx, rfl⟩ := List.mem_map.mp hd
    exact Nat.le_refl _
  have a3 : W.ps.length * 64 ≤ 6 * 64 := Nat.mul_le_mul_right _ hps.2.1
  have b3 : W.rs.length * 202 ≤ 10 * 202 := Nat.mul_le_mul_right _ hr1
  have c3 : W.ts.length * 2004 ≤ 12 * 2004 := Nat.mul_le_mul_right _ hl
  simp only [List.length_map] at a1 b1 c1
  unfold toldD
  refine ⟨⟨?_, ?_⟩, ?_⟩
  · simp only [wD_lst, wD_tup, wDs_cons, wDs_nil]
    rw [wD_int (i := W.days) (by omega)]
    omega
  · simp only [dD_lst, dD_tup, dDs_cons, dDs_nil, dD_int]
    omega
  · simp only [nd_tup, nds_cons, nd_int, nds_nil, Bool.and_true, Bool.true_and, Bool.and_eq_true]
    refine ⟨?_, ?_, ?_⟩
    · exact nds_all.mpr fun d hd => by
        obtain ⟨x, hx, rfl⟩ := List.mem_map.mp hd
        rfl
    · exact nds_all.mpr fun d hd => by
        obtain ⟨x, hx, rfl⟩ := List.mem_map.mp hd
        rfl
    · exact nds_all.mpr fun d hd => by
        obtain ⟨x, hx, rfl⟩ := List.mem_map.mp hd
        rfl
/-- what was ahead -/
def Ahd (d : D) : Prop := d = .non ∨ ∃ (W : Wd) (kn : List (List Nat)) (xs : List Int), W.ok ∧ xs.length ≤ 9 ∧ (∀ x ∈ xs, 0 ≤ x ∧ x < 1440 * W.days) ∧ d = .tup [W.tt, W.d kn, .lst (xs.map .int)]
theorem refused_n {bs : Nat} {S : Sto} {W : Wd} {i : Int} (h : 1440 * W.days ≤ i) (h0 : 0 ≤ 1440 * W.days) (h2 : i.natAbs < 10000000000000000000000000000000000000000) : runF (pgA 39) c__law_refused bs [W.tt, .int i] S = .val (.bl true) S := by
  refine refused_a (fun bs => ?_) rfl (fun s => rfl) (fun s => rfl) ?_
  · rw [whole_w]
    have : (decide (0 ≤ i) && decide (i ≤ 1440 * W.days - 1)) = false := by
      rw [Bool.and_eq_false_iff, decide_eq_false_iff_not, decide_eq_false_iff_not]
      omega
    rw [this]
  · obtain ⟨t, h⟩ := Sm1.rep1 (d := .int i) (by rw [wD_int h2]; decide) (by rw [dD_int]; decide)
    exact ⟨t, h _⟩
theorem law_loop {ns : List Int} {bs : Nat} {K : KS} (hn : ns.length ≤ 63) (hbs : bs = 0) (k : ∀ l S, K.nx l S) (l2 l3 l4 l5 l6 l7 l8 l9 l10 : Option D) :
    wpS (evS ⟨pgA 45, bs, []⟩ s_law_1 [some (.scr (ns.map .int)), some .non, l2, l3, l4, l5, l6, l7, l8, l9, l10] []) K := by
  subst hbs
  simp [-idxG_l, s_law_1]
  refine loop_wp (rng 0 _) (fun i l S' => ∃ a b2 b3 b4 b5 b6 b7 b8 b9 b10, Ahd a ∧ l = [some (.scr (ns.map .int)), some a, b2, b3, b4, b5, b6, b7, b8, b9, b10]) ?_ (fun _ _ _ _ => it_rng ?_) ?_ (fun _ _ _ => k _ _) ⟨_, _, _, _, _, _, _, _, _, _, .inl rfl, rfl⟩
  · rw [rng_len]
    split <;> split <;> omega
  · split <;> split <;> omega
  · rintro i y l S hy ⟨ahd, b2, b3, b4, b5, b6, b7, b8, b9, b10, hah, rfl⟩
    obtain ⟨rfl, hi⟩ := rng_at hy
    simp [-idxG_l]
    obtain ⟨z, e⟩ := cell_ok (pg := pgA 18) (bs := 0) (S := S) (ns := ns) (k := i)
    simp [-idxG_l, e]
    obtain ⟨u, v, e, hv0, hv1⟩ := purse_ok (pg := pgA 19) (bs := 0) (S := S) (z := z)
    simp [-idxG_l, e]
    have hv : PV (D.lst [.int u, .int v, .int 0]) 0 := ⟨_, _, _, rfl, hv0, hv1, by decide, by decide⟩
    generalize D.lst [.int u, .int v, .int 0] = V at hv
    refine (take_w (p := S.length) (by simp) hv (by decide) (by decide) (by decide)).call ?_
    rintro _ _ ⟨pk, w, rfl, k0, k1, hw, rfl⟩
    simp [-idxG_l]
    refine (take_w (p := S.length) (v := w) (by simp) hw (by decide) (by decide) (by decide)).call ?_
    rintro _ _ ⟨y, w, rfl, y0, y1, hw, rfl⟩
    obtain ⟨most, d0, d1, ed⟩ : ∃ c : Int, 0 ≤ c ∧ c ≤ 12 ∧ idxG (.lst [.int 0, .int 12, .int 12, .int 12, .int 12, .int 3, .int 12, .int 12]) (.int y) = some (.int c) := by
      obtain rfl | rfl | rfl | rfl | rfl | rfl | rfl | rfl : y = 0 ∨ y = 1 ∨ y = 2 ∨ y = 3 ∨ y = 4 ∨ y = 5 ∨ y = 6 ∨ y = 7 := by omega
      all_goals exact ⟨_, by decide, by decide, rfl⟩
    simp [-idxG_l, ed]
    refine (world_w (p := S.length) (v := w) (by omega) (by simp) hw (by omega) d0 d1).call ?_
    rintro _ _ ⟨W, kn, hW, hf, rfl, w, hw, rfl⟩
    have hW1 := hW.1
    have hW7 := hW.2.1
    have m2 : ∀ (b : Bool) (S : Sto), binD b .mul (.int 1440) (.int W.days) S = .ok (.int (1440 * W.days)) S := fun b S => bin_mul (.inl (by decide))
    have bp : ∀ (b : Bool) (S : Sto), binD b .pow (.int 10) (.int 29) S = .ok (.int 100000000000000000000000000000) S := fun b S => bin_pow (by decide) (by decide) (by decide)
    simp [-idxG_l, table_w hW hf, wd_get, wd_days, m2, bp]
    obtain ⟨x, ex, hx⟩ := refused_odd (bs := 0) (S := S ++ [w]) (y := pk) hW k0 k1
    simp [-idxG_l] at ex hx
    simp [-idxG_l, ex]
    refine hx.call ?_
    rintro _ _ ⟨rfl, B, rfl⟩
    simp [-idxG_l, refused_n (W := W) (i := 1440 * W.days + 1 + pk) (by omega) (by omega) (by omega)]
    refine (times_w (p := S.length) (v := w) (by omega) (by simp) hw (by omega) hW).call ?_
    rintro _ _ ⟨xs, rfl, hxl, hxs, w, hw, rfl⟩
    obtain ⟨s1, s2⟩ := told_sm hW
    have hne : ∀ T, cmpD .ne T (toldD W.days W.ps W.rs W.ts) (toldD W.days W.ps W.rs W.ts) = some false := fun T => ne_me rfl rfl (fun n e => by cases e) (fun n e => by cases e) s1 s2 (fun i e => by cases e) (fun i e => by cases e)
    simp [-idxG_l, right_w hW hxl hxs, tt_get, tt_m, told_t hW, table_w hW hf, hne]
    rcases hah with rfl | ⟨W', kn', xs', hW', hl', hx', rfl⟩
    · simp [isNon]
      exact .inr ⟨W, kn, xs, hW, hxl, hxs, rfl⟩
    · simp [isNon, right_w hW' hl' hx']
      exact .inr ⟨W, kn, xs, hW, hxl, hxs, rfl⟩
theorem law_true : ∀ ns : List Int, ns.length ≤ 63 → ∃ S, pgL tb fds (fds.length - 1) 0 [.scr (ns.map .int)] [] = .val (.bl true) S := by
  intro ns hn
  have h : Ret (pgL tb fds (fds.length - 1) 0 [.scr (ns.map .int)] []) fun r S' => r = .bl true := by
    rw [f_law]
    unfold Ret
    rw [run_fin rfl]
    simp [c_law]
    refine law_loop hn rfl (fun l S => ?_) none none none none none none none none none
    simp
  obtain ⟨_, S, e, rfl⟩ := h.eq
  exact ⟨S, e⟩
end EL

open PySem PySem.W PySem.Calls PyProof.Rows
set_option maxHeartbeats 0 in
theorem PySem.Challenge.cw_enginedays_k33_under_way_and_busiest_holds : PySem.Challenge.rw_enginedays_k33_under_way_and_busiest.Holds := by
  w_on; o_law
  refine HandSHeadRun.head_any (r := OpenLaw.row PySem.Challenge.rw_enginedays_k33_under_way_and_busiest) (q := view (OpenLaw.row PySem.Challenge.rw_enginedays_k33_under_way_and_busiest).prog [64]) (H := EL.hkT EL.tb EL.fds EL.as) (ob := EL.obT EL.tb EL.fds EL.as) (M := 20000) (loose := EL.loose) (d := HandSHeadRun.topDef (OpenLaw.row PySem.Challenge.rw_enginedays_k33_under_way_and_busiest).prog 64) (kwd := []) (EL.ob_eq EL.tb EL.fds EL.as)
    (by kernel_rfl) (fun s => by kernel_rfl) EL.run (by kernel_rfl) (by kernel_rfl) (by kernel_rfl) (by rfl) (by first | assumption | decide +kernel) (by decide +kernel) ⟨rfl, rfl, rfl, rfl, rfl, by decide +kernel⟩ ?hw ?hc
  case hw => w_witness2
  case hc => exact EL.walkEL (n := 63) rfl (by decide) rfl (by decide +kernel) ⟨rfl, by decide +kernel, by decide +kernel⟩ (fun w h y => y) (fun ns h _ => EL.law_true ns h)
