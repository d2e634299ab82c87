import PyProof.Rows.All
import HandS.Comp
import HandS.Conv
import HandS.Defaults
import HandS.EndTab
import HandS.Exc
import HandS.ExcInit
import HandS.ExcIs
import HandS.ExcOwn
import HandS.Flt
import HandS.ForMost
import HandS.Head0
import HandS.Head1
import HandS.Head2
import HandS.HeadEnd
import HandS.HeadHook1
import HandS.HeadHook2
import HandS.HeadHook3
import HandS.HeadHook4
import HandS.HeadWalk
import HandS.IsInst
import HandS.Iter
import HandS.Lambda
import HandS.List
import HandS.Nested
import HandS.Small
import HandS.Strs
import HandS.Style
import HandS.TryMany
import HandS.TryOnly
import HandS.TupAny
import HandS.TupMul
import HandS.Words
import HandS.WordsExc
import HandS.Zip
import KE.DataAny
import KE.DataEq
import KE.DataFind
import KE.DataMinMax
import KE.KDictKeyed
import KE.KStateDown
import KE.KeyNested
import PyProof.EqLayable
import PyProof.P3Statements
import PyProof.Rows.RuleIs
import PySem.Challenge.RW_pricesforever_k68_whole_prices_rounded_f
/-! ## Ev1 -/
section
set_option Elab.async false
set_option linter.all false
/-! The core language: values, memory, evaluator. -/
namespace Ev
open PySem

inductive D where
  | p (d : PyData) | loc (n : Nat) | clo (n : Nat) | scr (xs : List PyData) | dic (t : Bool) (n : Nat)
abbrev Mem := List (List PyData)
abbrev Sg := List (Option D)
structure Xc where
  cls : Nat
  args : List PyData
inductive R (α : Type) where
  | ok (a : α) (m : Mem) | exc (x : Xc) (m : Mem) | bad
def R.bind {α β : Type} : R α → (α → Mem → R β) → R β
  | .ok a m, k => k a m
  | .exc x m, _ => .exc x m
  | .bad, _ => .bad
def R.opt {α : Type} (m : Mem) : Option α → R α
  | some a => .ok a m
  | none => .bad
inductive Bop where | add | sub | mul | div | mod | pow
  deriving DecidableEq
inductive Cop where | eq | ne | lt | le | gt | ge | isin | notin | is_ | isnot
  deriving DecidableEq
inductive Bi where | len | abs | int | list | tuple | min | max | all | any | sum | lrange
  deriving DecidableEq
inductive Ty where | int | bool | tuple | list | dict | str
  deriving DecidableEq
inductive Me where | append | extend | pop | index | count
  deriving DecidableEq
inductive It where | seq | range | zip | enum
  deriving DecidableEq
/-- a target: a slot, or a tuple of slots -/
inductive Tg where | one (i : Nat) | many (is : List Nat)

inductive CE where
  | var (i : Nat) | non | bl (b : Bool) | int (i : Int) | str (s : Str)
  | bin (op : Bop) (a b : CE) | neg (a : CE)
  | cmp (op : Cop) (a b : CE) | chain (op op' : Cop) (a b c : CE) | isN (a : CE) | notN (a : CE)
  | and (a b : CE) | or (a b : CE) | not (a : CE) | ife (c a b : CE)
  | tup (es : List CE) | lst (es : List CE) | lstM (es : List CE) | listM (es : List CE)
  | idx (a i : CE) | slc (a : CE) (lo hi : List CE) | rev (a : CE)
  | bi (b : Bi) (es : List CE) | isi (a : CE) (ts : List Ty)
  | call (f : Nat) (es : List CE) | cl (i : Nat) (es : List CE)
  | lam (f : Nat) (es : List CE) (ps nN : Nat) (fr : List Nat) (body : CE)
  | me (m : Me) (o : CE) (es : List CE)
  | comp (tg : Tg) (it : It) (args : List CE) (conds : List CE) (own : List Nat) (elt : CE)
  /-- what is never reached; a constant of the module -/
  | never | con (d : PyData)
  /-- a written dict of the module: d[k], k in d -/
  | wget (kvs : List (Str × PyData)) (k : CE) | win (neg : Bool) (kvs : List (Str × PyData)) (k : CE)
  /-- a[n::-1] -/
  | revn (a n : CE)
  /-- a dict of the memory: {} (its keys are tuples: true), d[k], k in d -/
  | dnew (t : Bool) | dget (d k : CE) | din (neg : Bool) (k d : CE)

/-- an expression of an except suite: constants, tests of the caught exception's class -/
inductive SE where
  | con (c : CE) | isx (ids : List Nat) | not (a : SE) | and (a b : SE) | ife (c a b : SE)
/-- an except clause: the classes that it takes, the name's slot, what it returns -/
structure Hn where
  ids : List Nat
  slot : Option Nat
  r : SE
inductive CS where
  | expr (e : CE) | asg (i : Nat) (e : CE) | unp (is : List Nat) (e : CE) | par (i j : Nat) (a b : CE) | parN (is : List Nat) (es : List CE)
  | setix (o i e : CE) | dset (d k e : CE)
  | ite (c : CE) (a b : List CS) | whl (c : CE) (b : List CS) | for_ (tg : Tg) (it : It) (args : List CE) (b : List CS)
  | ret (e : CE) | retN | brk | cont | pass
  | raise (cls : Nat) (es : List CE)
  | try_ (b : List CS) (hs : List Hn)
  | never

structure Clo where
  ps : Nat
  nN : Nat
  body : CE
  caps : List D

/-! ### operators -/
abbrev sizeL : Nat := sizeLine
def smallF (i : Int) : Bool := decide (-(2 ^ 64) < i ∧ i < 2 ^ 64)
def rep {α : Type} (xs : List α) (k : Nat) : List α := (List.replicate k xs).flatten
def opBin : Bop → PyData → PyData → Option PyData
  | .add, .int i, .int j => some (.int (i + j))
  | .add, .tuple xs, .tuple ys => if xs.length + ys.length ≤ sizeLine then some (.tuple (xs ++ ys)) else none
  | .add, .list xs, .list ys => if xs.length + ys.length ≤ sizeLine then some (.list (xs ++ ys)) else none
  | .sub, .int i, .int j => some (.int (i - j))
  | .mul, .int i, .int j => if smallF i || smallF j then some (.int (i * j)) else none
  | .mul, .tuple xs, .int k => if decide (-(2 ^ 62) ≤ k ∧ k < 2 ^ 62) && decide (xs.length * k.toNat ≤ sizeLine) then some (.tuple (rep xs k.toNat)) else none
  | .mul, .list xs, .int k => if decide (-(2 ^ 62) ≤ k ∧ k < 2 ^ 62) && decide (xs.length * k.toNat ≤ sizeLine) then some (.list (rep xs k.toNat)) else none
  | .div, .int i, .int j => if decide (j ≠ 0 ∧ j.natAbs < 18446744073709551616) then some (.int (i.fdiv j)) else none
  | .mod, .int i, .int j => if decide (j ≠ 0) then some (.int (i.fmod j)) else none
  | .pow, .int i, .int j => if decide (0 ≤ j ∧ j ≤ 1000000 ∧ i.natAbs < 2 ^ 64) then some (.int (i ^ j.toNat)) else none
  | _, _, _ => none
def flatP : PyData → Bool
  | .none => true | .bool _ => true | .int _ => true | .str _ => true
  | _ => false
def inP (d : PyData) (xs : List PyData) : Option Bool := if flatP d && xs.all flatP then some (xs.any fun y => PyData.eqv y d) else none
def nobB : PyData → Bool
  | .none => true | .int _ => true | .str _ => true | .tuple _ => true | .list _ => true
  | _ => false
def opCmp : Cop → PyData → PyData → Option Bool
  | .eq, d, e => if SeqAt.shaped d && SeqAt.shaped e then some (PyData.eqv d e) else none
  | .ne, d, e => if SeqAt.shaped d && SeqAt.shaped e then some (!PyData.eqv d e) else none
  | .lt, .int i, .int j => some (decide (i < j))
  | .le, .int i, .int j => some (decide (i ≤ j))
  | .gt, .int i, .int j => some (decide (j < i))
  | .ge, .int i, .int j => some (decide (j ≤ i))
  | .is_, .bool a, .bool b => some (a == b)
  | .is_, d, .bool _ => if nobB d then some false else none
  | .isnot, .bool a, .bool b => some (a != b)
  | .isnot, d, .bool _ => if nobB d then some true else none
  | .isin, d, .tuple xs => inP d xs
  | .isin, d, .list xs => inP d xs
  | .notin, d, .tuple xs => (inP d xs).map (!·)
  | .notin, d, .list xs => (inP d xs).map (!·)
  | _, _, _ => none
def D.un : D → Option PyData
  | .p d => some d
  | _ => none
def allP : List D → Option (List PyData)
  | [] => some []
  | .p d :: r => (allP r).map (d :: ·)
  | _ :: _ => none
/-- the items of a value that is read -/
def itemsR (M : Mem) : D → Option (List PyData)
  | .p (.tuple xs) => some xs
  | .p (.list xs) => some xs
  | .loc n => M[n]?
  | .scr xs => some xs
  | _ => none
/-- .. of a list alone -/
def itemsL (M : Mem) : D → Option (List PyData)
  | .p (.list xs) => some xs
  | .loc n => M[n]?
  | .scr xs => some xs
  | _ => none
def opCmpD (M : Mem) : Cop → D → D → Option Bool
  | op, .p d, .p e => opCmp op d e
  | _, _, _ => none
def opIdx (M : Mem) (x y : D) : Option D := match itemsR M x, y with
  | some xs, .p (.int i) => (L2.atI xs i).map D.p
  | _, _ => none
def cut {α : Type} (xs : List α) (lo hi : Option Int) : List α := (xs.drop (HT.sIx xs.length 0 lo)).take (HT.sIx xs.length xs.length hi - HT.sIx xs.length 0 lo)
def opSlc (M : Mem) (x : D) (lo hi : Option Int) : Option D := match x with
  | .p (.tuple xs) => some (.p (.tuple (cut xs lo hi)))
  | .p (.list xs) => some (.p (.list (cut xs lo hi)))
  | .loc n => (M[n]?).map fun xs => .p (.list (cut xs lo hi))
  | .scr xs => some (.p (.list (cut xs lo hi)))
  | _ => none
def optI : List D → Option (Option Int)
  | [] => some none
  | [.p (.int i)] => some (some i)
  | _ => none
def intsOf : List PyData → Option (List Int)
  | [] => some []
  | .int i :: r => (intsOf r).map (i :: ·)
  | _ :: _ => none
def bolsOf : List PyData → Option (List Bool)
  | [] => some []
  | .bool b :: r => (bolsOf r).map (b :: ·)
  | _ :: _ => none
def min? : List Int → Option Int
  | [] => none
  | x :: r => some (r.foldl min x)
def max? : List Int → Option Int
  | [] => none
  | x :: r => some (r.foldl max x)
def rng (lo : Int) (n : Nat) : List PyData := (List.range n).map fun (i : Nat) => .int (lo + i)
def small62 (i : Int) : Bool := decide (-(2 ^ 62) ≤ i ∧ i < 2 ^ 62)
def D.int? : D → Option Int
  | .p (.int i) => some i
  | _ => none
def int01 : D → Option Int
  | .p (.int i) => some i
  | .p (.bool k) => some (if k then 1 else 0)
  | _ => none
def opBi (M : Mem) (k : Bi) (ds : List D) : Option D := match ds with
  | [x] => (match k with
    | .len => (itemsR M x).map fun xs => .p (.int xs.length)
    | .abs => x.int?.map fun i => .p (.int (if i < 0 then -i else i))
    | .int => (int01 x).map fun i => .p (.int i)
    | .list => (itemsR M x).map fun xs => .p (.list xs)
    | .tuple => (itemsR M x).map fun xs => .p (.tuple xs)
    | .min => ((itemsR M x).bind intsOf).bind fun xs => (min? xs).map fun m => .p (.int m)
    | .max => ((itemsR M x).bind intsOf).bind fun xs => (max? xs).map fun m => .p (.int m)
    | .all => ((itemsR M x).bind bolsOf).map fun bs => .p (.bool (bs.all id))
    | .any => ((itemsR M x).bind bolsOf).map fun bs => .p (.bool (bs.any id))
    | .sum => ((itemsL M x).bind intsOf).map fun xs => .p (.int xs.sum)
    | .lrange => x.int?.bind fun j => if decide (0 ≤ j ∧ j ≤ 16777216) then some (.p (.list (rng 0 j.toNat))) else none)
  | [x, y] => (match k with
    | .min => x.int?.bind fun i => y.int?.map fun j => .p (.int (if j < i then j else i))
    | .max => x.int?.bind fun i => y.int?.map fun j => .p (.int (if j > i then j else i))
    | .lrange => x.int?.bind fun i => y.int?.bind fun j => if decide (0 ≤ i ∧ i ≤ 16777216 ∧ 0 ≤ j ∧ j ≤ 16777216) then some (.p (.list (rng i (j - i).toNat))) else none
    | _ => none)
  | [x, y, z] => (match k with
    | .min => x.int?.bind fun i => y.int?.bind fun j => z.int?.map fun l => .p (.int (if l < (if j < i then j else i) then l else (if j < i then j else i)))
    | _ => none)
  | _ => none
def isTy : D → Ty → Option Bool
  | .p .none, _ => some false
  | .p (.bool _), .int => some true
  | .p (.bool _), .bool => some true
  | .p (.bool _), _ => some false
  | .p (.int _), .int => some true
  | .p (.int _), _ => some false
  | .p (.str _), .str => some true
  | .p (.str _), _ => some false
  | .p (.list _), .list => some true
  | .p (.list _), _ => some false
  | .p (.tuple _), .tuple => some true
  | .p (.tuple _), _ => some false
  | .loc _, .list => some true
  | .loc _, _ => some false
  | _, _ => none
def isTys (d : D) : List Ty → Option Bool
  | [] => some false
  | t :: r => (isTy d t).bind fun b => if b then some true else isTys d r
def dataPl (d : PyData) : List PyData → Nat → Option Nat
  | [], _ => none
  | x :: r, i => if PyData.eqv x d then some i else dataPl d r (i + 1)
/-- a method: the value, the new memory -/
def opMe (M : Mem) : Me → D → List D → Option (D × Mem)
  | .append, .loc n, [.p d] => (M[n]?).bind fun xs => if xs.length < sizeLine then some (.p .none, M.set n (xs ++ [d])) else none
  | .extend, .loc n, [.p (.list ys)] => (M[n]?).bind fun xs => if xs.length + ys.length ≤ sizeLine then some (.p .none, M.set n (xs ++ ys)) else none
  | .pop, .loc n, [] => (M[n]?).bind fun xs => (xs[xs.length - 1]?).map fun x => (.p x, M.set n xs.dropLast)
  | .count, x, [.p d] => (itemsR M x).bind fun xs => if d.plain && (PyData.plainAll xs && decide (PyData.depthAll xs ≤ 60)) then some (.p (.int (xs.countP fun y => PyData.eqv y d : Nat)), M) else none
  | .index, x, [.p d] => (itemsR M x).bind fun xs => if flatP d && xs.all flatP then (dataPl d xs 0).map fun i => (.p (.int (i : Nat)), M) else none
  | _, _, _ => none
/-- what a method asks of its receiver, ahead of its arguments -/
def meOk (M : Mem) : Me → D → Bool
  | .append, .loc _ => true
  | .extend, .loc _ => true
  | .pop, .loc _ => true
  | .count, x => (itemsR M x).isSome
  | .index, x => (itemsR M x).isSome
  | _, _ => false
def pairs : List PyData → List PyData → List PyData
  | a :: r, b :: t => .tuple [a, b] :: pairs r t
  | _, _ => []
def enums : Nat → List PyData → List PyData
  | _, [] => []
  | i, a :: r => .tuple [.int i, a] :: enums (i + 1) r
def itemsI (M : Mem) : It → List D → Option (List PyData)
  | .seq, [.p (.tuple xs)] => some xs
  | .seq, [.p (.list xs)] => some xs
  | .range, [.p (.int j)] => if small62 j then some (rng 0 j.toNat) else none
  | .range, [.p (.int i), .p (.int j)] => if small62 i && small62 j then some (rng i (j - i).toNat) else none
  | .range, [.p (.int i), .p (.int j), .p (.int k)] => if small62 i && small62 j && decide (k = -1) then some ((List.range (i - j).toNat).map fun (m : Nat) => .int (i - m)) else none
  | .zip, [.p (.list xs), .p (.list ys)] => some (pairs xs ys)
  | .zip, [.p (.tuple xs), .p (.tuple ys)] => some (pairs xs ys)
  | .enum, [.p (.list xs)] => some (enums 0 xs)
  | _, _ => none
def setAll : List Nat → List PyData → Sg → Option Sg
  | [], [], σ => some σ
  | i :: is, d :: ds, σ => setAll is ds (σ.set i (some (.p d)))
  | _, _, _ => none
def setDs : List Nat → List D → Sg → Option Sg
  | [], [], σ => some σ
  | i :: is, d :: ds, σ => setDs is ds (σ.set i (some d))
  | _, _, _ => none
def bindT : Tg → PyData → Sg → Option Sg
  | .one i, d, σ => some (σ.set i (some (.p d)))
  | .many is, .tuple ds, σ => setAll is ds σ
  | .many _, _, _ => none
def wipe (σ : Sg) : List Nat → Sg
  | [] => σ
  | v :: vs => (wipe σ vs).set v none
def start (n : Nat) (ds : List D) : Sg := ds.map some ++ List.replicate (n - ds.length) none
def caps (σ : Sg) : List Nat → Option (List D)
  | [] => some []
  | i :: r => match σ[i]? with
    | some (some d) => (caps σ r).map (d :: ·)
    | _ => none

/-! ### dicts of the memory: the list of the pairs -/
mutual
def nkey : PyData → Option NestedKey
  | .none => some .none
  | .bool b => some (.num (if b = true then 1 else 0))
  | .int i => some (.num i)
  | .str x => some (.text x)
  | .tuple ds => (nkeys ds).map .tup
  | .list _ => none
  | .dict _ => none
def nkeys : List PyData → Option (List NestedKey)
  | [] => some []
  | d :: ds => match nkey d with
    | some k => (nkeys ds).map (k :: ·)
    | none => none
end
def keyOk : Bool → PyData → Bool
  | false, .int _ => true
  | false, .str _ => true
  | true, .tuple ds => (match nkeys ds with
    | some ks => decide ((NestedKey.tup ks).depth ≤ 8)
    | none => false)
  | _, _ => false
def dfind : List PyData → PyData → Option PyData
  | [], _ => none
  | x :: r, k => match x with
    | .tuple [a, v] => if nkey a = nkey k then some v else dfind r k
    | _ => none
def dputL (k v : PyData) : List PyData → List PyData
  | [] => []
  | x :: r => (match x with
    | .tuple [a, w] => if nkey a = nkey k then .tuple [a, v] else .tuple [a, w]
    | x => x) :: dputL k v r
def dput (xs : List PyData) (k v : PyData) : List PyData := if (dfind xs k).isSome then dputL k v xs else xs ++ [.tuple [k, v]]
def opDGet (M : Mem) : D → D → Option PyData
  | .dic t n, .p k => if keyOk t k then (M[n]?).bind fun xs => dfind xs k else none
  | _, _ => none
def opDIn (M : Mem) : D → D → Option Bool
  | .dic t n, .p k => if keyOk t k then (M[n]?).map fun xs => (dfind xs k).isSome else none
  | _, _ => none
/-! ### the evaluator -/
structure G where
  call : Nat → List D → Mem → R D
  cl : Nat → List D → Mem → R D
  lam : Nat → List D → Clo → Mem → R D
  fuel : Nat
def tst : D → Option Bool
  | .p (.bool b) => some b
  | _ => none
def R.tst (r : R D) (k : Bool → Mem → R α) : R α := r.bind fun d M => match Ev.tst d with
  | some b => k b M
  | none => .bad
def compL (n : Nat) (turn : PyData → Mem → R (Option PyData)) : List PyData → Mem → R D
  | [], M => match M[n]? with
    | some acc => .ok (.p (.list acc)) (M.take n)
    | none => .bad
  | x :: r, M => match turn x M with
    | .ok o M' => (match M'[n]? with
      | some acc => (match o with
        | some y => if acc.length < sizeLine then compL n turn r (M'.take n ++ [acc ++ [y]]) else .bad
        | none => compL n turn r (M'.take n ++ [acc]))
      | none => .bad)
    | _ => .bad
mutual
def evE (g : G) : CE → Sg → Mem → R D
  | .var i, σ, M => match σ[i]? with
    | some (some d) => .ok d M
    | _ => .bad
  | .non, _, M => .ok (.p .none) M
  | .bl b, _, M => .ok (.p (.bool b)) M
  | .int i, _, M => .ok (.p (.int i)) M
  | .str s, _, M => .ok (.p (.str s)) M
  | .bin op a b, σ, M => (evE g a σ M).bind fun x M1 => (evE g b σ M1).bind fun y M2 => match x, y with
    | .p d, .p e => R.opt M2 ((opBin op d e).map D.p)
    | _, _ => .bad
  | .neg a, σ, M => (evE g a σ M).bind fun x M1 => match x with
    | .p (.int i) => .ok (.p (.int (-i))) M1
    | _ => .bad
  | .cmp op a b, σ, M => (evE g a σ M).bind fun x M1 => (evE g b σ M1).bind fun y M2 => R.opt M2 ((opCmpD M2 op x y).map fun k => .p (.bool k))
  | .chain op op' a b c, σ, M => (evE g a σ M).bind fun x M1 => (evE g b σ M1).bind fun y M2 => match opCmpD M2 op x y with
    | some true => (evE g c σ M2).bind fun z M3 => R.opt M3 ((opCmpD M3 op' y z).map fun k => .p (.bool k))
    | some false => .ok (.p (.bool false)) M2
    | none => .bad
  | .isN a, σ, M => (evE g a σ M).bind fun x M1 => match x with
    | .p .none => .ok (.p (.bool true)) M1
    | _ => .ok (.p (.bool false)) M1
  | .notN a, σ, M => (evE g a σ M).bind fun x M1 => match x with
    | .p .none => .ok (.p (.bool false)) M1
    | _ => .ok (.p (.bool true)) M1
  | .and a b, σ, M => (evE g a σ M).tst fun k M1 => if k then (evE g b σ M1).tst fun k' M2 => .ok (.p (.bool k')) M2 else .ok (.p (.bool false)) M1
  | .or a b, σ, M => (evE g a σ M).tst fun k M1 => if k then .ok (.p (.bool true)) M1 else (evE g b σ M1).tst fun k' M2 => .ok (.p (.bool k')) M2
  | .not a, σ, M => (evE g a σ M).tst fun k M1 => .ok (.p (.bool (!k))) M1
  | .ife c a b, σ, M => (evE g c σ M).tst fun k M1 => if k then evE g a σ M1 else evE g b σ M1
  | .tup es, σ, M => (evEs g es σ M).bind fun ds M1 => match allP ds with
    | some xs => if xs.length ≤ sizeLine then .ok (.p (.tuple xs)) M1 else .bad
    | none => .bad
  | .lst es, σ, M => (evEs g es σ M).bind fun ds M1 => match allP ds with
    | some xs => if xs.length ≤ sizeLine then .ok (.p (.list xs)) M1 else .bad
    | none => .bad
  | .lstM es, σ, M => (evEs g es σ M).bind fun ds M1 => match allP ds with
    | some xs => if xs.length ≤ sizeLine then .ok (.loc M1.length) (M1 ++ [xs]) else .bad
    | none => .bad
  | .listM es, σ, M => (evEs g es σ M).bind fun ds M1 => match ds with
    | [d] => (match itemsR M1 d with
      | some xs => .ok (.loc M1.length) (M1 ++ [xs])
      | none => .bad)
    | _ => .bad
  | .idx a i, σ, M => (evE g a σ M).bind fun x M1 => (evE g i σ M1).bind fun y M2 => R.opt M2 (opIdx M2 x y)
  | .slc a lo hi, σ, M => (evE g a σ M).bind fun x M1 => (evEs g lo σ M1).bind fun l M2 => match optI l with
    | some i => (evEs g hi σ M2).bind fun h M3 => (match optI h with
      | some j => R.opt M3 (opSlc M3 x i j)
      | none => .bad)
    | none => .bad
  | .rev a, σ, M => (evE g a σ M).bind fun x M1 => R.opt M1 ((itemsL M1 x).map fun xs => .p (.list xs.reverse))
  | .never, _, _ => .bad
  | .con d, _, M => .ok (.p d) M
  | .wget kvs k, σ, M => (evE g k σ M).bind fun x M1 => match x with
    | .p (.str s) => R.opt M1 ((kvs.lookup s).map D.p)
    | _ => .bad
  | .win neg kvs k, σ, M => (evE g k σ M).bind fun x M1 => match x with
    | .p (.str s) => .ok (.p (.bool (if neg then !(kvs.lookup s).isSome else (kvs.lookup s).isSome))) M1
    | _ => .bad
  | .revn a n, σ, M => (evE g a σ M).bind fun x M1 => (evE g n σ M1).bind fun y M2 => match y with
    | .p (.int i) => if decide (0 ≤ i) then R.opt M2 ((itemsL M2 x).map fun xs => .p (.list (xs.take (i.toNat + 1)).reverse)) else .bad
    | _ => .bad
  | .dnew t, _, M => .ok (.dic t M.length) (M ++ [[]])
  | .dget d k, σ, M => (evE g d σ M).bind fun x M1 => (evE g k σ M1).bind fun y M2 => R.opt M2 ((opDGet M2 x y).map D.p)
  | .din neg k d, σ, M => (evE g k σ M).bind fun y M1 => (evE g d σ M1).bind fun x M2 => R.opt M2 ((opDIn M2 x y).map fun b => .p (.bool (if neg then !b else b)))
  | .bi b es, σ, M => (evEs g es σ M).bind fun ds M1 => R.opt M1 (opBi M1 b ds)
  | .isi a ts, σ, M => (evE g a σ M).bind fun x M1 => R.opt M1 ((isTys x ts).map fun k => .p (.bool k))
  | .call f es, σ, M => (evEs g es σ M).bind fun ds M1 => g.call f ds M1
  | .cl i es, σ, M => match σ[i]? with
    | some (some (.clo n)) => (evEs g es σ M).bind fun ds M1 => g.cl n ds M1
    | _ => .bad
  | .lam f es ps nN fr body, σ, M => (evEs g es σ M).bind fun ds M1 => match caps σ fr with
    | some cs => g.lam f ds ⟨ps, nN, body, cs⟩ M1
    | none => .bad
  | .me m o es, σ, M => (evE g o σ M).bind fun x M1 => if meOk M1 m x then (evEs g es σ M1).bind fun ds M2 => match opMe M2 m x ds with
    | some (d, M3) => .ok d M3
    | none => .bad
    else .bad
  | .comp tg it args conds own elt, σ, M => (evEs g args σ M).bind fun ds M1 => match itemsI M1 it ds with
    | some xs => compL M1.length (fun x M2 => match bindT tg x (wipe σ own) with
        | some σ' => (evEs g conds σ' M2).bind fun ks M3 => match ks with
          | [] => (evE g elt σ' M3).bind fun d M4 => match d with
            | .p y => .ok (some y) M4
            | _ => .bad
          | [.p (.bool true)] => (evE g elt σ' M3).bind fun d M4 => match d with
            | .p y => .ok (some y) M4
            | _ => .bad
          | [.p (.bool false)] => .ok none M3
          | _ => .bad
        | none => .bad) xs (M1 ++ [[]])
    | none => .bad
def evEs (g : G) : List CE → Sg → Mem → R (List D)
  | [], _, M => .ok [] M
  | e :: es, σ, M => (evE g e σ M).bind fun d M1 => (evEs g es σ M1).bind fun ds M2 => .ok (d :: ds) M2
end
/-- how a statement ends -/
inductive Fl where
  | nx (σ : Sg) | ret (d : D) | brk (σ : Sg) | cont (σ : Sg)
def forL (tg : Tg) (body : Sg → Mem → R Fl) : List PyData → Sg → Mem → R Fl
  | [], σ, M => .ok (.nx σ) M
  | x :: r, σ, M => match bindT tg x σ with
    | some σ1 => (body σ1 M).bind fun f M1 => match f with
      | .nx σ2 => forL tg body r σ2 M1
      | .cont σ2 => forL tg body r σ2 M1
      | .brk σ2 => .ok (.nx σ2) M1
      | .ret d => .ok (.ret d) M1
    | none => .bad
def whlL (c : Sg → Mem → R D) (body : Sg → Mem → R Fl) : Nat → Sg → Mem → R Fl
  | 0, _, _ => .bad
  | n + 1, σ, M => (c σ M).tst fun k M1 => if k then (body σ M1).bind fun f M2 => match f with
      | .nx σ2 => whlL c body n σ2 M2
      | .cont σ2 => whlL c body n σ2 M2
      | .brk σ2 => .ok (.nx σ2) M2
      | .ret d => .ok (.ret d) M2
    else .ok (.nx σ) M1
def conD : CE → Option PyData
  | .non => some .none
  | .bl b => some (.bool b)
  | .int i => some (.int i)
  | .str s => some (.str s)
  | _ => none
def seD (c : Nat) : SE → Option PyData
  | .con e => conD e
  | .isx ids => some (.bool (ids.contains c))
  | .not a => match seD c a with
    | some (.bool b) => some (.bool (!b))
    | _ => none
  | .and a b => match seD c a with
    | some (.bool true) => (match seD c b with
      | some (.bool k) => some (.bool k)
      | _ => none)
    | some (.bool false) => (match seD c b with
      | some (.bool _) => some (.bool false)
      | _ => none)
    | _ => none
  | .ife d a b => match seD c d with
    | some (.bool true) => seD c a
    | some (.bool false) => seD c b
    | _ => none
def hns (x : Xc) (M : Mem) : List Hn → R Fl
  | [] => .exc x M
  | h :: r => if h.ids.contains x.cls then (match seD x.cls h.r with
    | some d => .ok (.ret (.p d)) M
    | none => .bad) else hns x M r
mutual
def evS (g : G) : CS → Sg → Mem → R Fl
  | .expr e, σ, M => (evE g e σ M).bind fun _ M1 => .ok (.nx σ) M1
  | .asg i e, σ, M => (evE g e σ M).bind fun d M1 => .ok (.nx (σ.set i (some d))) M1
  | .unp is e, σ, M => (evE g e σ M).bind fun d M1 => match d with
    | .p (.tuple ds) => (match setAll is ds σ with
      | some σ' => .ok (.nx σ') M1
      | none => .bad)
    | _ => .bad
  | .par i j a b, σ, M => (evE g a σ M).bind fun x M1 => (evE g b σ M1).bind fun y M2 => .ok (.nx ((σ.set i (some x)).set j (some y))) M2
  | .parN is es, σ, M => (evEs g es σ M).bind fun ds M1 => match setDs is ds σ with
    | some σ' => .ok (.nx σ') M1
    | none => .bad
  | .setix o i e, σ, M => (evE g e σ M).bind fun v M1 => (evE g o σ M1).bind fun x M2 => (evE g i σ M2).bind fun y M3 => match x, y, v with
    | .loc n, .p (.int k), .p d => (match M3[n]? with
      | some xs => (match L2.ixN xs.length k with
        | some j => .ok (.nx σ) (M3.set n (xs.set j d))
        | none => .bad)
      | none => .bad)
    | _, _, _ => .bad
  | .dset d k e, σ, M => (evE g e σ M).bind fun v M1 => (evE g d σ M1).bind fun x M2 => (evE g k σ M2).bind fun y M3 => match x, y, v with
    | .dic t n, .p kd, .p vd => if keyOk t kd then (match M3[n]? with
      | some xs => if xs.length < sizeLine then .ok (.nx σ) (M3.set n (dput xs kd vd)) else .bad
      | none => .bad) else .bad
    | _, _, _ => .bad
  | .ite c a b, σ, M => (evE g c σ M).tst fun k M1 => if k then evSs g a σ M1 else evSs g b σ M1
  | .whl c b, σ, M => whlL (fun σ M => evE g c σ M) (fun σ M => evSs g b σ M) g.fuel σ M
  | .for_ tg it args b, σ, M => (evEs g args σ M).bind fun ds M1 => match itemsI M1 it ds with
    | some xs => forL tg (fun σ M => evSs g b σ M) xs σ M1
    | none => .bad
  | .ret e, σ, M => (evE g e σ M).bind fun d M1 => .ok (.ret d) M1
  | .retN, _, M => .ok (.ret (.p .none)) M
  | .brk, σ, M => .ok (.brk σ) M
  | .cont, σ, M => .ok (.cont σ) M
  | .pass, σ, M => .ok (.nx σ) M
  | .raise c es, σ, M => (evEs g es σ M).bind fun ds M1 => match allP ds with
    | some xs => .exc ⟨c, xs⟩ M1
    | none => .bad
  | .try_ b hs, σ, M => match evSs g b σ M with
    | .ok f M1 => .ok f M1
    | .exc x M1 => hns x M1 hs
    | .bad => .bad
  | .never, _, _ => .bad
def evSs (g : G) : List CS → Sg → Mem → R Fl
  | [], σ, M => .ok (.nx σ) M
  | s :: r, σ, M => (evS g s σ M).bind fun f M1 => match f with
    | .nx σ1 => evSs g r σ1 M1
    | f => .ok f M1
end
/-! ### defs -/
structure Df where
  ps : Nat
  nN : Nat
  retRef : Bool
  body : List CS
abbrev Pr := List Df
/-- what a call leaves: the caller's memory, a value free of the callee's own lists -/
def fin (n : Nat) (refOk : Bool) : D → Mem → R D
  | .p d, M => .ok (.p d) (M.take n)
  | .clo _, _ => .bad
  | .scr _, _ => .bad
  | .loc j, M => if j < n then .ok (.loc j) (M.take n) else match M[j]? with
    | some xs => if refOk then .ok (.loc n) (M.take n ++ [xs]) else .ok (.p (.list xs)) (M.take n)
    | none => .bad
  | .dic t j, M => if j < n then .ok (.dic t j) (M.take n) else match M[j]? with
    | some xs => if refOk then .ok (.dic t n) (M.take n ++ [xs]) else .bad
    | none => .bad
def finF (n : Nat) (refOk : Bool) : R Fl → R D
  | .ok (.ret d) M => fin n refOk d M
  | .ok (.nx _) M => .ok (.p .none) (M.take n)
  | .ok _ _ => .bad
  | .exc x M => .exc x (M.take n)
  | .bad => .bad
def finE (n : Nat) : R D → R D
  | .ok d M => fin n false d M
  | .exc x M => .exc x (M.take n)
  | .bad => .bad
inductive Cal where | fn (f : Nat) | clo (n : Nat)
def run (pr : Pr) (fuel : Nat) : Nat → List Clo → Cal → List D → Mem → R D
  | 0, _, _, _, _ => .bad
  | k + 1, C, c, ds, M =>
    let g : G := ⟨fun f ds M => run pr fuel k C (.fn f) ds M, fun n ds M => run pr fuel k C (.clo n) ds M,
      fun f ds c M => run pr fuel k (C ++ [c]) (.fn f) (ds ++ [.clo C.length]) M, fuel⟩
    match c with
    | .fn f => (match pr[f]? with
      | some d => if ds.length = d.ps then finF M.length d.retRef (evSs g d.body (start d.nN ds) M) else .bad
      | none => .bad)
    | .clo n => (match C[n]? with
      | some c => if ds.length = c.ps then finE M.length (evE g c.body (start c.nN (ds ++ c.caps)) M) else .bad
      | none => .bad)
def gOf (pr : Pr) (fuel k : Nat) (C : List Clo) : G :=
  ⟨fun f ds M => run pr fuel k C (.fn f) ds M, fun n ds M => run pr fuel k C (.clo n) ds M,
      fun f ds c M => run pr fuel k (C ++ [c]) (.fn f) (ds ++ [.clo C.length]) M, fuel⟩
end Ev

end

/-! ## EvP -/
section
set_option Elab.async false
set_option linter.all false
set_option maxRecDepth 100000
set_option maxHeartbeats 2000000
/-! A program as data: what the head looks at. -/
namespace Ev
open PySem PySem.Spec PyProof.Rows L2
structure DI where
  name : Str
  ix : Nat
  N : List Str
  ps : List Str
  lm : Bool
  d : Df
/-- a class of exceptions: where it stands, the classes that an except clause of it takes, the field that its __init__ stores -/
structure CI where
  name : Str
  ix : Nat
  subs : Option (List Nat)
  kit : Option (List Nat)
  ini : Option Str
def initSt : Stmt → Stmt
  | .ClassDef _ _ _ (f :: _) _ _ _ _ _ _ _ => f
  | s => s
structure Prg where
  top : Nat → Stmt
  dis : List DI
  nums : List (Str × Int)
  free : List Str
  cls : List CI
  cons : List (Str × PyData)
  wds : List (Str × List (Str × PyData))
def Prg.mkI (p : Prg) (q : CI) : He.DefD := ⟨(q.name, some "__init__"), "__init__", q.name ++ ".__init__", defArgs (initSt (p.top q.ix)), defBody (initSt (p.top q.ix)), defScope (initSt (p.top q.ix)), [], []⟩
def oexB (K : PySem.W.Frag) (C : Addr) : Bool :=
  (match K.lookup C with
    | some ⟨.type "type", _, .cls cd, sl⟩ => (match cd.mro, sl.toList with
      | .ref C' :: bm, [_, _, _, _, some (.builtin n), _] => decide (C' = C) && (n == "ValueError.__new__" && (cd.hasDict && (!cd.hasDel && HandSPX.refsVE bm)))
      | _, _ => false)
    | _ => false) && He.eqO (PySem.W.findIn K (.ref C) "__setattr__") (some (some (.builtin "object.__setattr__")))
def excCB (K : PySem.W.Frag) (C : Addr) : Bool :=
  He.eqO (PySem.W.findIn K (.ref C) "__getattribute__") (some (some (.builtin "BaseException.__getattribute__"))) && (He.eqO (PySem.W.findIn K (.ref C) "__getattr__") (some none) && (decide (PySem.W.subIn K (.ref C) (.type "BaseException") = some true) && (PySem.W.hasDictIn K C && (He.eqO (PySem.W.findIn K (.ref C) "__class__") (some (some (.builtin "object.__class__"))) &&
    (He.eqO (PySem.W.specialIn K (.builtin "object.__class__") "__get__") (some (some (.builtin "getset_descriptor.__get__"))) && (decide (PySem.W.takesIn K (.builtin "object.__class__") = some true) && decide (PySem.W.mroIn K C (.type "object") = some true)))))))
def xbaseB (K : PySem.W.Frag) (C : Addr) : Bool := PySem.W.keepIn K (.ref C) && (decide (PySem.W.subIn K (.ref C) (.type "BaseException") = some true) && decide (PySem.W.typeIn K (.ref C) = some (.type "type")))
def Prg.clsB (p : Prg) (K : PySem.W.Frag) : Bool :=
  p.cls.all (fun q => xbaseB K (He.ga K q.name) && ((match p.cls.any fun d => d.kit.isSome with | true => excCB K (He.ga K q.name) | false => true) && (match q.ini with
    | none => PySem.W.excIn K (He.ga K q.name) He.veBase "ValueError.__new__"
    | some f => oexB K (He.ga K q.name) && (He.eqO (PySem.W.findIn K (.ref (He.ga K q.name)) f) (some none) && (He.eqO (PySem.W.findIn K (.ref (He.ga K q.name)) "__init__") (some (some (.ref (He.ma K (He.ga K q.name) "__init__")))) && decide (PySem.W.typeIn K (.ref (He.ma K (He.ga K q.name) "__init__")) = some (.type "function"))))))) &&
  (p.cls.zipIdx.all fun a => p.cls.all fun d => (match d.subs with | none => true | some l => decide (PySem.W.exmOne K (.ref (He.ga K a.1.name)) (.ref (He.ga K d.name)) = some (l.contains a.2))) && (match d.kit with | none => true | some l => decide (PySem.W.kitOne K (.ref (He.ga K a.1.name)) (.ref (He.ga K d.name)) = some (l.contains a.2))))
/-! constants -/
mutual
def relK (K : PySem.W.Frag) : PyData → Value → Bool
  | .none, u => (match u with | .none => true | _ => false)
  | .bool a, u => (match u with | .bool b => a == b | _ => false)
  | .int i, u => (match u with | .int j _ => decide (i = j) | _ => false)
  | .str x, u => (match u with | .str y _ => decide (x = y) | _ => false)
  | .tuple ds, u => (match u with
    | .ref a => (match K.lookup a with
      | some ⟨.type c, none, .seq its _, _⟩ => decide (c = "tuple") && (decide (its.size ≤ 1000) && relKs K ds its.toList)
      | _ => false)
    | _ => false)
  | .list _, _ => false
  | .dict _, _ => false
def relKs (K : PySem.W.Frag) : List PyData → List Value → Bool
  | [], us => us.isEmpty
  | d :: ds, us => (match us with
    | u :: r => relK K d u && relKs K ds r
    | [] => false)
end
def relN (K : PySem.W.Frag) (a : Addr) (x : Str) (d : PyData) : Bool := match PySem.W.nsIn K a x with
  | some (some u) => relK K d u
  | _ => false
def Prg.conB (p : Prg) (K : PySem.W.Frag) : Bool := (p.cons.all fun q => relN K mainGlobals q.1 q.2) && (p.wds.all fun q => q.2.all fun r => relN K (He.ga K q.1) r.1 r.2)
def Prg.ts (p : Prg) : List He.Tab := p.wds.map fun q => ((fun K => He.ga K q.1), q.2.map (·.1))
def Prg.mkD (p : Prg) (i : DI) : He.DefD := ⟨(i.name, none), i.name, i.name, defArgs (p.top i.ix), defBody (p.top i.ix), defScope (p.top i.ix), [], []⟩
def Prg.fns (p : Prg) : List He.DefD := p.dis.map p.mkD ++ (p.cls.filter fun q => q.ini.isSome).map p.mkI
def Prg.fa (p : Prg) : List He.Fa := p.dis.map (fun i => .glo i.name) ++ (p.free.map .free ++ ((p.nums.map fun q => .int q.1 q.2) ++ p.cls.map (fun q => .glo q.name) ++ p.wds.map fun q => .glo q.1))
def Prg.tf (p : Prg) : List He.Defn := (p.dis.filter (·.lm)).map fun i => (i.name, none)
def Prg.ex (p : Prg) : PySem.W.Frag → Bool := fun K => decide ((p.tf.map fun q => (He.cT K q).2).Nodup) && (p.clsB K && p.conB K)
end Ev

end

/-! ## EvH -/
section
set_option Elab.async false
set_option linter.all false
set_option maxRecDepth 100000
set_option maxHeartbeats 2000000
/-! What the head looks at, gathered in one walk: the addresses seen are the bits of one number. -/
namespace Ev
open PySem PySem.Spec PyProof.Rows L2
/-- the new ones of `rs`: the bits, the addresses -/
def newOf (rs : List Addr) (x : Nat × List Addr) : Nat × List Addr := rs.foldl (fun y a => match Nat.beq (Nat.land (Nat.shiftRight y.1 a) 1) 1 with
  | true => y
  | false => (Nat.lor y.1 (Nat.shiftLeft 1 a), a :: y.2)) x
def ring (g : Addr → Option Obj) (fr : List Addr) (v : Nat) : Nat × List Addr := fr.foldl (fun y a => match g a with
  | some o => newOf (He.refsD o) y
  | none => y) (v, [])
def gath (g : Addr → Option Obj) : Nat → List Addr → Nat → List Addr
  | 0, fr, _ => fr
  | n + 1, fr, v => match ring g fr v with
    | (v2, fr2) => fr ++ gath g n fr2 v2
def asY (g : Addr → Option Obj) (n : Nat) : List Addr := gath g n [mainGlobals] (Nat.shiftLeft 1 mainGlobals)
def obsY (n : Nat) (p : Prg) (g : Addr → Option Obj) : He.AlX := match He.frT g (asY g n) with
  | K => (He.obsT p.fa p.fns p.ts K, p.ex K && He.tabsB g p.tf K)
theorem saysY {p : Prg} {w : World} {h : Heap} {as : List Addr} (e : (He.obsT p.fa p.fns p.ts (He.frT h.get? as), p.ex (He.frT h.get? as) && He.tabsB h.get? p.tf (He.frT h.get? as)) = He.valX p.fns p.ts w) : He.SaysX p.fa p.fns p.ts p.tf p.ex w h (He.frT h.get? as) := by
  injection e with e1 e2
  have e2 : (p.ex (He.frT h.get? as) && He.tabsB h.get? p.tf (He.frT h.get? as)) = true := e2
  rw [Bool.and_eq_true] at e2
  have tab : ∀ q ∈ p.tf, PySem.W.codeHdIn (He.frT h.get? as) (He.cT (He.frT h.get? as) q).1 (He.cT (He.frT h.get? as) q).2 = true ∧ ∃ o, h.get? (He.cT (He.frT h.get? as) q).2 = some o ∧ He.emptyTab o = true := fun q hq => by
    have z := List.all_eq_true.mp e2.2 q hq
    rw [Bool.and_eq_true] at z
    refine ⟨z.1, ?_⟩
    have z2 := z.2
    generalize h.get? (He.cT (He.frT h.get? as) q).2 = u at z2
    cases u with
    | none => cases z2
    | some o => exact ⟨o, rfl, z2⟩
  constructor
  · exact e1
  · exact e2.1
  · exact fun q hq => (tab q hq).1
  · intro q hq
    obtain ⟨_, o, h1, h2⟩ := tab q hq
    exact He.frT_none h1 h2
  · intro q hq
    obtain ⟨_, o, h1, h2⟩ := tab q hq
    rw [h1, He.emptyTab_eq h2]
def hookY (n : Nat) (p : Prg) : PySem.W.Hook where
  α := He.AlX
  obs s := obsY n p s.heap.get?
  val w := He.valX p.fns p.ts w
  says w h := ∃ K : PySem.W.Frag, K.In h ∧ He.SaysX p.fa p.fns p.ts p.tf p.ex w h K
  of w s e := ⟨He.frT s.heap.get? (asY s.heap.get? n), He.frT_in, saysY e⟩
  keeps w h h' := fun ⟨K, hK, c⟩ k => ⟨K, PySem.W.Frag.In.keeps hK k, { c with empty := fun q hq => k _ _ (c.empty q hq) }⟩
theorem obsY_eq {n : Nat} {p : Prg} {g : Addr → Option Obj} {s : Shared} (h : ∀ a, g a = s.heap.get? a) : obsY n p g = (hookY n p).obs s := by
  rw [show g = s.heap.get? from funext h]
  rfl
end Ev

end

/-! ## Co_k68 -/
section
set_option Elab.async false
set_option linter.all false
set_option maxRecDepth 100000
/-! The core of the program. -/
namespace Pg
open PySem Ev

def k_WAYS : PyData := .tuple [.str "down", .str "even", .str "near", .str "up"]
def w_HIGHS : List (Str × PyData) := [("times", .int 20), ("share", .int 20), ("left", .int 20), ("packs", .int 20), ("each", .int 20), ("move", .int 60), ("within", .int 30)]
def w_LOWS : List (Str × PyData) := [("times", .int (-20)), ("share", .int 1), ("left", .int 1), ("packs", .int 1), ("each", .int 1), ("move", .int (-60)), ("within", .int 0)]
def w_SIZES : List (Str × PyData) := [("flat", .int 2), ("pieces", .int 1), ("step", .int 2), ("list", .int 4), ("plus", .int 3), ("less", .int 3), ("max", .int 3), ("min", .int 3), ("split", .int 3), ("into", .int 3), ("times", .int 3), ("share", .int 3), ("left", .int 3), ("packs", .int 3), ("each", .int 3), ("move", .int 3), ("within", .int 3), ("change", .int 2), ("high", .int 2), ("low", .int 2)]
def w_SPOTS : List (Str × PyData) := [("flat", .tuple []), ("pieces", .tuple []), ("step", .tuple []), ("list", .tuple []), ("plus", .tuple [.int 1, .int 2]), ("less", .tuple [.int 1, .int 2]), ("max", .tuple [.int 1, .int 2]), ("min", .tuple [.int 1, .int 2]), ("split", .tuple [.int 1, .int 2]), ("into", .tuple [.int 1, .int 2]), ("times", .tuple [.int 2]), ("share", .tuple [.int 2]), ("left", .tuple [.int 2]), ("packs", .tuple [.int 2]), ("each", .tuple [.int 2]), ("move", .tuple [.int 2]), ("within", .tuple [.int 2]), ("change", .tuple [.int 1]), ("high", .tuple [.int 1]), ("low", .tuple [.int 1])]
def d_is_integer : Df := ⟨1, 1, false, [.ret (.and (.isi (.var 0) [.int]) (.not (.isi (.var 0) [.bool])))]⟩
def d_is_within : Df := ⟨3, 3, false, [.ret (.and (.call 0 [.var 0]) (.chain .le .le (.var 1) (.var 0) (.var 2)))]⟩
def d_is_number : Df := ⟨1, 1, false, [.ret (.and (.call 0 [.var 0]) (.cmp .ge (.var 0) (.int 0)))]⟩
def d_is_sized : Df := ⟨3, 3, false, [.ret (.and (.isi (.var 0) [.tuple]) (.chain .le .le (.var 1) (.bi .len [.var 0]) (.var 2)))]⟩
def d_common_part : Df := ⟨2, 2, false, [.whl (.cmp .gt (.var 1) (.int 0)) [.par 0 1 (.var 1) (.bin .mod (.var 0) (.var 1))], .ret (.var 0)]⟩
def d_common_round : Df := ⟨2, 2, false, [.ret (.bin .mul (.bin .div (.var 0) (.call 4 [.var 0, .var 1])) (.var 1))]⟩
def d_up_by : Df := ⟨2, 2, false, [.ret (.bin .sub (.int 0) (.bin .div (.bin .sub (.int 0) (.var 0)) (.var 1)))]⟩
def d_is_form : Df := ⟨1, 4, false, [.ite (.or (.not (.call 3 [.var 0, .int 4, .int 4])) (.or (.not (.call 1 [.idx (.var 0) (.int 0), .int 0, .int 5000])) (.not (.call 1 [.idx (.var 0) (.int 1), .int 1, .int 5000])))) [.ret (.bl false)] [], .asg 1 (.bin .add (.idx (.var 0) (.int 0)) (.idx (.var 0) (.int 1))), .ite (.or (.cmp .gt (.var 1) (.int 5000)) (.or (.not (.call 0 [.idx (.var 0) (.int 2)])) (.not (.call 3 [.idx (.var 0) (.int 3), .var 1, .var 1])))) [.ret (.bl false)] [], .ret (.bi .all [.comp (.one 3) .seq [.idx (.var 0) (.int 3)] [] [2, 3] (.call 0 [.var 3])])]⟩
def d_check_form : Df := ⟨1, 1, false, [.ite (.not (.call 7 [.var 0])) [.raise 2 []] []]⟩
def d_check_two : Df := ⟨2, 2, false, [.expr (.call 8 [.var 0]), .expr (.call 8 [.var 1])]⟩
def d_check_number : Df := ⟨1, 1, false, [.ite (.not (.call 2 [.var 0])) [.raise 3 []] []]⟩
def d_check_width : Df := ⟨2, 2, false, [.ite (.cmp .gt (.bin .add (.var 0) (.var 1)) (.int 5000)) [.raise 9 [.int 5000]] []]⟩
def d_raw_price : Df := ⟨2, 6, false, [.unp [2, 3, 4, 5] (.var 0), .ite (.cmp .lt (.var 1) (.bin .add (.var 2) (.var 3))) [.ret (.idx (.var 5) (.var 1))] [], .ret (.bin .add (.idx (.var 5) (.bin .add (.var 2) (.bin .mod (.bin .sub (.var 1) (.var 2)) (.var 3)))) (.bin .mul (.bin .div (.bin .sub (.var 1) (.var 2)) (.var 3)) (.var 4)))]⟩
def d_price_at : Df := ⟨2, 2, false, [.expr (.call 8 [.var 0]), .expr (.call 10 [.var 1]), .ret (.call 12 [.var 0, .var 1])]⟩
def d_does_repeat : Df := ⟨4, 7, false, [.asg 4 (.bi .lrange [.var 1, .bin .add (.var 1) (.idx (.var 0) (.int 1))]), .ret (.bi .all [.comp (.one 6) .seq [.var 4] [] [5, 6] (.cmp .eq (.call 12 [.var 0, .bin .add (.var 6) (.var 2)]) (.bin .add (.call 12 [.var 0, .var 6]) (.var 3)))])]⟩
def d_raw_least : Df := ⟨1, 10, false, [.unp [1, 2, 3, 4] (.var 0), .asg 5 (.var 2), .for_ (.one 6) .range [.var 2, .int 0, .neg (.int 1)] [.ite (.and (.cmp .eq (.bin .mod (.var 2) (.var 6)) (.int 0)) (.cmp .eq (.bin .mod (.bin .mul (.var 3) (.var 6)) (.var 2)) (.int 0))) [.ite (.call 14 [.var 0, .var 1, .var 6, .bin .div (.bin .mul (.var 3) (.var 6)) (.var 2)]) [.asg 5 (.var 6)] []] []], .asg 7 (.bin .div (.bin .mul (.var 3) (.var 5)) (.var 2)), .whl (.and (.cmp .gt (.var 1) (.int 0)) (.cmp .eq (.call 12 [.var 0, .bin .add (.bin .sub (.var 1) (.int 1)) (.var 5)]) (.bin .add (.idx (.var 4) (.bin .sub (.var 1) (.int 1))) (.var 7)))) [.asg 1 (.bin .sub (.var 1) (.int 1))], .ret (.tup [.var 1, .var 5, .var 7, .bi .tuple [.comp (.one 9) .range [.bin .add (.var 1) (.var 5)] [] [8, 9] (.call 12 [.var 0, .var 9])]])]⟩
def d_made : Df := ⟨4, 6, false, [.expr (.call 11 [.var 0, .var 1]), .ret (.call 15 [.tup [.var 0, .var 1, .var 2, .bi .tuple [.comp (.one 5) .range [.bin .add (.var 0) (.var 1)] [] [4, 5] (.cl 3 [.var 5])]]])]⟩
def d_least : Df := ⟨1, 1, false, [.expr (.call 8 [.var 0]), .ret (.call 15 [.var 0])]⟩
def d_raw_bounds : Df := ⟨1, 1, false, [.ret (.tup [.ife (.cmp .ge (.idx (.var 0) (.int 2)) (.int 0)) (.bi .min [.idx (.var 0) (.int 3)]) (.non), .ife (.cmp .le (.idx (.var 0) (.int 2)) (.int 0)) (.bi .max [.idx (.var 0) (.int 3)]) (.non)])]⟩
def d_bounds_of : Df := ⟨1, 1, false, [.expr (.call 8 [.var 0]), .ret (.call 18 [.var 0])]⟩
def d_rise_in : Df := ⟨2, 2, false, [.ret (.bin .mul (.idx (.var 0) (.int 2)) (.bin .div (.var 1) (.idx (.var 0) (.int 1))))]⟩
def d_raw_added : Df := ⟨2, 4, false, [.asg 2 (.call 5 [.idx (.var 0) (.int 1), .idx (.var 1) (.int 1)]), .asg 3 (.bin .add (.call 20 [.var 0, .var 2]) (.call 20 [.var 1, .var 2])), .ret (.lam 16 [.bi .max [.idx (.var 0) (.int 0), .idx (.var 1) (.int 0)], .var 2, .var 3] 1 5 [0, 1] (.bin .add (.call 12 [.var 1, .var 0]) (.call 12 [.var 2, .var 0])))]⟩
def d_added : Df := ⟨2, 2, false, [.expr (.call 9 [.var 0, .var 1]), .ret (.call 21 [.var 0, .var 1])]⟩
def d_raw_lessened : Df := ⟨2, 4, false, [.asg 2 (.call 5 [.idx (.var 0) (.int 1), .idx (.var 1) (.int 1)]), .asg 3 (.bin .sub (.call 20 [.var 0, .var 2]) (.call 20 [.var 1, .var 2])), .ret (.lam 16 [.bi .max [.idx (.var 0) (.int 0), .idx (.var 1) (.int 0)], .var 2, .var 3] 1 5 [0, 1] (.bin .sub (.call 12 [.var 1, .var 0]) (.call 12 [.var 2, .var 0])))]⟩
def d_lessened : Df := ⟨2, 2, false, [.expr (.call 9 [.var 0, .var 1]), .ret (.call 23 [.var 0, .var 1])]⟩
def d_won_from : Df := ⟨2, 8, false, [.par 2 3 (.bi .max [.idx (.var 0) (.int 0), .idx (.var 1) (.int 0)]) (.call 5 [.idx (.var 0) (.int 1), .idx (.var 1) (.int 1)]), .asg 4 (.bin .sub (.call 20 [.var 0, .var 3]) (.call 20 [.var 1, .var 3])), .asg 5 (.comp (.one 7) .range [.var 2, .bin .add (.var 2) (.var 3)] [] [6, 7] (.call 6 [.bin .sub (.call 12 [.var 1, .var 7]) (.call 12 [.var 0, .var 7]), .var 4])), .ret (.bin .add (.var 2) (.bin .mul (.var 3) (.bi .max [.bin .add (.lst [.int 0]) (.var 5)])))]⟩
def d_raw_greater : Df := ⟨2, 8, false, [.asg 2 (.call 5 [.idx (.var 0) (.int 1), .idx (.var 1) (.int 1)]), .par 3 4 (.call 20 [.var 0, .var 2]) (.call 20 [.var 1, .var 2]), .ite (.cmp .eq (.var 3) (.var 4)) [.ret (.lam 16 [.bi .max [.idx (.var 0) (.int 0), .idx (.var 1) (.int 0)], .var 2, .var 3] 1 9 [0, 1] (.bi .max [.call 12 [.var 1, .var 0], .call 12 [.var 2, .var 0]]))] [], .unp [5, 6] (.ife (.cmp .gt (.var 3) (.var 4)) (.tup [.var 0, .var 1]) (.tup [.var 1, .var 0])), .asg 7 (.call 25 [.var 5, .var 6]), .ret (.lam 16 [.var 7, .idx (.var 5) (.int 1), .idx (.var 5) (.int 2)] 1 9 [0, 1] (.bi .max [.call 12 [.var 1, .var 0], .call 12 [.var 2, .var 0]]))]⟩
def d_turned : Df := ⟨1, 3, false, [.ret (.tup [.idx (.var 0) (.int 0), .idx (.var 0) (.int 1), .bin .sub (.int 0) (.idx (.var 0) (.int 2)), .bi .tuple [.comp (.one 2) .seq [.idx (.var 0) (.int 3)] [] [1, 2] (.bin .sub (.int 0) (.var 2))]])]⟩
def d_raw_lesser : Df := ⟨2, 2, false, [.ret (.call 27 [.call 26 [.call 27 [.var 0], .call 27 [.var 1]]])]⟩
def d_raw_scaled : Df := ⟨2, 2, false, [.ret (.lam 16 [.idx (.var 0) (.int 0), .idx (.var 0) (.int 1), .bin .mul (.var 1) (.idx (.var 0) (.int 2))] 1 3 [0, 1] (.bin .mul (.var 2) (.call 12 [.var 1, .var 0])))]⟩
def d_scaled : Df := ⟨2, 2, false, [.expr (.call 8 [.var 0]), .ite (.not (.call 1 [.var 1, .bin .sub (.int 0) (.int 20), .int 20])) [.raise 1 []] [], .ret (.call 29 [.var 0, .var 1])]⟩
def d_check_share : Df := ⟨2, 2, false, [.expr (.call 8 [.var 0]), .ite (.not (.call 1 [.var 1, .int 1, .int 20])) [.raise 6 []] []]⟩
def d_raw_shared : Df := ⟨2, 2, false, [.ret (.lam 16 [.idx (.var 0) (.int 0), .bin .mul (.idx (.var 0) (.int 1)) (.var 1), .idx (.var 0) (.int 2)] 1 3 [0, 1] (.bin .div (.call 12 [.var 1, .var 0]) (.var 2)))]⟩
def d_shared : Df := ⟨2, 2, false, [.expr (.call 31 [.var 0, .var 1]), .ret (.call 32 [.var 0, .var 1])]⟩
def d_raw_left : Df := ⟨2, 2, false, [.ret (.lam 16 [.idx (.var 0) (.int 0), .bin .mul (.idx (.var 0) (.int 1)) (.var 1), .int 0] 1 3 [0, 1] (.bin .mod (.call 12 [.var 1, .var 0]) (.var 2)))]⟩
def d_raw_moved : Df := ⟨2, 2, false, [.ret (.lam 16 [.bi .max [.int 0, .bin .sub (.idx (.var 0) (.int 0)) (.var 1)], .idx (.var 0) (.int 1), .idx (.var 0) (.int 2)] 1 3 [0, 1] (.call 12 [.var 1, .bi .max [.int 0, .bin .add (.var 0) (.var 2)]]))]⟩
def d_raw_packed : Df := ⟨2, 2, false, [.ret (.lam 16 [.bin .mul (.idx (.var 0) (.int 0)) (.var 1), .bin .mul (.idx (.var 0) (.int 1)) (.var 1), .idx (.var 0) (.int 2)] 1 3 [0, 1] (.call 12 [.var 1, .call 6 [.var 0, .var 2]]))]⟩
def d_raw_unpacked : Df := ⟨2, 3, false, [.asg 2 (.call 4 [.idx (.var 0) (.int 1), .var 1]), .ret (.lam 16 [.call 6 [.idx (.var 0) (.int 0), .var 1], .bin .div (.idx (.var 0) (.int 1)) (.var 2), .bin .mul (.idx (.var 0) (.int 2)) (.bin .div (.var 1) (.var 2))] 1 4 [0, 1] (.call 12 [.var 1, .bin .mul (.var 2) (.var 0)]))]⟩
def d_raw_change : Df := ⟨1, 1, false, [.ret (.lam 16 [.idx (.var 0) (.int 0), .idx (.var 0) (.int 1), .int 0] 1 2 [0] (.bin .sub (.call 12 [.var 1, .bin .add (.var 0) (.int 1)]) (.call 12 [.var 1, .var 0])))]⟩
def d_running : Df := ⟨2, 4, false, [.asg 2 (.lstM []), .for_ (.one 3) .range [.var 1] [.expr (.me .append (.var 2) [.ife (.cmp .gt (.var 3) (.int 0)) (.bi .max [.idx (.var 2) (.neg (.int 1)), .call 12 [.var 0, .var 3]]) (.call 12 [.var 0, .int 0])])], .ret (.var 2)]⟩
def d_raw_highest : Df := ⟨1, 8, false, [.par 1 2 (.bin .add (.idx (.var 0) (.int 0)) (.idx (.var 0) (.int 1))) (.idx (.var 0) (.int 1)), .ite (.cmp .le (.idx (.var 0) (.int 2)) (.int 0)) [.asg 5 (.call 39 [.var 0, .bin .add (.var 1) (.int 1)]), .ret (.lam 16 [.var 1, .int 1, .int 0] 1 8 [5] (.idx (.var 1) (.var 0)))] [], .asg 3 (.bi .max [.comp (.one 7) .range [.var 1] [] [6, 7] (.call 12 [.var 0, .var 7])]), .asg 4 (.bi .max [.comp (.one 7) .range [.idx (.var 0) (.int 0), .bin .add (.var 1) (.int 1)] [] [6, 7] (.call 12 [.var 0, .var 7])]), .asg 1 (.bin .add (.var 1) (.bin .mul (.var 2) (.bi .max [.int 0, .call 6 [.bin .sub (.var 3) (.var 4), .idx (.var 0) (.int 2)]]))), .expr (.call 11 [.var 1, .var 2]), .asg 5 (.call 39 [.var 0, .bin .add (.var 1) (.var 2)]), .ret (.lam 16 [.var 1, .var 2, .idx (.var 0) (.int 2)] 1 8 [5] (.idx (.var 1) (.var 0)))]⟩
def d_raw_lowest : Df := ⟨1, 1, false, [.ret (.call 27 [.call 40 [.call 27 [.var 0]]])]⟩
def d_raw_within : Df := ⟨2, 4, false, [.ret (.lam 16 [.idx (.var 0) (.int 0), .idx (.var 0) (.int 1), .idx (.var 0) (.int 2)] 1 5 [0, 1] (.bi .min [.comp (.one 4) .range [.bin .add (.var 2) (.int 1)] [] [3, 4] (.call 12 [.var 1, .bin .add (.var 0) (.var 4)])]))]⟩
def d_split_from : Df := ⟨2, 12, false, [.asg 2 (.call 5 [.idx (.var 0) (.int 1), .idx (.var 1) (.int 1)]), .asg 3 (.bin .add (.bin .add (.idx (.var 0) (.int 0)) (.idx (.var 1) (.int 0))) (.var 2)), .expr (.call 11 [.var 3, .idx (.var 0) (.int 1)]), .asg 4 (.bin .sub (.call 20 [.var 1, .var 2]) (.call 20 [.var 0, .var 2])), .par 5 6 (.lstM [.int 0]) (.bi .lrange [.var 3, .bin .add (.var 3) (.var 2)]), .for_ (.one 7) .seq [.ife (.cmp .gt (.idx (.var 0) (.int 0)) (.int 0)) (.var 6) (.lst [])] [.asg 8 (.bi .min [.comp (.one 11) .range [.bin .add (.bin .sub (.var 7) (.idx (.var 0) (.int 0))) (.int 1)] [] [10, 11] (.bin .add (.call 12 [.var 0, .bin .sub (.var 7) (.var 11)]) (.call 12 [.var 1, .var 11]))]), .asg 9 (.bi .min [.comp (.one 11) .range [.idx (.var 0) (.int 0)] [] [10, 11] (.bin .add (.call 12 [.var 0, .var 11]) (.call 12 [.var 1, .bin .sub (.var 7) (.var 11)]))]), .expr (.me .append (.var 5) [.call 6 [.bin .sub (.var 8) (.var 9), .var 4]])], .ret (.bin .add (.var 3) (.bin .mul (.var 2) (.bi .max [.var 5])))]⟩
def d_split_at : Df := ⟨3, 6, false, [.ret (.bi .min [.comp (.many [4, 5]) .zip [.slc (.var 0) [] [.bin .add (.var 2) (.int 1)], .revn (.var 1) (.var 2)] [] [3, 4, 5] (.bin .add (.var 4) (.var 5))])]⟩
def d_raw_split : Df := ⟨2, 13, false, [.asg 2 (.call 5 [.idx (.var 0) (.int 1), .idx (.var 1) (.int 1)]), .par 3 4 (.call 20 [.var 0, .var 2]) (.call 20 [.var 1, .var 2]), .ite (.cmp .eq (.var 3) (.var 4)) [.par 5 6 (.bin .add (.bin .add (.idx (.var 0) (.int 0)) (.idx (.var 1) (.int 0))) (.var 2)) (.var 3)] [.unp [7, 8] (.ife (.cmp .lt (.var 3) (.var 4)) (.tup [.var 0, .var 1]) (.tup [.var 1, .var 0])), .parN [5, 2, 6] [.call 43 [.var 7, .var 8], .idx (.var 7) (.int 1), .idx (.var 7) (.int 2)]], .expr (.call 11 [.var 5, .var 2]), .asg 9 (.comp (.one 12) .range [.bin .add (.var 5) (.var 2)] [] [11, 12] (.call 12 [.var 0, .var 12])), .asg 10 (.comp (.one 12) .range [.bin .add (.var 5) (.var 2)] [] [11, 12] (.call 12 [.var 1, .var 12])), .ret (.lam 16 [.var 5, .var 2, .var 6] 1 13 [9, 10] (.call 44 [.var 1, .var 2, .var 0]))]⟩
def d_raw_has : Df := ⟨2, 5, false, [.unp [2, 3, 4] (.var 0), .ret (.ife (.cmp .lt (.var 1) (.bin .add (.var 2) (.var 3))) (.idx (.var 4) (.var 1)) (.idx (.var 4) (.bin .add (.var 2) (.bin .mod (.bin .sub (.var 1) (.var 2)) (.var 3)))))]⟩
def d_raw_least_set : Df := ⟨1, 9, false, [.unp [1, 2, 3] (.var 0), .asg 4 (.slc (.var 3) [.var 1] []), .asg 5 (.idx (.comp (.one 7) .range [.int 1, .bin .add (.var 2) (.int 1)] [.and (.cmp .eq (.bin .mod (.var 2) (.var 7)) (.int 0)) (.cmp .eq (.bin .mul (.slc (.var 4) [] [.var 7]) (.bin .div (.var 2) (.var 7))) (.var 4))] [6, 7] (.var 7)) (.int 0)), .whl (.and (.cmp .gt (.var 1) (.int 0)) (.cmp .eq (.call 46 [.var 0, .bin .add (.bin .sub (.var 1) (.int 1)) (.var 5)]) (.idx (.var 3) (.bin .sub (.var 1) (.int 1))))) [.asg 1 (.bin .sub (.var 1) (.int 1))], .ret (.tup [.var 1, .var 5, .bi .tuple [.comp (.one 8) .range [.bin .add (.var 1) (.var 5)] [] [6, 8] (.call 46 [.var 0, .var 8])]])]⟩
def d_made_set : Df := ⟨3, 5, false, [.expr (.call 11 [.var 0, .var 1]), .ret (.call 47 [.tup [.var 0, .var 1, .bi .tuple [.comp (.one 4) .range [.bin .add (.var 0) (.var 1)] [] [3, 4] (.cl 2 [.var 4])]]])]⟩
def d_signed_from : Df := ⟨2, 8, false, [.par 2 3 (.bi .max [.idx (.var 0) (.int 0), .idx (.var 1) (.int 0)]) (.call 5 [.idx (.var 0) (.int 1), .idx (.var 1) (.int 1)]), .asg 4 (.bin .sub (.bin .mul (.idx (.var 0) (.int 2)) (.bin .div (.var 3) (.idx (.var 0) (.int 1)))) (.bin .mul (.idx (.var 1) (.int 2)) (.bin .div (.var 3) (.idx (.var 1) (.int 1))))), .ite (.cmp .eq (.var 4) (.int 0)) [.ret (.tup [.var 2, .var 3])] [], .asg 5 (.lstM [.int 0]), .for_ (.one 6) .range [.var 2, .bin .add (.var 2) (.var 3)] [.asg 7 (.bin .sub (.call 12 [.var 0, .var 6]) (.call 12 [.var 1, .var 6])), .expr (.me .append (.var 5) [.ife (.cmp .gt (.var 4) (.int 0)) (.call 6 [.bin .sub (.int 1) (.var 7), .var 4]) (.call 6 [.bin .add (.int 1) (.var 7), .bin .sub (.int 0) (.var 4)])])], .ret (.tup [.bin .add (.var 2) (.bin .mul (.var 3) (.bi .max [.var 5])), .int 1])]⟩
def d_raw_where_like : Df := ⟨2, 4, false, [.unp [2, 3] (.call 49 [.var 0, .var 1]), .ret (.lam 48 [.var 2, .var 3] 1 5 [0, 1] (.cmp .eq (.call 12 [.var 1, .var 0]) (.call 12 [.var 2, .var 0])))]⟩
def d_least_out : Df := ⟨1, 1, false, [.ret (.ife (.cmp .isin (.bl false) (.idx (.var 0) (.int 2))) (.me .index (.idx (.var 0) (.int 2)) [.bl false]) (.non))]⟩
def d_check_way : Df := ⟨2, 2, false, [.ite (.not (.call 1 [.var 0, .int 1, .int 100])) [.raise 7 []] [], .ite (.or (.not (.isi (.var 1) [.str])) (.cmp .notin (.var 1) (.con k_WAYS))) [.raise 8 []] []]⟩
def d_raw_rounded : Df := ⟨3, 5, false, [.asg 3 (.bin .div (.var 0) (.var 1)), .asg 4 (.bin .sub (.var 0) (.bin .mul (.var 3) (.var 1))), .ite (.or (.cmp .eq (.var 4) (.int 0)) (.cmp .eq (.var 2) (.str "down"))) [.ret (.bin .mul (.var 3) (.var 1))] [], .ite (.or (.cmp .eq (.var 2) (.str "up")) (.cmp .gt (.bin .mul (.int 2) (.var 4)) (.var 1))) [.ret (.bin .add (.bin .mul (.var 3) (.var 1)) (.var 1))] [], .ite (.cmp .lt (.bin .mul (.int 2) (.var 4)) (.var 1)) [.ret (.bin .mul (.var 3) (.var 1))] [], .ret (.ife (.or (.cmp .eq (.var 2) (.str "near")) (.cmp .eq (.bin .mod (.var 3) (.int 2)) (.int 1))) (.bin .add (.bin .mul (.var 3) (.var 1)) (.var 1)) (.bin .mul (.var 3) (.var 1)))]⟩
def d_rounded : Df := ⟨3, 3, false, [.ite (.not (.call 0 [.var 0])) [.raise 4 []] [], .expr (.call 52 [.var 1, .var 2]), .ret (.call 53 [.var 0, .var 1, .var 2])]⟩
def d_raw_rounded_form : Df := ⟨3, 4, false, [.asg 3 (.bin .div (.bin .mul (.int 2) (.var 1)) (.call 4 [.bin .mul (.int 2) (.var 1), .bi .abs [.idx (.var 0) (.int 2)]])), .ret (.lam 16 [.idx (.var 0) (.int 0), .bin .mul (.idx (.var 0) (.int 1)) (.var 3), .bin .mul (.idx (.var 0) (.int 2)) (.var 3)] 1 5 [0, 1, 2] (.call 53 [.call 12 [.var 1, .var 0], .var 2, .var 3]))]⟩
def d_rounded_form : Df := ⟨3, 3, false, [.expr (.call 8 [.var 0]), .expr (.call 52 [.var 1, .var 2]), .ret (.call 55 [.var 0, .var 1, .var 2])]⟩
def d_raw_lost : Df := ⟨3, 3, false, [.ret (.call 23 [.call 55 [.var 0, .var 1, .var 2], .var 0])]⟩
def d_lost : Df := ⟨3, 3, false, [.expr (.call 8 [.var 0]), .expr (.call 52 [.var 1, .var 2]), .ret (.call 57 [.var 0, .var 1, .var 2])]⟩
def d_first_unlike : Df := ⟨4, 4, false, [.expr (.call 8 [.var 0]), .expr (.call 52 [.var 1, .var 2]), .expr (.call 52 [.var 1, .var 3]), .ret (.call 51 [.call 50 [.call 55 [.var 0, .var 1, .var 2], .call 55 [.var 0, .var 1, .var 3]]])]⟩
def d_is_listed : Df := ⟨1, 6, false, [.unp [1, 2, 3] (.slc (.var 0) [.int 1] []), .ite (.or (.not (.call 3 [.var 1, .int 1, .int 24])) (.not (.bi .all [.comp (.one 5) .seq [.var 1] [] [4, 5] (.call 1 [.var 5, .bin .sub (.int 0) (.int 9999), .int 9999])]))) [.ret (.bl false)] [], .ret (.and (.call 1 [.var 2, .int 1, .bi .len [.var 1]]) (.call 1 [.var 3, .bin .sub (.int 0) (.int 9999), .int 9999]))]⟩
def d_is_node : Df := ⟨1, 2, false, [.ite (.or (.not (.isi (.var 0) [.tuple])) (.or (.cmp .eq (.bi .len [.var 0]) (.int 0)) (.or (.not (.isi (.idx (.var 0) (.int 0)) [.str])) (.win true w_SIZES (.idx (.var 0) (.int 0)))))) [.ret (.bl false)] [], .asg 1 (.idx (.var 0) (.int 0)), .ite (.cmp .ne (.bi .len [.var 0]) (.wget w_SIZES (.var 1))) [.ret (.bl false)] [], .ite (.cmp .eq (.var 1) (.str "flat")) [.ret (.call 1 [.idx (.var 0) (.int 1), .bin .sub (.int 0) (.int 9999), .int 9999])] [], .ite (.cmp .eq (.var 1) (.str "step")) [.ret (.call 1 [.idx (.var 0) (.int 1), .int 0, .int 200])] [], .ite (.cmp .eq (.var 1) (.str "list")) [.ret (.call 60 [.var 0])] [], .ret (.or (.win true w_LOWS (.var 1)) (.call 1 [.idx (.var 0) (.int 1), .wget w_LOWS (.var 1), .wget w_HIGHS (.var 1)]))]⟩
def d_raw_parts : Df := ⟨1, 3, false, [.ret (.comp (.one 2) .seq [.wget w_SPOTS (.idx (.var 0) (.int 0))] [] [1, 2] (.idx (.var 0) (.var 2)))]⟩
def d_raw_is_rule : Df := ⟨1, 7, false, [.par 1 2 (.lstM [.tup [.var 0, .int 1]]) (.int 0), .whl (.cmp .gt (.bi .len [.var 1]) (.int 0)) [.unp [3, 4] (.me .pop (.var 1) []), .asg 2 (.bin .add (.var 2) (.int 1)), .ite (.or (.cmp .gt (.var 2) (.int 30)) (.or (.cmp .gt (.var 4) (.int 8)) (.not (.call 61 [.var 3])))) [.ret (.bl false)] [], .expr (.me .extend (.var 1) [.comp (.one 6) .seq [.call 62 [.var 3]] [] [5, 6] (.tup [.var 6, .bin .add (.var 4) (.int 1)])])], .ret (.bl true)]⟩
def d_check_rule : Df := ⟨1, 1, false, [.ite (.not (.call 63 [.var 0])) [.raise 5 []] []]⟩
def d_raw_nodes : Df := ⟨1, 8, false, [.par 1 2 (.lstM []) (.lstM [.tup [.tup [], .var 0]]), .whl (.cmp .gt (.bi .len [.var 2]) (.int 0)) [.unp [3, 4] (.me .pop (.var 2) []), .expr (.me .append (.var 1) [.tup [.var 3, .var 4]]), .expr (.me .extend (.var 2) [.comp (.many [6, 7]) .enum [.call 62 [.var 4]] [] [5, 6, 7] (.tup [.bin .add (.var 3) (.tup [.var 6]), .var 7])])], .ret (.var 1)]⟩
def d_leaf_form : Df := ⟨1, 2, false, [.asg 1 (.idx (.var 0) (.int 0)), .ite (.cmp .eq (.var 1) (.str "flat")) [.ret (.tup [.int 0, .int 1, .int 0, .tup [.idx (.var 0) (.int 1)]])] [], .ite (.cmp .eq (.var 1) (.str "pieces")) [.ret (.tup [.int 0, .int 1, .int 1, .tup [.int 0]])] [], .ite (.cmp .eq (.var 1) (.str "step")) [.ret (.call 15 [.tup [.idx (.var 0) (.int 1), .int 1, .int 0, .bin .add (.bin .mul (.tup [.int 0]) (.idx (.var 0) (.int 1))) (.tup [.int 1])]])] [], .ret (.call 15 [.tup [.bin .sub (.bi .len [.idx (.var 0) (.int 1)]) (.idx (.var 0) (.int 2)), .idx (.var 0) (.int 2), .idx (.var 0) (.int 3), .idx (.var 0) (.int 1)]])]⟩
def d_raw_into : Df := ⟨2, 10, false, [.unp [2, 3, 4, 5] (.var 0), .asg 6 (.slc (.var 5) [.var 2] []), .ite (.cmp .lt (.var 4) (.int 0)) [.asg 2 (.bin .add (.var 2) (.bin .mul (.var 3) (.bi .max [.bin .add (.lst [.int 0]) (.comp (.one 9) .seq [.var 6] [] [8, 9] (.call 6 [.var 9, .bin .sub (.int 0) (.var 4)]))]))), .par 3 4 (.int 1) (.int 0)] [.ite (.cmp .gt (.var 4) (.int 0)) [.asg 2 (.bin .add (.var 2) (.bin .mul (.var 3) (.bi .max [.bin .add (.lst [.int 0]) (.comp (.one 9) .seq [.var 6] [] [8, 9] (.call 6 [.bin .sub (.idx (.var 1) (.int 0)) (.var 9), .var 4]))]))), .asg 7 (.bin .div (.idx (.var 1) (.int 1)) (.call 4 [.idx (.var 1) (.int 1), .var 4])), .par 3 4 (.bin .mul (.var 3) (.var 7)) (.bin .mul (.bin .div (.bin .mul (.var 4) (.var 7)) (.idx (.var 1) (.int 1))) (.idx (.var 1) (.int 2)))] []], .ret (.lam 16 [.var 2, .var 3, .var 4] 1 11 [0, 1] (.call 12 [.var 2, .bi .max [.int 0, .call 12 [.var 1, .var 0]]]))]⟩
def d_joined_by : Df := ⟨3, 3, false, [.ite (.cmp .eq (.var 0) (.str "plus")) [.ret (.call 21 [.var 1, .var 2])] [], .ite (.cmp .eq (.var 0) (.str "less")) [.ret (.call 23 [.var 1, .var 2])] [], .ite (.cmp .eq (.var 0) (.str "max")) [.ret (.call 26 [.var 1, .var 2])] [], .ite (.cmp .eq (.var 0) (.str "min")) [.ret (.call 28 [.var 1, .var 2])] [], .ret (.ife (.cmp .eq (.var 0) (.str "split")) (.call 45 [.var 1, .var 2]) (.call 67 [.var 1, .var 2]))]⟩
def d_counted_by : Df := ⟨3, 3, false, [.ite (.cmp .eq (.var 0) (.str "times")) [.ret (.call 29 [.var 2, .var 1])] [], .ite (.cmp .eq (.var 0) (.str "share")) [.ret (.call 32 [.var 2, .var 1])] [], .ite (.cmp .eq (.var 0) (.str "left")) [.ret (.call 34 [.var 2, .var 1])] [], .ite (.cmp .eq (.var 0) (.str "packs")) [.ret (.call 36 [.var 2, .var 1])] [], .ite (.cmp .eq (.var 0) (.str "each")) [.ret (.call 37 [.var 2, .var 1])] [], .ret (.ife (.cmp .eq (.var 0) (.str "move")) (.call 35 [.var 2, .var 1]) (.call 42 [.var 2, .var 1]))]⟩
def d_form_by : Df := ⟨2, 3, false, [.asg 2 (.idx (.var 0) (.int 0)), .ite (.cmp .eq (.bi .len [.var 1]) (.int 0)) [.ret (.call 66 [.var 0])] [], .ite (.cmp .eq (.bi .len [.var 1]) (.int 2)) [.ret (.call 68 [.var 2, .idx (.var 1) (.int 0), .idx (.var 1) (.int 1)])] [], .ite (.cmp .eq (.var 2) (.str "change")) [.ret (.call 38 [.idx (.var 1) (.int 0)])] [], .ite (.cmp .isin (.var 2) (.tup [.str "high", .str "low"])) [.ret (.ife (.cmp .eq (.var 2) (.str "high")) (.call 40 [.idx (.var 1) (.int 0)]) (.call 41 [.idx (.var 1) (.int 0)]))] [], .ret (.call 69 [.var 2, .idx (.var 0) (.int 1), .idx (.var 1) (.int 0)])]⟩
def d_raw_forms : Df := ⟨1, 6, true, [.asg 1 (.dnew true), .for_ (.many [2, 3]) .seq [.rev (.call 65 [.var 0])] [.dset (.var 1) (.var 2) (.call 70 [.var 3, .comp (.one 5) .range [.bi .len [.wget w_SPOTS (.idx (.var 3) (.int 0))]] [] [4, 5] (.dget (.var 1) (.bin .add (.var 2) (.tup [.var 5])))])], .ret (.var 1)]⟩
def d_raw_form : Df := ⟨1, 1, false, [.ret (.dget (.call 71 [.var 0]) (.tup []))]⟩
def d_form_of : Df := ⟨1, 1, false, [.expr (.call 64 [.var 0]), .ret (.call 72 [.var 0])]⟩
def d_law_hand : Df := ⟨1, 4, true, [.asg 1 (.comp (.one 3) .seq [.slc (.var 0) [] [.int 63]] [] [2, 3] (.bin .mod (.bi .int [.bi .abs [.bi .int [.var 3]]]) (.bin .pow (.int 10) (.int 36)))), .ret (.lstM [.var 1, .int 0, .int 0, .bin .add (.int 613) (.bin .mul (.int 11) (.bi .len [.var 1])), .int 0])]⟩
def d_law_draw : Df := ⟨2, 5, false, [.ite (.and (.cmp .eq (.idx (.var 0) (.int 2)) (.int 0)) (.cmp .lt (.idx (.var 0) (.int 1)) (.bi .len [.idx (.var 0) (.int 0)]))) [.asg 2 (.idx (.idx (.var 0) (.int 0)) (.idx (.var 0) (.int 1))), .setix (.var 0) (.int 1) (.bin .add (.idx (.var 0) (.int 1)) (.int 1)), .setix (.var 0) (.int 3) (.bin .mod (.bi .int [.bin .add (.bin .add (.bin .mul (.idx (.var 0) (.int 3)) (.int 48271)) (.bin .mul (.var 2) (.int 69621))) (.int 17)]) (.int 2147483629)), .ite (.cmp .ge (.var 2) (.bin .pow (.int 10) (.int 18))) [.setix (.var 0) (.int 2) (.var 2)] []] [], .ite (.cmp .gt (.idx (.var 0) (.int 2)) (.int 0)) [.asg 3 (.bin .mod (.bi .int [.idx (.var 0) (.int 2)]) (.var 1)), .setix (.var 0) (.int 2) (.bin .div (.idx (.var 0) (.int 2)) (.var 1)), .ret (.var 3)] [], .setix (.var 0) (.int 4) (.bin .add (.idx (.var 0) (.int 4)) (.int 1)), .asg 4 (.bin .mod (.bi .int [.bin .mul (.bi .int [.bin .add (.idx (.var 0) (.int 3)) (.bin .mul (.int 7927) (.idx (.var 0) (.int 4)))]) (.int 69621)]) (.int 2147483647)), .asg 4 (.bin .mod (.bi .int [.bin .mul (.var 4) (.bin .add (.bin .div (.var 4) (.int 1013)) (.int 48271))]) (.int 2147483647)), .asg 4 (.bin .mod (.bi .int [.bin .mul (.var 4) (.bin .add (.bin .div (.var 4) (.int 2011)) (.int 40692))]) (.int 2147483563)), .ret (.bin .mod (.bi .int [.bin .div (.var 4) (.int 32)]) (.var 1))]⟩
def d_law_some : Df := ⟨2, 2, false, [.ret (.idx (.var 1) (.call 75 [.var 0, .bi .len [.var 1]]))]⟩
def d_law_great : Df := ⟨1, 3, false, [.asg 1 (.call 75 [.var 0, .int 90]), .ite (.cmp .eq (.call 75 [.var 0, .int 2]) (.int 1)) [.ret (.var 1)] [], .for_ (.one 2) .range [.bin .add (.int 1) (.call 75 [.var 0, .int 4])] [.asg 1 (.bin .add (.bin .mul (.var 1) (.bin .pow (.int 10) (.int 9))) (.call 75 [.var 0, .bin .pow (.int 10) (.int 9)]))], .ret (.var 1)]⟩
def d_law_is_one_kind : Df := ⟨2, 2, false, [.ite (.or (.cmp .ne (.isi (.var 0) [.bool]) (.isi (.var 1) [.bool])) (.cmp .ne (.isi (.var 0) [.int]) (.isi (.var 1) [.int]))) [.ret (.bl false)] [], .ite (.or (.cmp .ne (.isi (.var 0) [.tuple]) (.isi (.var 1) [.tuple])) (.cmp .ne (.isi (.var 0) [.list]) (.isi (.var 1) [.list]))) [.ret (.bl false)] [], .ret (.and (.cmp .eq (.isi (.var 0) [.dict]) (.isi (.var 1) [.dict])) (.cmp .eq (.isi (.var 0) [.str]) (.isi (.var 1) [.str])))]⟩
def d_law_like : Df := ⟨2, 9, false, [.asg 2 (.lstM [.tup [.var 0, .var 1]]), .for_ (.one 3) .range [.int 60000] [.ite (.cmp .eq (.bi .len [.var 2]) (.int 0)) [.ret (.bl true)] [], .unp [4, 5] (.me .pop (.var 2) []), .ite (.not (.call 78 [.var 4, .var 5])) [.ret (.bl false)] [], .ite (.isi (.var 5) [.tuple, .list]) [.ite (.cmp .ne (.bi .len [.var 4]) (.bi .len [.var 5])) [.ret (.bl false)] [], .expr (.me .extend (.var 2) [.comp (.one 7) .range [.bi .len [.var 5]] [] [6, 7] (.tup [.idx (.var 4) (.var 7), .idx (.var 5) (.var 7)])])] [.ite (.isi (.var 5) [.dict]) [.ite (.or (.cmp .ne (.bi .len [.var 4]) (.bi .len [.var 5])) (.not (.bi .all [.comp (.one 8) .seq [.var 5] [] [6, 8] (.cmp .isin (.var 8) (.var 4))]))) [.ret (.bl false)] [], .expr (.me .extend (.var 2) [.comp (.one 8) .seq [.var 5] [] [6, 8] (.tup [.idx (.var 4) (.var 8), .idx (.var 5) (.var 8)])])] [.ite (.cmp .ne (.var 4) (.var 5)) [.ret (.bl false)] []]]], .ret (.bl false)]⟩
def d_law_at : Df := ⟨2, 7, false, [.unp [2, 3, 4, 5] (.var 0), .ite (.cmp .lt (.var 1) (.bin .add (.var 2) (.var 3))) [.ret (.idx (.var 5) (.var 1))] [], .asg 6 (.bin .div (.bin .sub (.var 1) (.var 2)) (.var 3)), .ret (.bin .add (.idx (.var 5) (.bin .sub (.var 1) (.bin .mul (.var 6) (.var 3)))) (.bin .mul (.var 6) (.var 4)))]⟩
def d_law_row : Df := ⟨2, 4, false, [.ret (.comp (.one 3) .range [.var 1] [] [2, 3] (.call 80 [.var 0, .var 3]))]⟩
def d_law_least : Df := ⟨1, 11, false, [.unp [1, 2, 3, 4] (.var 0), .for_ (.one 5) .range [.int 1, .bin .add (.var 2) (.int 1)] [.ite (.cmp .eq (.bin .mod (.bi .int [.var 2]) (.var 5)) (.int 0)) [.asg 6 (.comp (.one 10) .range [.bin .add (.var 1) (.var 2)] [] [9, 10] (.bin .sub (.call 80 [.var 0, .bin .add (.var 10) (.var 5)]) (.call 80 [.var 0, .var 10]))), .ite (.cmp .eq (.bi .min [.slc (.var 6) [.var 1] []]) (.bi .max [.slc (.var 6) [.var 1] []])) [.asg 7 (.var 1), .for_ (.one 8) .range [.var 1] [.ite (.cmp .ne (.idx (.var 6) (.bin .sub (.var 7) (.int 1))) (.idx (.var 6) (.var 1))) [.brk] [], .asg 7 (.bin .sub (.var 7) (.int 1))], .ret (.tup [.var 7, .var 5, .idx (.var 6) (.var 1), .bi .tuple [.call 81 [.var 0, .bin .add (.var 7) (.var 5)]]])] []] []], .ret (.var 0)]⟩
def d_law_made : Df := ⟨3, 3, false, [.ret (.call 82 [.tup [.var 1, .var 2, .bin .sub (.idx (.var 0) (.bin .add (.var 1) (.var 2))) (.idx (.var 0) (.var 1)), .bi .tuple [.slc (.var 0) [] [.bin .add (.var 1) (.var 2)]]]])]⟩
def d_law_form : Df := ⟨2, 7, false, [.par 2 3 (.call 75 [.var 0, .int 5]) (.bin .add (.int 1) (.call 75 [.var 0, .int 4])), .asg 4 (.bin .sub (.call 75 [.var 0, .bin .add (.bin .mul (.int 2) (.var 1)) (.int 1)]) (.var 1)), .ret (.tup [.var 2, .var 3, .var 4, .bi .tuple [.comp (.one 6) .range [.bin .add (.var 2) (.var 3)] [] [5, 6] (.bin .sub (.call 75 [.var 0, .bin .add (.bin .mul (.int 2) (.var 1)) (.int 1)]) (.var 1))]])]⟩
def d_law_rounded : Df := ⟨3, 5, false, [.asg 3 (.bin .mul (.bin .div (.var 0) (.var 1)) (.var 1)), .asg 4 (.bin .sub (.var 0) (.var 3)), .ite (.or (.cmp .eq (.var 2) (.str "down")) (.cmp .eq (.var 4) (.int 0))) [.ret (.var 3)] [], .ite (.or (.cmp .eq (.var 2) (.str "up")) (.cmp .gt (.bin .mul (.int 2) (.var 4)) (.var 1))) [.ret (.bin .add (.var 3) (.var 1))] [], .ite (.cmp .lt (.bin .mul (.int 2) (.var 4)) (.var 1)) [.ret (.var 3)] [], .ite (.cmp .eq (.var 2) (.str "near")) [.ret (.bin .add (.var 3) (.var 1))] [], .ret (.ife (.cmp .eq (.bin .mul (.bin .div (.bin .div (.var 3) (.var 1)) (.int 2)) (.int 2)) (.bin .div (.var 3) (.var 1))) (.var 3) (.bin .add (.var 3) (.var 1)))]⟩
def d_law_form_of : Df := ⟨3, 7, false, [.par 3 4 (.idx (.var 0) (.int 0)) (.bin .mul (.bin .mul (.idx (.var 0) (.int 1)) (.int 2)) (.var 1)), .ret (.call 83 [.comp (.one 6) .range [.bin .add (.bin .add (.var 3) (.var 4)) (.int 1)] [] [5, 6] (.call 85 [.call 80 [.var 0, .var 6], .var 1, .var 2]), .var 3, .var 4])]⟩
def d_law_word : Df := ⟨3, 4, false, [.try_ [.expr (.call 54 [.var 0, .var 1, .var 2])] [⟨[4], some 3, .ife (.and (.isx [0, 1, 2, 3, 4, 5, 6, 7, 8, 9]) (.not (.isx [7]))) (.con (.str "price")) (.con (.str ""))⟩, ⟨[7], some 3, .ife (.and (.isx [0, 1, 2, 3, 4, 5, 6, 7, 8, 9]) (.not (.isx [8]))) (.con (.str "step")) (.con (.str ""))⟩, ⟨[8], some 3, .ife (.isx [0, 1, 2, 3, 4, 5, 6, 7, 8, 9]) (.con (.str "way")) (.con (.str ""))⟩], .ret (.str "")]⟩
def d_law_is_way_right : Df := ⟨4, 9, false, [.par 4 5 (.call 86 [.var 0, .var 1, .var 2]) (.call 80 [.var 0, .var 3]), .ite (.or (.not (.call 79 [.call 56 [.var 0, .var 1, .var 2], .var 4])) (.not (.call 79 [.call 56 [.var 4, .var 1, .var 2], .var 4]))) [.ret (.bl false)] [], .ite (.not (.call 79 [.call 54 [.var 5, .var 1, .var 2], .call 85 [.var 5, .var 1, .var 2]])) [.ret (.bl false)] [], .ite (.not (.call 79 [.call 13 [.var 4, .var 3], .call 54 [.var 5, .var 1, .var 2]])) [.ret (.bl false)] [], .asg 6 (.call 58 [.var 0, .var 1, .var 2]), .ite (.or (.not (.call 79 [.call 22 [.var 6, .var 0], .var 4])) (.not (.call 79 [.var 6, .call 24 [.var 4, .var 0]]))) [.ret (.bl false)] [], .unp [7, 8] (.call 19 [.var 6]), .ite (.or (.isN (.var 7)) (.or (.isN (.var 8)) (.or (.cmp .le (.var 7) (.bin .sub (.int 0) (.var 1))) (.cmp .ge (.var 8) (.var 1))))) [.ret (.bl false)] [], .ret (.ife (.cmp .eq (.var 2) (.str "up")) (.cmp .ge (.var 7) (.int 0)) (.ife (.cmp .eq (.var 2) (.str "down")) (.cmp .le (.var 8) (.int 0)) (.cmp .le (.bin .mul (.int 2) (.bi .max [.bin .sub (.int 0) (.var 7), .var 8])) (.var 1))))]⟩
def d_law_are_two_right : Df := ⟨4, 9, false, [.asg 4 (.bin .add (.idx (.var 0) (.int 0)) (.bin .mul (.bin .mul (.idx (.var 0) (.int 1)) (.int 2)) (.var 1))), .asg 5 (.comp (.one 8) .range [.var 4] [] [7, 8] (.call 80 [.var 0, .var 8])), .asg 6 (.comp (.one 8) .range [.var 4] [.cmp .ne (.call 85 [.idx (.var 5) (.var 8), .var 1, .var 2]) (.call 85 [.idx (.var 5) (.var 8), .var 1, .var 3])] [7, 8] (.var 8)), .ret (.call 79 [.call 59 [.var 0, .var 1, .var 2, .var 3], .ife (.cmp .gt (.bi .len [.var 6]) (.int 0)) (.idx (.var 6) (.int 0)) (.non)])]⟩
def d_law_are_rules_right : Df := ⟨2, 6, false, [.asg 2 (.tup [.str "list", .idx (.var 0) (.int 3), .idx (.var 0) (.int 1), .idx (.var 0) (.int 2)]), .par 3 4 (.tup [.str "times", .var 1, .tup [.str "share", .var 1, .var 2]]) (.tup [.str "times", .bin .sub (.int 0) (.int 1), .var 2]), .asg 5 (.tup [.str "times", .bin .sub (.int 0) (.int 1), .tup [.str "times", .var 1, .tup [.str "share", .var 1, .var 4]]]), .ite (.not (.call 79 [.call 73 [.var 3], .call 56 [.var 0, .var 1, .str "down"]])) [.ret (.bl false)] [], .ite (.not (.call 79 [.call 30 [.call 33 [.var 0, .var 1], .var 1], .call 56 [.var 0, .var 1, .str "down"]])) [.ret (.bl false)] [], .ret (.call 79 [.call 73 [.var 5], .call 56 [.var 0, .var 1, .str "up"]])]⟩
def d_law : Df := ⟨1, 10, false, [.par 1 2 (.call 74 [.var 0]) (.lst [.str "up", .str "down", .str "near", .str "even"]), .ite (.not (.call 79 [.comp (.one 3) .seq [.var 2] [] [9, 3] (.call 54 [.int 15, .int 10, .var 3]), .lst [.int 20, .int 10, .int 20, .int 20]])) [.ret (.bl false)] [], .ite (.not (.call 79 [.comp (.one 3) .seq [.var 2] [] [9, 3] (.call 54 [.bin .sub (.int 0) (.int 25), .int 10, .var 3]), .lst [.bin .sub (.int 0) (.int 20), .bin .sub (.int 0) (.int 30), .bin .sub (.int 0) (.int 20), .bin .sub (.int 0) (.int 20)]])) [.ret (.bl false)] [], .for_ (.one 4) .range [.int 2] [.parN [5, 6, 7] [.call 84 [.var 1, .int 30], .bin .add (.int 1) (.call 75 [.var 1, .int 12]), .call 77 [.var 1]], .ite (.cmp .eq (.call 75 [.var 1, .int 8]) (.int 0)) [.parN [5, 6, 7] [.tup [.idx (.var 5) (.int 0), .int 1, .bin .mul (.int 25) (.idx (.var 5) (.int 2)), .slc (.idx (.var 5) (.int 3)) [] [.bin .add (.idx (.var 5) (.int 0)) (.int 1)]], .int 100, .bin .div (.var 7) (.int 1000)]] [], .ite (.not (.call 79 [.call 17 [.var 5], .call 82 [.var 5]])) [.ret (.bl false)] [], .for_ (.one 3) .seq [.var 2] [.ite (.or (.not (.call 88 [.var 5, .var 6, .var 3, .var 7])) (.not (.call 89 [.var 5, .var 6, .var 3, .call 76 [.var 1, .var 2]]))) [.ret (.bl false)] []], .ite (.and (.cmp .le (.var 6) (.int 20)) (.not (.call 90 [.var 5, .var 6]))) [.ret (.bl false)] [], .asg 8 (.call 76 [.var 1, .lst [.int 0, .int 101, .non, .bl true]]), .ite (.or (.cmp .ne (.call 87 [.non, .var 8, .str "up"]) (.str "price")) (.cmp .ne (.call 87 [.int 3, .var 8, .str "no"]) (.str "step"))) [.ret (.bl false)] [], .ite (.cmp .ne (.call 87 [.int 3, .var 6, .call 76 [.var 1, .lst [.str "Up", .non, .int 1, .str "odd"]]]) (.str "way")) [.ret (.bl false)] []], .ret (.bl true)]⟩
def c_PriceError : Nat := 0
def c_NoFactor : Nat := 1
def c_NoForm : Nat := 2
def c_NoNumber : Nat := 3
def c_NoPrice : Nat := 4
def c_NoRule : Nat := 5
def c_NoShare : Nat := 6
def c_NoStep : Nat := 7
def c_NoWay : Nat := 8
def c_TooMany : Nat := 9
def prL : Pr := [d_is_integer, d_is_within, d_is_number, d_is_sized, d_common_part, d_common_round, d_up_by, d_is_form, d_check_form, d_check_two, d_check_number, d_check_width, d_raw_price, d_price_at, d_does_repeat, d_raw_least, d_made, d_least, d_raw_bounds, d_bounds_of, d_rise_in, d_raw_added, d_added, d_raw_lessened, d_lessened, d_won_from, d_raw_greater, d_turned, d_raw_lesser, d_raw_scaled, d_scaled, d_check_share, d_raw_shared, d_shared, d_raw_left, d_raw_moved, d_raw_packed, d_raw_unpacked, d_raw_change, d_running, d_raw_highest, d_raw_lowest, d_raw_within, d_split_from, d_split_at, d_raw_split, d_raw_has, d_raw_least_set, d_made_set, d_signed_from, d_raw_where_like, d_least_out, d_check_way, d_raw_rounded, d_rounded, d_raw_rounded_form, d_rounded_form, d_raw_lost, d_lost, d_first_unlike, d_is_listed, d_is_node, d_raw_parts, d_raw_is_rule, d_check_rule, d_raw_nodes, d_leaf_form, d_raw_into, d_joined_by, d_counted_by, d_form_by, d_raw_forms, d_raw_form, d_form_of, d_law_hand, d_law_draw, d_law_some, d_law_great, d_law_is_one_kind, d_law_like, d_law_at, d_law_row, d_law_least, d_law_made, d_law_form, d_law_rounded, d_law_form_of, d_law_word, d_law_is_way_right, d_law_are_two_right, d_law_are_rules_right, d_law]
end Pg
end

/-! ## PgP_k68 -/
section
set_option Elab.async false
set_option linter.all false
set_option maxRecDepth 100000
set_option maxHeartbeats 0
/-! The program as data. -/
namespace Pg
open PySem PySem.Spec PyProof.Rows L2 Ev
def top (i : Nat) : Stmt := PySem.Challenge.pw_pricesforever_k68_whole_prices_rounded_f.main.body.getD i (.Pass ⟨0, 0, 0, 0⟩)

def dis : List DI := [
  ⟨"is_integer", 1, ["thing"], ["thing"], false, d_is_integer⟩,
  ⟨"is_within", 2, ["thing", "low", "high"], ["thing", "low", "high"], false, d_is_within⟩,
  ⟨"is_number", 3, ["thing"], ["thing"], false, d_is_number⟩,
  ⟨"is_sized", 4, ["thing", "least", "most"], ["thing", "least", "most"], false, d_is_sized⟩,
  ⟨"common_part", 5, ["one", "other"], ["one", "other"], false, d_common_part⟩,
  ⟨"common_round", 6, ["one", "other"], ["one", "other"], false, d_common_round⟩,
  ⟨"up_by", 7, ["number", "part"], ["number", "part"], false, d_up_by⟩,
  ⟨"is_form", 21, ["thing", "many", ".0", "one"], ["thing"], false, d_is_form⟩,
  ⟨"check_form", 22, ["form"], ["form"], false, d_check_form⟩,
  ⟨"check_two", 23, ["form", "other"], ["form", "other"], false, d_check_two⟩,
  ⟨"check_number", 24, ["n"], ["n"], false, d_check_number⟩,
  ⟨"check_width", 25, ["begin", "around"], ["begin", "around"], false, d_check_width⟩,
  ⟨"raw_price", 26, ["form", "n", "begin", "around", "rise", "prices"], ["form", "n"], false, d_raw_price⟩,
  ⟨"price_at", 27, ["form", "n"], ["form", "n"], false, d_price_at⟩,
  ⟨"does_repeat", 28, ["form", "begin", "around", "rise", "numbers", ".0", "n"], ["form", "begin", "around", "rise"], false, d_does_repeat⟩,
  ⟨"raw_least", 29, ["form", "begin", "around", "rise", "prices", "best", "less", "step", ".0", "n"], ["form"], false, d_raw_least⟩,
  ⟨"made", 30, ["begin", "around", "rise", "price_by", ".0", "n"], ["begin", "around", "rise", "price_by"], false, d_made⟩,
  ⟨"least", 31, ["form"], ["form"], false, d_least⟩,
  ⟨"raw_bounds", 32, ["form"], ["form"], false, d_raw_bounds⟩,
  ⟨"bounds_of", 33, ["form"], ["form"], false, d_bounds_of⟩,
  ⟨"rise_in", 37, ["form", "around"], ["form", "around"], false, d_rise_in⟩,
  ⟨"raw_added", 38, ["form", "other", "around", "rise"], ["form", "other"], true, d_raw_added⟩,
  ⟨"added", 39, ["form", "other"], ["form", "other"], false, d_added⟩,
  ⟨"raw_lessened", 40, ["form", "other", "around", "rise"], ["form", "other"], true, d_raw_lessened⟩,
  ⟨"lessened", 41, ["form", "other"], ["form", "other"], false, d_lessened⟩,
  ⟨"won_from", 42, ["form", "other", "begin", "around", "gain", "turns", ".0", "n"], ["form", "other"], false, d_won_from⟩,
  ⟨"raw_greater", 43, ["form", "other", "around", "one", "two", "high", "low", "begin"], ["form", "other"], true, d_raw_greater⟩,
  ⟨"turned", 44, ["form", ".0", "one"], ["form"], false, d_turned⟩,
  ⟨"raw_lesser", 45, ["form", "other"], ["form", "other"], false, d_raw_lesser⟩,
  ⟨"raw_scaled", 46, ["form", "k"], ["form", "k"], true, d_raw_scaled⟩,
  ⟨"scaled", 47, ["form", "k"], ["form", "k"], false, d_scaled⟩,
  ⟨"check_share", 48, ["form", "k"], ["form", "k"], false, d_check_share⟩,
  ⟨"raw_shared", 49, ["form", "k"], ["form", "k"], true, d_raw_shared⟩,
  ⟨"shared", 50, ["form", "k"], ["form", "k"], false, d_shared⟩,
  ⟨"raw_left", 51, ["form", "k"], ["form", "k"], true, d_raw_left⟩,
  ⟨"raw_moved", 52, ["form", "k"], ["form", "k"], true, d_raw_moved⟩,
  ⟨"raw_packed", 53, ["form", "k"], ["form", "k"], true, d_raw_packed⟩,
  ⟨"raw_unpacked", 54, ["form", "k", "part"], ["form", "k"], true, d_raw_unpacked⟩,
  ⟨"raw_change", 55, ["form"], ["form"], true, d_raw_change⟩,
  ⟨"running", 56, ["form", "many", "found", "n"], ["form", "many"], false, d_running⟩,
  ⟨"raw_highest", 57, ["form", "begin", "around", "ahead", "here", "found", ".0", "n"], ["form"], true, d_raw_highest⟩,
  ⟨"raw_lowest", 58, ["form"], ["form"], false, d_raw_lowest⟩,
  ⟨"raw_within", 59, ["form", "k", ".0", "more"], ["form", "k"], true, d_raw_within⟩,
  ⟨"split_from", 60, ["form", "other", "around", "begin", "gain", "turns", "numbers", "n", "here", "there", ".0", "at"], ["form", "other"], false, d_split_from⟩,
  ⟨"split_at", 61, ["ones", "others", "n", ".0", "one", "other"], ["ones", "others", "n"], false, d_split_at⟩,
  ⟨"raw_split", 62, ["form", "other", "around", "one", "two", "begin", "rise", "slow", "fast", "ones", "others", ".0", "n"], ["form", "other"], true, d_raw_split⟩,
  ⟨"raw_has", 64, ["told", "n", "begin", "around", "flags"], ["told", "n"], false, d_raw_has⟩,
  ⟨"raw_least_set", 65, ["told", "begin", "around", "flags", "ring", "best", ".0", "less", "n"], ["told"], false, d_raw_least_set⟩,
  ⟨"made_set", 66, ["begin", "around", "does_have", ".0", "n"], ["begin", "around", "does_have"], false, d_made_set⟩,
  ⟨"signed_from", 67, ["form", "other", "begin", "around", "gain", "turns", "n", "far"], ["form", "other"], false, d_signed_from⟩,
  ⟨"raw_where_like", 68, ["form", "other", "begin", "around"], ["form", "other"], true, d_raw_where_like⟩,
  ⟨"least_out", 70, ["told"], ["told"], false, d_least_out⟩,
  ⟨"check_way", 74, ["k", "way"], ["k", "way"], false, d_check_way⟩,
  ⟨"raw_rounded", 75, ["price", "k", "way", "low", "far"], ["price", "k", "way"], false, d_raw_rounded⟩,
  ⟨"rounded", 76, ["price", "k", "way"], ["price", "k", "way"], false, d_rounded⟩,
  ⟨"raw_rounded_form", 77, ["form", "k", "way", "turns"], ["form", "k", "way"], true, d_raw_rounded_form⟩,
  ⟨"rounded_form", 78, ["form", "k", "way"], ["form", "k", "way"], false, d_rounded_form⟩,
  ⟨"raw_lost", 79, ["form", "k", "way"], ["form", "k", "way"], false, d_raw_lost⟩,
  ⟨"lost", 80, ["form", "k", "way"], ["form", "k", "way"], false, d_lost⟩,
  ⟨"first_unlike", 81, ["form", "k", "way", "other"], ["form", "k", "way", "other"], false, d_first_unlike⟩,
  ⟨"is_listed", 92, ["thing", "prices", "around", "rise", ".0", "one"], ["thing"], false, d_is_listed⟩,
  ⟨"is_node", 93, ["thing", "word"], ["thing"], false, d_is_node⟩,
  ⟨"raw_parts", 94, ["rule", ".0", "spot"], ["rule"], false, d_raw_parts⟩,
  ⟨"raw_is_rule", 95, ["thing", "waiting", "many", "here", "deep", ".0", "part"], ["thing"], false, d_raw_is_rule⟩,
  ⟨"check_rule", 96, ["rule"], ["rule"], false, d_check_rule⟩,
  ⟨"raw_nodes", 97, ["rule", "found", "waiting", "path", "here", ".0", "at", "part"], ["rule"], false, d_raw_nodes⟩,
  ⟨"leaf_form", 99, ["rule", "word"], ["rule"], false, d_leaf_form⟩,
  ⟨"raw_into", 100, ["form", "other", "begin", "around", "rise", "prices", "ring", "many", ".0", "one"], ["form", "other"], true, d_raw_into⟩,
  ⟨"joined_by", 101, ["word", "one", "other"], ["word", "one", "other"], false, d_joined_by⟩,
  ⟨"counted_by", 102, ["word", "k", "one"], ["word", "k", "one"], false, d_counted_by⟩,
  ⟨"form_by", 103, ["rule", "parts", "word"], ["rule", "parts"], false, d_form_by⟩,
  ⟨"raw_forms", 104, ["rule", "found", "path", "here", ".0", "at"], ["rule"], false, d_raw_forms⟩,
  ⟨"raw_form", 105, ["rule"], ["rule"], false, d_raw_form⟩,
  ⟨"form_of", 106, ["rule"], ["rule"], false, d_form_of⟩,
  ⟨"_law_hand", 108, ["script", "cells", ".0", "cell"], ["script"], false, d_law_hand⟩,
  ⟨"_law_draw", 109, ["hand", "size", "cell", "digit", "number"], ["hand", "size"], false, d_law_draw⟩,
  ⟨"_law_some", 110, ["hand", "things"], ["hand", "things"], false, d_law_some⟩,
  ⟨"_law_great", 111, ["hand", "number", "lap"], ["hand"], false, d_law_great⟩,
  ⟨"_law_is_one_kind", 112, ["one", "other"], ["one", "other"], false, d_law_is_one_kind⟩,
  ⟨"_law_like", 113, ["told", "due", "waiting", "lap", "one", "other", ".0", "at", "key"], ["told", "due"], false, d_law_like⟩,
  ⟨"_law_at", 114, ["form", "n", "begin", "wide", "rise", "prices", "laps"], ["form", "n"], false, d_law_at⟩,
  ⟨"_law_row", 115, ["form", "many", ".0", "n"], ["form", "many"], false, d_law_row⟩,
  ⟨"_law_least", 116, ["form", "begin", "wide", "rise", "prices", "many", "steps", "first", "lap", ".0", "n"], ["form"], false, d_law_least⟩,
  ⟨"_law_made", 117, ["values", "begin", "wide"], ["values", "begin", "wide"], false, d_law_made⟩,
  ⟨"_law_form", 118, ["hand", "great", "begin", "wide", "rise", ".0", "at"], ["hand", "great"], false, d_law_form⟩,
  ⟨"_law_rounded", 119, ["price", "k", "way", "low", "rest"], ["price", "k", "way"], false, d_law_rounded⟩,
  ⟨"_law_form_of", 120, ["form", "k", "way", "begin", "wide", ".0", "n"], ["form", "k", "way"], false, d_law_form_of⟩,
  ⟨"_law_word", 121, ["price", "k", "way", "e"], ["price", "k", "way"], false, d_law_word⟩,
  ⟨"_law_is_way_right", 122, ["form", "k", "way", "n", "due", "price", "gone", "low", "high"], ["form", "k", "way", "n"], false, d_law_is_way_right⟩,
  ⟨"_law_are_two_right", 123, ["form", "k", "way", "other", "wide", "row", "places", ".0", "n"], ["form", "k", "way", "other"], false, d_law_are_two_right⟩,
  ⟨"_law_are_rules_right", 124, ["form", "k", "rule", "down", "turned_v", "up"], ["form", "k"], false, d_law_are_rules_right⟩,
  ⟨"law", 125, ["script", "hand", "ways", "way", "lap", "form", "k", "n", "bad", ".0"], ["script"], false, d_law⟩]
def numsL : List (Str × Int) := [(("MOST_FORM" : Str), 5000), (("MOST_FACTOR" : Str), 20), (("MOST_SHARE" : Str), 20), (("MOST_STEP_rounding" : Str), 100), (("MOST_RULES" : Str), 30), (("MOST_DEEP" : Str), 8), (("MOST_SIZE" : Str), 9999), (("MOST_STEP_rules" : Str), 200), (("MOST_LISTED" : Str), 24)]
def freeL : List Str := [("ValueError" : Str), ("abs" : Str), ("all" : Str), ("bool" : Str), ("dict" : Str), ("enumerate" : Str), ("int" : Str), ("isinstance" : Str), ("len" : Str), ("list" : Str), ("max" : Str), ("min" : Str), ("range" : Str), ("str" : Str), ("tuple" : Str), ("zip" : Str)]
def clsL : List CI := [⟨"PriceError", 9, none, some [0, 1, 2, 3, 4, 5, 6, 7, 8, 9], none⟩, ⟨"NoFactor", 10, none, none, none⟩, ⟨"NoForm", 11, none, none, none⟩, ⟨"NoNumber", 12, none, none, none⟩, ⟨"NoPrice", 13, some [4], none, none⟩, ⟨"NoRule", 14, none, none, none⟩, ⟨"NoShare", 15, none, none, none⟩, ⟨"NoStep", 16, some [7], some [7], none⟩, ⟨"NoWay", 17, some [8], some [8], none⟩, ⟨"TooMany", 18, none, none, some "most"⟩]
def consL : List (Str × PyData) := [("WAYS", k_WAYS)]
def wdsL : List (Str × List (Str × PyData)) := [("HIGHS", w_HIGHS), ("LOWS", w_LOWS), ("SIZES", w_SIZES), ("SPOTS", w_SPOTS)]
def P : Prg := ⟨top, dis, numsL, freeL, clsL, consL, wdsL⟩
end Pg

end

/-! ## Hd_k68 -/
section
set_option Elab.async false
set_option linter.all false
set_option maxRecDepth 100000
set_option maxHeartbeats 0
/-! What the head comes to. -/
namespace Hd
open PySem PySem.Spec PyProof.Rows L2 Ev
def loose : List Str := (["is_integer", "is_within", "is_number", "is_sized", "common_part", "common_round", "up_by", "PriceError", "NoFactor", "NoForm", "NoNumber", "NoPrice", "NoRule", "NoShare", "NoStep", "NoWay", "TooMany", "MOST_FORM", "is_form", "check_form", "check_two", "check_number", "check_width", "raw_price", "price_at", "does_repeat", "raw_least", "made", "least", "raw_bounds"] : List Str) ++ (["bounds_of", "MOST_FACTOR", "MOST_SHARE", "rise_in", "raw_added", "added", "raw_lessened", "lessened", "won_from", "raw_greater", "turned", "raw_lesser", "raw_scaled", "scaled", "check_share", "raw_shared", "shared", "raw_left", "raw_moved", "raw_packed", "raw_unpacked", "raw_change", "running", "raw_highest", "raw_lowest", "raw_within", "split_from", "split_at", "raw_split", "raw_has"] : List Str) ++ (["raw_least_set", "made_set", "signed_from", "raw_where_like", "least_out", "WAYS", "MOST_STEP_rounding", "check_way", "raw_rounded", "rounded", "raw_rounded_form", "rounded_form", "raw_lost", "lost", "first_unlike", "MOST_RULES", "MOST_DEEP", "MOST_SIZE", "MOST_STEP_rules", "MOST_LISTED", "SPOTS", "SIZES", "LOWS", "HIGHS", "is_listed", "is_node", "raw_parts", "raw_is_rule", "check_rule", "raw_nodes"] : List Str) ++ (["leaf_form", "raw_into", "joined_by", "counted_by", "form_by", "raw_forms", "raw_form", "form_of", "_law_hand", "_law_draw", "_law_some", "_law_great", "_law_is_one_kind", "_law_like", "_law_at", "_law_row", "_law_least", "_law_made", "_law_form", "_law_rounded", "_law_form_of", "_law_word", "_law_is_way_right", "_law_are_two_right", "_law_are_rules_right"] : List Str)
abbrev R : PySem.W.OpenRow := PySem.W.OpenLaw.row PySem.Challenge.rw_pricesforever_k68_whole_prices_rounded_f
abbrev hk : PySem.W.Hook := hookY 4 Pg.P
def ob (s : PySem.W.SharedT) : He.AlX := obsY 4 Pg.P (HandSHeadRun.getT s)
theorem ob_eq (s : PySem.W.SharedT) : ob s = hk.obs s.abs := obsY_eq (HandSHeadRun.getT_eq s)
theorem runF (w : World) : HandSHeadRun.RunEq R (PySem.W.view R.prog [125]) hk ob 12000 loose (w.withFollow "special-get-raises" false) := by
  intro os
  kernel_rfl
theorem runT (w : World) : HandSHeadRun.RunEq R (PySem.W.view R.prog [125]) hk ob 12000 loose (w.withFollow "special-get-raises" true) := by
  intro os
  kernel_rfl
theorem run (w : World) : HandSHeadRun.RunEq R (PySem.W.view R.prog [125]) hk ob 12000 loose w := PySem.W.byRow2 "special-get-raises" runF runT w
end Hd

end

/-! ## EvOp -/
section
set_option Elab.async false
set_option linter.all false
set_option maxRecDepth 100000
set_option maxHeartbeats 2000000
namespace L2
open PySem PySem.Spec PyProof.Rows
theorem tuple_mul1 (l : Addr) (items : Array Value) (n : Nat) (dd : Option Addr) (sl : Array (Option Value)) (x : Int) (u : Tok) (c0 : (decide (x < -(2 ^ 63)) || decide (x ≥ 2 ^ 63)) = false) (c1 : (items.isEmpty || x == 1) = true) :
    Meets (Builtin.«tuple.__mul__» ⟨[.ref l, .int x u], []⟩) (fun _ R s => s.heap.get? l = some { cls := .type "tuple", dict := dd, data := .seq items n, slots := sl } ∧
      R (.ok (.ret (Value.ref l))) s) :=
  .of_wp fun prog w A R s h => by
    obtain ⟨hp, g, d, tk, os⟩ := s
    obtain ⟨hl, h⟩ := h
    have f1 := AutoSeq1.idx_int
    wp_walk using wpAny_loadPart' hl
    repeat (first
      | (refine wpAny_ite_false (decide_eq_false (by rw [c0]; exact Bool.false_ne_true)) ?_; wp_walk using wpAny_loadPart' hl)
      | (refine wpAny_ite_true (decide_eq_true c1) ?_; wp_walk using wpAny_loadPart' hl))
    exact ⟨_, rfl, h⟩
theorem tuple_mul0 (l : Addr) (items : Array Value) (n : Nat) (dd : Option Addr) (sl : Array (Option Value)) (x : Int) (u : Tok) (c0 : (decide (x < -(2 ^ 63)) || decide (x ≥ 2 ^ 63)) = false) (c1 : (items.isEmpty || x == 1) = false) (c2 : (decide (x ≤ 0) || items.isEmpty) = true) :
    Meets (Builtin.«tuple.__mul__» ⟨[.ref l, .int x u], []⟩) (fun _ R s => s.heap.get? l = some { cls := .type "tuple", dict := dd, data := .seq items n, slots := sl } ∧
      R (.ok (.ret (Value.ref s.heap.objs.size))) { s with heap := s.heap.push { cls := Value.type "tuple", data := Data.seq #[] }, toks := s.toks }) :=
  .of_wp fun prog w A R s h => by
    obtain ⟨hp, g, d, tk, os⟩ := s
    obtain ⟨hl, h⟩ := h
    have f1 := AutoSeq1.idx_int
    wp_walk using wpAny_loadPart' hl
    repeat (first
      | (refine wpAny_ite_false (decide_eq_false (by rw [c0]; exact Bool.false_ne_true)) ?_; wp_walk using wpAny_loadPart' hl)
      | (refine wpAny_ite_false (decide_eq_false (by rw [c1]; exact Bool.false_ne_true)) ?_; wp_walk using wpAny_loadPart' hl)
      | (refine wpAny_ite_true (decide_eq_true c2) ?_; wp_walk using wpAny_loadPart' hl)
      | (refine wpAny_ite_false (decide_eq_false (Nat.not_lt.mpr (Nat.zero_le _))) ?_; wp_walk using wpAny_loadPart' hl))
    exact ⟨_, rfl, h⟩
def rRepA (K : PySem.W.Frag) : R2 := fun x y H Q => ∃ l k xs, x = .ref l ∧ y = .int k ∧ SqT K H l xs ∧ -(2 ^ 62) ≤ k ∧ k < 2 ^ 62 ∧ xs.length * k.toNat ≤ sizeLine ∧ ((xs = [] ∨ k = 1) → Q (.ref l) H) ∧ (¬ (xs = [] ∨ k = 1) → ∀ p ob, H p = none → ob.dict = none → Q (.ref p) (upd H p (.frz ob (.tup (List.replicate k.toNat xs).flatten))))
section
variable {X : Cx}
theorem op_repA : OpR X (binaryOp .Mult) (rRepA X.K) := by
  intro pins s σ H x y v u Q I rx ry h
  obtain ⟨l, k, xs, rfl, rfl, hT, h1, h2, hz, qa, qb⟩ := h
  cases rx
  obtain ⟨t, rfl⟩ := ry
  obtain ⟨its, r, ⟨⟨cls, dd, data, sl⟩, ho, hc, n, hd⟩, hs⟩ := I.tuple hT
  simp only at hc hd
  subst hc hd
  have hle : its.length = xs.length := r.length.symm
  have c0 : (decide (k < -(2 ^ 63)) || decide (k ≥ 2 ^ 63)) = false := by
    rw [decide_eq_false (by omega), decide_eq_false (by omega)] <;> rfl
  have key : ∀ {R : Value → Shared → Prop}, wpAny (model X.prog X.w) X.A (call (.builtin "tuple.__mul__") [.ref l, .int k t]) R X.xe s → wpAny (model X.prog X.w) X.A (binaryOp .Mult (.ref l) (.int k t)) R X.xe s := fun hq =>
    wpAny_binaryOp_repeat_ref (T := "tuple") (U := "int") (by decide) ⟨_, ho, rfl⟩ (fun s' => typeIs_int s' k t) noFill_tuple_mul F.fills_int_mul F.slot_int_rmul repeat_tuple F.slot_int_index.lookup
      (call_meets F.slot_int_rmul (typeIs_int s k t) F.entry_int_rmul (F.args_int_rmul_2 _ _) (int_rmul_tuple k t l its.toArray n dd sl) ⟨ho, rfl, ⟨_, ho, rfl⟩, hq⟩)
  refine key ?_
  by_cases hs1 : xs = [] ∨ k = 1
  · have c1 : (its.toArray.isEmpty || k == 1) = true := by
      rcases hs1 with e | e
      · subst e
        have : its = [] := List.eq_nil_of_length_eq_zero hle
        subst this
        rfl
      · subst e
        simp
    exact call_meets F.slot_tuple_mul ⟨_, ho, rfl⟩ F.entry_tuple_mul (F.args_tuple_mul_2 _ _) (tuple_mul1 l its.toArray n dd sl k t c0 c1) ⟨ho, ⟨.ref l, H, I, rfl, qa hs1⟩⟩
  · have hn : its ≠ [] := fun e => hs1 (.inl (List.eq_nil_of_length_eq_zero (by rw [← hle, e]; rfl)))
    have hi : its.toArray.isEmpty = false := by
      cases its with
      | nil => exact absurd rfl hn
      | cons a b => rfl
    have c1 : (its.toArray.isEmpty || k == 1) = false := by
      rw [hi, Bool.false_or]
      exact beq_eq_false_iff_ne.mpr (fun e => hs1 (.inr e))
    by_cases hk : k ≤ 0
    · have c2 : (decide (k ≤ 0) || its.toArray.isEmpty) = true := by rw [decide_eq_true hk]; rfl
      refine call_meets F.slot_tuple_mul ⟨_, ho, rfl⟩ F.entry_tuple_mul (F.args_tuple_mul_2 _ _) (tuple_mul0 l its.toArray n dd sl k t c0 c1 c2) ⟨ho, ?_⟩
      have e0 : k.toNat = 0 := by omega
      have q := qb hs1 s.heap.objs.size { cls := .type "tuple", data := .seq #[] } (I.hok.fresh (Nat.le_refl _)) rfl
      rw [e0] at q
      exact ⟨.ref s.heap.objs.size, _, I.laid (t' := s.toks) (o := .frz { cls := .type "tuple", data := .seq #[] } (.tup (List.replicate 0 xs).flatten)) (fun b ob q => Heap.get?_push_of_some _ q) (Nat.le_refl _) ⟨Heap.get?_push_size _ rfl, Nat.zero_le _, [], .nil, IsTup.new _ _⟩, rfl, q⟩
    · have c2 : (decide (k ≤ 0) || its.toArray.isEmpty) = false := by
        rw [hi, Bool.or_false]
        exact decide_eq_false hk
      have hz2 : its.length * k.toNat ≤ sizeLine := by rw [hle]; exact hz
      have flen : (List.replicate k.toNat its).flatten.length ≤ sizeLine := by
        rw [PyProof.Rows.lm_len_rep_flat, Nat.mul_comm]
        exact hz2
      have hm : ((its.toArray.size : Nat) : Int) * k ≤ (sizeLine : Nat) := by
        rw [List.size_toArray]
        have e : k = ((k.toNat : Nat) : Int) := by omega
        rw [e, ← Int.natCast_mul]
        exact Int.ofNat_le.mpr hz2
      have c3 : ¬ ((its.toArray.size : Nat) : Int) * k > (2 ^ 63 - 1) / 8 := by
        rw [sizeLine_eq] at hm
        omega
      have c4 : Builtin.Tuple.tupleTooMany (((its.toArray.size : Nat) : Int) * k) = false := by
        unfold Builtin.Tuple.tupleTooMany
        exact decide_eq_false (by omega)
      refine call_meets F.slot_tuple_mul ⟨_, ho, rfl⟩ F.entry_tuple_mul (F.args_tuple_mul_2 _ _) (tuple_mulW l its.toArray n dd sl k t c0 c1 c2 c3 c4 (by rw [size_rep]; exact flen)) ⟨ho, ?_⟩
      rw [size_rep]
      exact ⟨.ref s.heap.objs.size, _, I.laid (t' := s.toks) (o := .frz { cls := .type "tuple", data := .seq (List.replicate k.toNat its).flatten.toArray } (.tup (List.replicate k.toNat xs).flatten)) (fun b ob q => Heap.get?_push_of_some _ q) (Nat.le_refl _) ⟨Heap.get?_push_size _ rfl, by rw [PyProof.Rows.lm_len_rep_flat, Nat.mul_comm]; exact hz, _, r.rep k.toNat, IsTup.new _ _⟩, rfl, qb hs1 _ _ (I.hok.fresh (Nat.le_refl _)) rfl⟩
end

/-! ### min, max of a tuple of ints; count of a tuple -/
section
variable {X : Cx}
theorem dp_ints {K : PySem.W.Frag} {H : Hp} : ∀ ns : List Int, DpAll K H (ns.map V.int) (ns.map PyData.int)
  | [] => .nil
  | n :: r => .cons (.int n) (dp_ints r)
theorem alike_ints (ns : List Int) : PySem.W.AlikeAll (ns.map PyData.int) := by
  refine ⟨fun x hx y hy => ?_, fun x hx => ?_⟩
  · obtain ⟨i, _, rfl⟩ := List.mem_map.mp hx
    obtain ⟨j, _, rfl⟩ := List.mem_map.mp hy
    rfl
  · obtain ⟨i, _, rfl⟩ := List.mem_map.mp hx
    exact fun z => by cases z
theorem depth_ints : ∀ ns : List Int, PyData.depthAll (ns.map PyData.int) = 0
  | [] => rfl
  | n :: r => by
    rw [List.map_cons]
    unfold PyData.depthAll
    rw [depth_ints r]
    rfl
theorem reads_int {h : Heap} {v : Value} {i : Int} {as : List Addr} (r : Reads h v (.int i) as) : ∃ t, v = .int i t := by
  cases r
  exact ⟨_, rfl⟩
def rMinT (K : PySem.W.Frag) : List V → Hp → VK → Prop := fun vs H Q => ∃ (a : Addr) (n : Int) (ns : List Int), vs = [V.ref a] ∧ SqT K H a ((n :: ns).map V.int) ∧ Q (.int (ns.foldl min n)) H
def rMaxT (K : PySem.W.Frag) : List V → Hp → VK → Prop := fun vs H Q => ∃ (a : Addr) (n : Int) (ns : List Int), vs = [V.ref a] ∧ SqT K H a ((n :: ns).map V.int) ∧ Q (.int (ns.foldl max n)) H
theorem cr_minT (hc : X.calm = true) (hu : X.A.units + 64 < cLine) : CallR X (.builtin "min") (rMinT X.K) := by
  intro pins s σ H vs us Q I rv h
  obtain ⟨a, n, ns, rfl, hs, q⟩ := h
  obtain ⟨u, rfl, ru⟩ := vals1 rv
  cases ru
  obtain ⟨its, rw', ht, _⟩ := I.tuple hs
  obtain ⟨as, ra⟩ := Dp.readsAll I ((n :: ns).map PyData.int) _ its (dp_ints _) rw'
  refine PySem.W.min_tuple_data (vs := its.toArray) (x := .int n) (xs := ns.map .int) (I.ok.hd hc) ht (by simpa using ra) (alike_ints (n :: ns)) (by rw [show PyData.depthAll (PyData.int n :: ns.map PyData.int) = 0 from depth_ints (n :: ns)]; omega) fun i v h' tk bs hv r k => ?_
  rw [PySem.W.minD_ints] at r
  obtain ⟨t, rfl⟩ := reads_int r
  exact ⟨.int _, H, I.kept (t' := tk) k, ⟨t, rfl⟩, q⟩
theorem cr_maxT (hc : X.calm = true) (hu : X.A.units + 64 < cLine) : CallR X (.builtin "max") (rMaxT X.K) := by
  intro pins s σ H vs us Q I rv h
  obtain ⟨a, n, ns, rfl, hs, q⟩ := h
  obtain ⟨u, rfl, ru⟩ := vals1 rv
  cases ru
  obtain ⟨its, rw', ht, _⟩ := I.tuple hs
  obtain ⟨as, ra⟩ := Dp.readsAll I ((n :: ns).map PyData.int) _ its (dp_ints _) rw'
  refine PySem.W.max_tuple_data (vs := its.toArray) (x := .int n) (xs := ns.map .int) (I.ok.hd hc) ht (by simpa using ra) (alike_ints (n :: ns)) (by rw [show PyData.depthAll (PyData.int n :: ns.map PyData.int) = 0 from depth_ints (n :: ns)]; omega) fun i v h' tk bs hv r k => ?_
  rw [PySem.W.maxD_ints] at r
  obtain ⟨t, rfl⟩ := reads_int r
  exact ⟨.int _, H, I.kept (t' := tk) k, ⟨t, rfl⟩, q⟩
def rMinL (K : PySem.W.Frag) : List V → Hp → VK → Prop := fun vs H Q => ∃ (a : Addr) (n : Int) (ns : List Int), vs = [V.ref a] ∧ SqL K H a ((n :: ns).map V.int) ∧ Q (.int (ns.foldl min n)) H
def rMaxL (K : PySem.W.Frag) : List V → Hp → VK → Prop := fun vs H Q => ∃ (a : Addr) (n : Int) (ns : List Int), vs = [V.ref a] ∧ SqL K H a ((n :: ns).map V.int) ∧ Q (.int (ns.foldl max n)) H
theorem cr_minL (hc : X.calm = true) (hu : X.A.units + 64 < cLine) : CallR X (.builtin "min") (rMinL X.K) := by
  intro pins s σ H vs us Q I rv h
  obtain ⟨a, n, ns, rfl, hs, q⟩ := h
  obtain ⟨u, rfl, ru⟩ := vals1 rv
  cases ru
  obtain ⟨its, rw', ht, _⟩ := I.list hs
  obtain ⟨as, ra⟩ := Dp.readsAll I ((n :: ns).map PyData.int) _ its (dp_ints _) rw'
  refine PySem.W.min_list_data (vs := its.toArray) (x := .int n) (xs := ns.map .int) (I.ok.hd hc) ht.isList (by simpa using ra) (alike_ints (n :: ns)) (by rw [show PyData.depthAll (PyData.int n :: ns.map PyData.int) = 0 from depth_ints (n :: ns)]; omega) fun i v h' tk bs hv r k => ?_
  rw [PySem.W.minD_ints] at r
  obtain ⟨t, rfl⟩ := reads_int r
  exact ⟨.int _, H, I.kept (t' := tk) k, ⟨t, rfl⟩, q⟩
theorem cr_maxL (hc : X.calm = true) (hu : X.A.units + 64 < cLine) : CallR X (.builtin "max") (rMaxL X.K) := by
  intro pins s σ H vs us Q I rv h
  obtain ⟨a, n, ns, rfl, hs, q⟩ := h
  obtain ⟨u, rfl, ru⟩ := vals1 rv
  cases ru
  obtain ⟨its, rw', ht, _⟩ := I.list hs
  obtain ⟨as, ra⟩ := Dp.readsAll I ((n :: ns).map PyData.int) _ its (dp_ints _) rw'
  refine PySem.W.max_list_data (vs := its.toArray) (x := .int n) (xs := ns.map .int) (I.ok.hd hc) ht.isList (by simpa using ra) (alike_ints (n :: ns)) (by rw [show PyData.depthAll (PyData.int n :: ns.map PyData.int) = 0 from depth_ints (n :: ns)]; omega) fun i v h' tk bs hv r k => ?_
  rw [PySem.W.maxD_ints] at r
  obtain ⟨t, rfl⟩ := reads_int r
  exact ⟨.int _, H, I.kept (t' := tk) k, ⟨t, rfl⟩, q⟩
/-- t.count(x), l.count(x) over data -/
def rCountT (K : PySem.W.Frag) : V → List V → Hp → VK → Prop := fun x xs H Q => ∃ (a : Addr) (y : V) (ys : List V) (d : PyData) (ds : List PyData), x = .ref a ∧ xs = [y] ∧ SqT K H a ys ∧ DpAll K H ys ds ∧ Dp K H y d ∧ PyData.plainAll ds = true ∧ d.plain = true ∧ PyData.depthAll ds ≤ 60 ∧ Q (.int ((ds.countP fun z => PyData.eqv z d : Nat) : Int)) H
theorem mt_countT (hu : X.A.units + 64 < cLine) : MtR X "tuple.count" (rCountT X.K) := by
  intro pins s σ H x xs v us Q I rx rs h
  obtain ⟨a, y, ys, d, ds, rfl, rfl, hs, hd, hy, p1, p2, hz, q⟩ := h
  cases rx
  obtain ⟨u, rfl, ru⟩ := vals1 rs
  obtain ⟨its, rw', ht, _⟩ := I.tuple hs
  obtain ⟨as, ra⟩ := Dp.readsAll I ds _ its hd rw'
  obtain ⟨bs, rb⟩ := Dp.reads I d y u hy ru
  refine PySem.SeqAt.count_tuple_data (vs := its.toArray) ht (by simpa using ra) rb p1 p2 ?_ ⟨.int _, H, I.tok _, ⟨_, rfl⟩, q⟩
  have := Nat.min_le_left (PyData.depthAll ds) d.depth
  omega
def rCountL (K : PySem.W.Frag) : V → List V → Hp → VK → Prop := fun x xs H Q => ∃ (a : Addr) (y : V) (ys : List V) (d : PyData) (ds : List PyData), x = .ref a ∧ xs = [y] ∧ SqL K H a ys ∧ DpAll K H ys ds ∧ Dp K H y d ∧ PyData.plainAll ds = true ∧ d.plain = true ∧ PyData.depthAll ds ≤ 60 ∧ Q (.int ((ds.countP fun z => PyData.eqv z d : Nat) : Int)) H
theorem mt_countL (hu : X.A.units + 64 < cLine) : MtR X "list.count" (rCountL X.K) := by
  intro pins s σ H x xs v us Q I rx rs h
  obtain ⟨a, y, ys, d, ds, rfl, rfl, hs, hd, hy, p1, p2, hz, q⟩ := h
  cases rx
  obtain ⟨u, rfl, ru⟩ := vals1 rs
  obtain ⟨its, rw', ht, _⟩ := I.list hs
  obtain ⟨as, ra⟩ := Dp.readsAll I ds _ its hd rw'
  obtain ⟨bs, rb⟩ := Dp.reads I d y u hy ru
  refine PySem.SeqAt.count_list_data (vs := its.toArray) ht.isList (by simpa using ra) rb p1 p2 ?_ ⟨.int _, H, I.tok _, ⟨_, rfl⟩, q⟩
  have := Nat.min_le_left (PyData.depthAll ds) d.depth
  omega
end
/-! ### tuples with their records: no dict is known of the kit's `.tup` -/
def SqN (K : PySem.W.Frag) (H : Hp) (a : Addr) (xs : List V) : Prop := (∃ o, H a = some (.frz o (.tup xs)) ∧ o.dict = none) ∨
  ∃ (o : Obj) (its : Array Value) (n : Nat), K.lookup a = some o ∧ o.cls = .type "tuple" ∧ o.dict = none ∧ o.data = .seq its n ∧ its.size ≤ sizeLine ∧ Vals xs its.toList
theorem SqN.sqT {K : PySem.W.Frag} {H : Hp} {a : Addr} {xs : List V} (h : SqN K H a xs) : SqT K H a xs := by
  rcases h with ⟨o, e, _⟩ | ⟨o, its, n, h1, h2, _, h3, h4, h5⟩
  · exact .inl (.inr ⟨o, e⟩)
  · exact .inr ⟨o, its, n, h1, h2, h3, h4, h5⟩
section
variable {X : Cx}
def tTupF (t : TA) : TE := fun σ H Q => t σ H fun xs H1 => xs.length ≤ sizeLine ∧ ∀ p ob, H1 p = none → ob.dict = none → Q (.ref p) (upd H1 p (.frz ob (.tup xs)))
theorem pe_tupF {es : List Expr} {t : TA} {x1} {pos : Pos} (h : PA X es t) : PE X (.Tuple es x1 pos) (tTupF t) := by
  refine ⟨fun pins s σ H Q I hq => ?_⟩
  refine wpAny_Tuple_spliced (thn (h.run pos pins s σ H _ I hq) fun us s1 ⟨xs, H1, I1, r, z, q⟩ => ⟨by rw [← r.length]; exact z, ?_⟩)
  have hf : H1 s1.heap.objs.size = none := I1.hok.fresh (Nat.le_refl _)
  refine ⟨.ref s1.heap.objs.size, upd H1 s1.heap.objs.size (.frz { cls := .type "tuple", data := .seq us.toArray } (.tup xs)), I1.laid (t' := s1.toks) (fun b u e => Heap.get?_push_of_some _ e) (Nat.le_refl _) ?_, rfl, q _ _ hf rfl⟩
  exact ⟨Heap.get?_push_size _ rfl, z, us, r, ⟨_, Heap.get?_push_size _ rfl, rfl, _, rfl⟩⟩
def rTupF (K : PySem.W.Frag) : List V → Hp → VK → Prop := fun xs H Q => ∃ p ys, xs = [.ref p] ∧ ((SqL K H p ys ∧ ∀ l ob, H l = none → ob.dict = none → Q (.ref l) (upd H l (.frz ob (.tup ys)))) ∨ (SqT K H p ys ∧ Q (.ref p) H))
theorem call_tupleF : CallR X (.type "tuple") (rTupF X.K) := by
  intro pins s σ H xs us Q I r h
  obtain ⟨p, ys, rfl, h⟩ := h
  obtain ⟨u, rfl, rx⟩ := vals1 r
  cases rx
  rcases h with ⟨hq, q⟩ | ⟨hq, q⟩
  · obtain ⟨its, r', pl, hz⟩ := I.list hq
    have hlen := r'.length
    refine call_tuple_list pl.isList (fun h' kp => ?_) (by simp only [List.size_toArray] <;> omega)
    have I1 : Inv X pins σ H { s with heap := h' } := I.kept (t' := s.toks) kp
    have I2 : Inv X pins σ (upd H h'.objs.size (.frz { cls := .type "tuple", data := .seq its.toArray } (.tup ys))) { s with heap := h'.push { cls := .type "tuple", data := .seq its.toArray } } :=
      I1.laid (t' := s.toks) (fun b o e => Heap.get?_push_of_some _ e) (Nat.le_refl _) (show ObjOk X.prog X.w _ _ _ (.frz _ (.tup ys)) from ⟨Heap.get?_push_size _ rfl, hz, its, r', IsTup.new _ _⟩)
    exact ⟨.ref h'.objs.size, _, I2, rfl, q _ _ (I1.hok.fresh (Nat.le_refl _)) rfl⟩
  · obtain ⟨its, r', pl, hz⟩ := I.tuple hq
    exact call_tuple_same pl ⟨.ref p, H, I, rfl, q⟩
def rCatF (K : PySem.W.Frag) : R2 := fun x y H Q => ∃ a b xs ys, x = .ref a ∧ y = .ref b ∧ SqT K H a xs ∧ SqT K H b ys ∧ xs.length + ys.length ≤ sizeLine ∧
  (xs = [] → Q (.ref b) H) ∧ (xs ≠ [] → ys = [] → Q (.ref a) H) ∧ (xs ≠ [] → ys ≠ [] → ∀ p ob, H p = none → ob.dict = none → Q (.ref p) (upd H p (.frz ob (.tup (xs ++ ys)))))
theorem op_catF : OpR X (binaryOp .Add) (rCatF X.K) := by
  intro pins s σ H x y v u Q I rx ry h
  obtain ⟨a, b, xs, ys, rfl, rfl, ha, hb, hz, q0, q1, q2⟩ := h
  by_cases hx : xs = []
  · subst hx
    cases rx
    cases ry
    obtain ⟨its, r1, p1, _⟩ := I.tuple ha
    obtain ⟨its2, r2, p2, _⟩ := I.tuple hb
    cases r1
    exact cat_tup0 p1 p2 ⟨.ref b, H, I, rfl, q0 rfl⟩
  · cases rx
    cases ry
    obtain ⟨its, r1, p1, _⟩ := I.tuple ha
    obtain ⟨its2, r2, p2, _⟩ := I.tuple hb
    refine HT.cat_tup p1 p2 (fun z => hx (r1.nil_iff.mp z)) (fun z => ⟨.ref a, H, I, rfl, q1 hx (r2.nil_iff.mp z)⟩) (fun z => ?_) (by rw [← r1.length, ← r2.length]; exact hz)
    refine ⟨.ref s.heap.objs.size, _, I.laid (t' := s.toks) (o := .frz { cls := .type "tuple", data := .seq (its ++ its2).toArray } (.tup (xs ++ ys))) (fun b ob q => Heap.get?_push_of_some _ q) (Nat.le_refl _) ?_, rfl, q2 hx (fun w => z (r2.nil_iff.mpr w)) _ _ (I.hok.fresh (Nat.le_refl _)) rfl⟩
    exact ⟨Heap.get?_push_size _ rfl, by rw [List.length_append]; exact hz, _, r1.append r2, IsTup.new _ _⟩
def rSlF (K : PySem.W.Frag) : V → Option Int → Option Int → Hp → VK → Prop := fun x lo hi H Q => ∃ a xs, x = .ref a ∧ SqT K H a xs ∧
  (HT.sIx xs.length 0 lo = 0 ∧ HT.sIx xs.length xs.length hi = xs.length → Q (.ref a) H) ∧ (¬ (HT.sIx xs.length 0 lo = 0 ∧ HT.sIx xs.length xs.length hi = xs.length) → ∀ p ob, H p = none → ob.dict = none → Q (.ref p) (upd H p (.frz ob (.tup (cutV xs lo hi)))))
theorem sl_tupF : SlR X (rSlF X.K) := by
  intro pins s σ H x v vl vu lo hi sl Q I rx hs pl pu h
  obtain ⟨a, xs, rfl, hx, q1, q2⟩ := h
  cases rx
  obtain ⟨its, r, ht, hz⟩ := I.tuple hx
  have hlen : its.toArray.size = xs.length := by rw [List.size_toArray]; exact r.length.symm
  by_cases hw : HT.sIx xs.length 0 lo = 0 ∧ HT.sIx xs.length xs.length hi = xs.length
  · refine ⟨"tuple", _, PyProof.Rows.slot_tuple_getitem.lookup, ht.typeIs, ?_⟩
    exact getItem_tuple_whole ht hs pl pu (by rw [hlen]; exact hw) ⟨.ref a, H, I, rfl, q1 hw⟩
  · refine ⟨"tuple", _, PyProof.Rows.slot_tuple_getitem.lookup, ht.typeIs, ?_⟩
    refine HT.getItem_tuple_cut ht hs pl pu (by rw [hlen]; exact hw) ?_ (by rw [hlen]; exact hz)
    rw [hlen]
    refine ⟨.ref s.heap.objs.size, _, I.laid (t' := s.toks) (o := .frz { cls := .type "tuple", data := .seq ((its.drop (HT.sIx xs.length 0 lo)).take (HT.sIx xs.length xs.length hi - HT.sIx xs.length 0 lo)).toArray } (.tup (cutV xs lo hi))) (fun b ob q => Heap.get?_push_of_some _ q) (Nat.le_refl _) ?_, rfl, q2 hw _ _ (I.hok.fresh (Nat.le_refl _)) rfl⟩
    exact ⟨Heap.get?_push_size _ rfl, Nat.le_trans (cutV_length xs lo hi) hz, _, (r.drop (HT.sIx xs.length 0 lo)).take (HT.sIx xs.length xs.length hi - HT.sIx xs.length 0 lo), IsTup.new _ _⟩
end
/-! ### any, all of a tuple of bools; is True -/
section
variable {X : Cx}
theorem dp_bls {K : PySem.W.Frag} {H : Hp} : ∀ ns : List Bool, DpAll K H (ns.map V.bl) (ns.map PyData.bool)
  | [] => .nil
  | n :: r => .cons (.bl n) (dp_bls r)
theorem plain_bls : ∀ ns : List Bool, PyData.plainAll (ns.map PyData.bool) = true
  | [] => rfl
  | n :: r => by
    rw [List.map_cons]
    unfold PyData.plainAll
    rw [plain_bls r]
    rfl
def rAnyT (K : PySem.W.Frag) : List V → Hp → VK → Prop := fun vs H Q => ∃ (a : Addr) (bs : List Bool), vs = [V.ref a] ∧ SqT K H a (bs.map V.bl) ∧ Q (.bl (bs.any id)) H
def rAllT (K : PySem.W.Frag) : List V → Hp → VK → Prop := fun vs H Q => ∃ (a : Addr) (bs : List Bool), vs = [V.ref a] ∧ SqT K H a (bs.map V.bl) ∧ Q (.bl (bs.all id)) H
theorem cr_anyT (hc : X.calm = true) : CallR X (.builtin "any") (rAnyT X.K) := by
  intro pins s σ H vs us Q I r h
  obtain ⟨a, bs, rfl, hs, q⟩ := h
  obtain ⟨its, rv, hl, _⟩ := I.tuple hs
  rw [Vals.ref1 r]
  obtain ⟨as, ra⟩ := Dp.readsAll I (bs.map PyData.bool) _ its (dp_bls _) rv
  refine PySem.W.any_tuple_data (vs := its.toArray) (I.ok.hd hc) hl (by simpa using ra) (plain_bls bs) (fun x hx => ?_) fun h' tk k => ?_
  · obtain ⟨b, _, rfl⟩ := List.mem_map.mp hx
    trivial
  · refine ⟨.bl (bs.any id), H, I.kept (t' := tk) k, ?_, q⟩
    show Value.bool _ = Value.bool _
    rw [List.any_map]
    rfl
theorem cr_allT (hc : X.calm = true) : CallR X (.builtin "all") (rAllT X.K) := by
  intro pins s σ H vs us Q I r h
  obtain ⟨a, bs, rfl, hs, q⟩ := h
  obtain ⟨its, rv, hl, _⟩ := I.tuple hs
  rw [Vals.ref1 r]
  obtain ⟨as, ra⟩ := Dp.readsAll I (bs.map PyData.bool) _ its (dp_bls _) rv
  refine PySem.W.all_tuple_data (vs := its.toArray) (I.ok.hd hc) hl (by simpa using ra) (plain_bls bs) (fun x hx => ?_) fun h' tk k => ?_
  · obtain ⟨b, _, rfl⟩ := List.mem_map.mp hx
    trivial
  · refine ⟨.bl (bs.all id), H, I.kept (t' := tk) k, ?_, q⟩
    show Value.bool _ = Value.bool _
    rw [List.all_map]
    rfl
theorem ne_bool {x : V} {v : Value} {b : Bool} (hx : ∀ a, x ≠ V.bl a) (r : RelV x v) : (v == Value.bool b) = false := by
  have h : v ≠ Value.bool b := by
    cases x with
    | bl a => exact absurd rfl (hx a)
    | non => have r : v = Value.none := r; rw [r]; exact fun z => by cases z
    | int i => obtain ⟨t, rfl⟩ := r; exact fun z => by cases z
    | str i => obtain ⟨t, rfl⟩ := r; exact fun z => by cases z
    | byt i => obtain ⟨t, rfl⟩ := r; exact fun z => by cases z
    | flt i => obtain ⟨t, rfl⟩ := r; exact fun z => by cases z
    | ref a => have r : v = Value.ref a := r; rw [r]; exact fun z => by cases z
    | ty n => have r : v = Value.type n := r; rw [r]; exact fun z => by cases z
  simpa using h
theorem is_ne {M : Model} {A : Around} {E : Value → Shared → Prop} {s : Shared} {Q : Value → Shared → Prop} {x : V} {u : Value} {b : Bool} (hx : ∀ a, x ≠ V.bl a) (r : RelV x u) (h : Q (.bool false) s) : wpAny M A (compareOp .Is u (.bool b)) Q E s := by
  have e := ne_bool (b := b) hx r
  have h : Q (.bool ((u == Value.bool b))) s := by rw [e]; exact h
  clear e
  cases x with
  | bl a => exact absurd rfl (hx a)
  | non => have r : u = Value.none := r; subst r; exact wpAny_pure h
  | int i => obtain ⟨t, rfl⟩ := r; exact wpAny_pure h
  | str i => obtain ⟨t, rfl⟩ := r; exact wpAny_pure h
  | byt i => obtain ⟨t, rfl⟩ := r; exact wpAny_pure h
  | flt i => obtain ⟨t, rfl⟩ := r; exact wpAny_pure h
  | ref a => have r : u = Value.ref a := r; subst r; exact wpAny_pure h
  | ty n => have r : u = Value.type n := r; subst r; exact wpAny_pure h
theorem isnot_ne {M : Model} {A : Around} {E : Value → Shared → Prop} {s : Shared} {Q : Value → Shared → Prop} {x : V} {u : Value} {b : Bool} (hx : ∀ a, x ≠ V.bl a) (r : RelV x u) (h : Q (.bool true) s) : wpAny M A (compareOp .IsNot u (.bool b)) Q E s := by
  have e := ne_bool (b := b) hx r
  have h : Q (.bool (!(u == Value.bool b))) s := by rw [e]; exact h
  clear e
  cases x with
  | bl a => exact absurd rfl (hx a)
  | non => have r : u = Value.none := r; subst r; exact wpAny_pure h
  | int i => obtain ⟨t, rfl⟩ := r; exact wpAny_pure h
  | str i => obtain ⟨t, rfl⟩ := r; exact wpAny_pure h
  | byt i => obtain ⟨t, rfl⟩ := r; exact wpAny_pure h
  | flt i => obtain ⟨t, rfl⟩ := r; exact wpAny_pure h
  | ref a => have r : u = Value.ref a := r; subst r; exact wpAny_pure h
  | ty n => have r : u = Value.type n := r; subst r; exact wpAny_pure h
theorem op_isB : OpR X (compareOp .Is) (fun x y H Q => ∃ b, y = V.bl b ∧ ((∃ a, x = V.bl a ∧ Q (.bl (a == b)) H) ∨ ((∀ a, x ≠ V.bl a) ∧ Q (.bl false) H))) := by
  intro pins s σ H x y v u Q I rx ry h
  obtain ⟨b, rfl, h⟩ := h
  cases ry
  rcases h with ⟨a, rfl, q⟩ | ⟨hx, q⟩
  · cases rx
    exact PyProof.Rows.is_bool ⟨.bl _, H, I, rfl, q⟩
  · exact is_ne hx rx ⟨.bl _, H, I, rfl, q⟩
theorem op_isnotB : OpR X (compareOp .IsNot) (fun x y H Q => ∃ b, y = V.bl b ∧ ((∃ a, x = V.bl a ∧ Q (.bl (a != b)) H) ∨ ((∀ a, x ≠ V.bl a) ∧ Q (.bl true) H))) := by
  intro pins s σ H x y v u Q I rx ry h
  obtain ⟨b, rfl, h⟩ := h
  cases ry
  rcases h with ⟨a, rfl, q⟩ | ⟨hx, q⟩
  · cases rx
    exact PyProof.Rows.isnot_bool ⟨.bl _, H, I, rfl, q⟩
  · exact isnot_ne hx rx ⟨.bl _, H, I, rfl, q⟩
end
end L2

end

/-! ## EvD -/
section
set_option Elab.async false
set_option linter.all false
set_option maxRecDepth 100000
set_option maxHeartbeats 2000000
/-! Dicts whose keys are nested tuples, written dicts, slices from behind. -/
namespace L2
open PySem PySem.Spec PyProof.Rows
/-! ### keys -/
mutual
inductive NKv (K : PySem.W.Frag) (H : Hp) : V → NestedKey → Prop
  | non : NKv K H .non .none
  | bl (b : Bool) : NKv K H (.bl b) (.num (if b = true then 1 else 0))
  | int (i : Int) : NKv K H (.int i) (.num i)
  | str (x : Str) : NKv K H (.str x) (.text x)
  | tup {a : Addr} {xs : List V} {ks : List NestedKey} : SqT K H a xs → NKs K H xs ks → NKv K H (.ref a) (.tup ks)
inductive NKs (K : PySem.W.Frag) (H : Hp) : List V → List NestedKey → Prop
  | nil : NKs K H [] []
  | cons {v : V} {vs : List V} {k : NestedKey} {ks : List NestedKey} : NKv K H v k → NKs K H vs ks → NKs K H (v :: vs) (k :: ks)
end
section
variable {X : Cx} {pins : List (Addr × Obj)} {σ : St} {H : Hp} {s : Shared}
mutual
theorem nkv_is (I : Inv X pins σ H s) : ∀ (k : NestedKey) (v : V) (u : Value), NKv X.K H v k → RelV v u → NestedIs s.heap k u
  | .none, _, _, h, r => by
    cases h
    cases r
    exact .none
  | .num i, _, _, h, r => by
    cases h with
    | bl b =>
      cases r
      exact .bool rfl
    | int =>
      obtain ⟨t, rfl⟩ := r
      exact .int i t
  | .text x, _, _, h, r => by
    cases h
    obtain ⟨t, rfl⟩ := r
    exact .text x t
  | .tup ks, _, _, h, r => by
    cases h with
    | tup hs ha =>
      cases r
      obtain ⟨its, rv, ⟨o, h1, h2, n, h3⟩, _⟩ := I.tuple hs
      exact .tup h1 h2 h3 (nks_is I ks _ _ ha (by simpa using rv))
theorem nks_is (I : Inv X pins σ H s) : ∀ (ks : List NestedKey) (vs : List V) (us : List Value), NKs X.K H vs ks → Vals vs us → NestedAll s.heap ks us
  | [], _, _, h, r => by
    cases h
    cases r
    exact .nil
  | k :: ks, _, _, h, r => by
    cases h with
    | cons h1 h2 =>
      cases r with
      | cons r1 r2 => exact .cons (nkv_is I k _ _ h1 r1) (nks_is I ks _ _ h2 r2)
end
end
/-! ### the dict -/
abbrev NKV := List (NestedKey × Addr × V)
abbrev KN : NKV → List (NestedKey × Addr × Value) → Prop := Paired fun p q => p.1 = q.1 ∧ p.2.1 = q.2.1 ∧ RelV p.2.2 q.2.2
def dNR (w : World) (a : Addr) (kvs : NKV) (h : Heap) : Prop := kvs.length ≤ sizeLine ∧ (a == sysModules) = false ∧ ∃ xs : List (NestedKey × Addr × Value), KN kvs xs ∧
  ∃ o es ep, h.get? a = some o ∧ o.ExactDict ∧ o.data = .dict es ep ∧ es.toList = xs.map (fun x => (⟨x.1.hash w, .ref x.2.1, x.2.2⟩ : DictEntry)) ∧ (xs.map (·.1)).Nodup
def dNO (w : World) (a : Addr) (kvs : NKV) : HO := .ext (dNR w a kvs)
/-- what it has at a key -/
def nGet (kvs : NKV) (k : NestedKey) : Option V := (kvs.find? fun x => decide (x.1 = k)).map (·.2.2)
def nPut (kvs : NKV) (k : NestedKey) (a : Addr) (v : V) : NKV := if (nGet kvs k).isSome then kvs.map (fun x => if x.1 = k then (x.1, x.2.1, v) else x) else kvs ++ [(k, a, v)]
theorem KN.get {kvs : NKV} {xs : List (NestedKey × Addr × Value)} (r : KN kvs xs) (k : NestedKey) : RelO (nGet kvs k) ((atKey xs k).map (·.2)) := by
  induction r with
  | nil => trivial
  | @cons p q ps qs h t ih =>
    obtain ⟨e1, e2, e3⟩ := h
    unfold nGet atKey at ih ⊢
    by_cases hk : p.1 = k
    · rw [List.find?_cons_of_pos (by simpa using hk), List.find?_cons_of_pos (by rw [← e1]; simpa using hk)]
      exact e3
    · rw [List.find?_cons_of_neg (by simpa using hk), List.find?_cons_of_neg (by rw [← e1]; simpa using hk)]
      exact ih
theorem KN.some {kvs : NKV} {xs : List (NestedKey × Addr × Value)} (r : KN kvs xs) (k : NestedKey) : (nGet kvs k).isSome = (atKey xs k).isSome := by
  rw [RelO.isSome_eq (r.get k), Option.isSome_map]
theorem KN.rep {kvs : NKV} {xs : List (NestedKey × Addr × Value)} (r : KN kvs xs) (k : NestedKey) {v : V} {u : Value} (rv : RelV v u) : KN (kvs.map fun x => if x.1 = k then (x.1, x.2.1, v) else x) (xs.map (putAt k u)) := by
  induction r with
  | nil => exact .nil
  | @cons p q ps qs h t ih =>
    obtain ⟨e1, e2, e3⟩ := h
    rw [List.map_cons, List.map_cons]
    refine .cons ?_ ih
    unfold putAt
    by_cases hk : p.1 = k
    · rw [if_pos hk, if_pos (by rw [← e1]; exact hk)]
      exact ⟨e1, e2, rv⟩
    · rw [if_neg hk, if_neg (by rw [← e1]; exact hk)]
      exact ⟨e1, e2, e3⟩
theorem KN.snoc {kvs : NKV} {xs : List (NestedKey × Addr × Value)} (r : KN kvs xs) (k : NestedKey) (a : Addr) {v : V} {u : Value} (rv : RelV v u) : KN (kvs ++ [(k, a, v)]) (xs ++ [(k, a, u)]) := by
  induction r with
  | nil => exact .cons ⟨rfl, rfl, rv⟩ .nil
  | cons h t ih => exact .cons h ih
theorem KN.put {kvs : NKV} {xs : List (NestedKey × Addr × Value)} (r : KN kvs xs) (k : NestedKey) (a : Addr) {v : V} {u : Value} (rv : RelV v u) : KN (nPut kvs k a v) (storedH xs k a u) := by
  unfold nPut storedH
  rw [r.some k]
  split
  · exact r.rep k rv
  · exact r.snoc k a rv
theorem nPut_len (kvs : NKV) (k : NestedKey) (a : Addr) (v : V) : (nPut kvs k a v).length ≤ kvs.length + 1 := by
  unfold nPut
  split
  · rw [List.length_map]
    omega
  · rw [List.length_append]
    exact Nat.le_refl _
theorem nPut_mem {kvs : NKV} {k : NestedKey} {a : Addr} {v : V} {x : NestedKey × Addr × V} (h : x ∈ nPut kvs k a v) : (∃ y ∈ kvs, y.1 = x.1 ∧ y.2.1 = x.2.1) ∨ (x.1 = k ∧ x.2.1 = a) := by
  unfold nPut at h
  split at h
  · obtain ⟨y, hy, e⟩ := List.mem_map.mp h
    refine .inl ⟨y, hy, ?_⟩
    split at e <;> (subst e; exact ⟨rfl, rfl⟩)
  · rcases List.mem_append.mp h with h | h
    · exact .inl ⟨x, h, rfl, rfl⟩
    · rw [List.mem_singleton.mp h]
      exact .inr ⟨rfl, rfl⟩
/-- every key is one -/
def NKey (K : PySem.W.Frag) (H : Hp) (k : NestedKey) (b : Addr) : Prop := NKv K H (.ref b) k ∧ k.depth ≤ 8
def NKeys (K : PySem.W.Frag) (H : Hp) (kvs : NKV) : Prop := ∀ p ∈ kvs, NKey K H p.1 p.2.1
theorem KN.mem {kvs : NKV} {xs : List (NestedKey × Addr × Value)} (r : KN kvs xs) {q : NestedKey × Addr × Value} (h : q ∈ xs) : ∃ p ∈ kvs, p.1 = q.1 ∧ p.2.1 = q.2.1 := by
  induction r with
  | nil => cases h
  | @cons p q' ps qs hh t ih =>
    rcases List.mem_cons.mp h with e | h
    · subst e
      exact ⟨p, List.mem_cons_self, hh.1, hh.2.1⟩
    · obtain ⟨p2, h2, e⟩ := ih h
      exact ⟨p2, List.mem_cons_of_mem _ h2, e⟩
section
variable {X : Cx} {pins : List (Addr × Obj)} {σ : St} {H : Hp} {s : Shared} {a b : Addr} {kvs : NKV} {k : NestedKey} {A : Around} {E : Value → Shared → Prop}
theorem dn_key (I : Inv X pins σ H s) (h : NKey X.K H k b) : (nestedKind X.prog X.w).is s.heap k b := ⟨nkv_is I k _ _ h.1 rfl, h.2⟩
theorem dn_of (I : Inv X pins σ H s) (e : H a = some (dNO X.w a kvs)) (hk : NKeys X.K H kvs) : kvs.length ≤ sizeLine ∧ (a == sysModules) = false ∧ ∃ xs, KN kvs xs ∧ s.heap.DictOfH (nestedKind X.prog X.w) a xs := by
  obtain ⟨⟨h1, h2, xs, r, o, es, ep, h3, h4, h5, h6, h7⟩, _⟩ := (show ObjOk X.prog X.w H s.heap a (.ext (dNR X.w a kvs)) from I.hok a _ e)
  refine ⟨h1, h2, xs, r, o, es, ep, h3, h4, h5, h6, fun x hx => ?_, h7⟩
  obtain ⟨p, hp, e1, e2⟩ := r.mem hx
  have := dn_key I (hk p hp)
  rw [e1, e2] at this
  exact this
theorem dn_new {H : Hp} {h' : Heap} {xs : List (NestedKey × Addr × Value)} {P : Program} {w : World} (hl : kvs.length ≤ sizeLine) (hd : (a == sysModules) = false) (r : KN kvs xs) (dd : h'.DictOfH (nestedKind P w) a xs) : ObjOk P w H h' a (dNO w a kvs) := by
  obtain ⟨q, es, ep, hq, h2, h3, h4, _, h5⟩ := dd
  refine ⟨⟨hl, hd, xs, r, q, es, ep, hq, h2, h3, h4, h5⟩, ⟨q, hq⟩, fun g1 g2 ⟨x1, x2, ys, y1, o, es, ep, y3, y4⟩ kp => ⟨x1, x2, ys, y1, o, es, ep, kp _ y3, y4⟩⟩
theorem room8 (hu : A.units + 64 < cLine) : A.in1.units + 8 < cLine := by show A.units + 1 + 8 < cLine; omega
theorem dn_get {Q : Value → Shared → Prop} {v : V} (hu : X.A.units + 64 < cLine) (I : Inv X pins σ H s) (e : H a = some (dNO X.w a kvs)) (hk : NKeys X.K H kvs) (hb : NKey X.K H k b) (hv : nGet kvs k = some v) (h : ∀ w' s', Inv X pins σ H s' → RelV v w' → Q w' s') :
    wpAny (model X.prog X.w) X.A (getItem (.ref a) (.ref b)) Q E s := by
  obtain ⟨_, _, xs, r, dd⟩ := dn_of I e hk
  obtain ⟨w', hw, rw'⟩ := RelO.some_of (v := v) (o := (atKey xs k).map (·.2)) (by rw [← hv]; exact r.get k)
  obtain ⟨p, hp, hp2⟩ := Option.map_eq_some_iff.mp hw
  refine wpAny_getItem_heap (show (nestedKind X.prog X.w).room X.A.in1 from room8 hu) (dn_key I hb) dd hp ?_
  rw [hp2]
  exact h w' _ (I.tok _) rw'
theorem dn_in {Q : Value → Shared → Prop} (hu : X.A.units + 64 < cLine) (I : Inv X pins σ H s) (e : H a = some (dNO X.w a kvs)) (hk : NKeys X.K H kvs) (hb : NKey X.K H k b) (h : ∀ s', Inv X pins σ H s' → Q (.bool (nGet kvs k).isSome) s') :
    wpAny (model X.prog X.w) X.A (compareOp .In (.ref b) (.ref a)) Q E s := by
  obtain ⟨_, hd, xs, r, dd⟩ := dn_of I e hk
  refine wpAny_in_heap (show (nestedKind X.prog X.w).room X.A.in1 from room8 hu) (dn_key I hb) hd dd ?_
  rw [← r.some k]
  exact h _ (I.tok _)
theorem dn_notIn {Q : Value → Shared → Prop} (hu : X.A.units + 64 < cLine) (I : Inv X pins σ H s) (e : H a = some (dNO X.w a kvs)) (hk : NKeys X.K H kvs) (hb : NKey X.K H k b) (h : ∀ s', Inv X pins σ H s' → Q (.bool (!(nGet kvs k).isSome)) s') :
    wpAny (model X.prog X.w) X.A (compareOp .NotIn (.ref b) (.ref a)) Q E s := by
  obtain ⟨_, hd, xs, r, dd⟩ := dn_of I e hk
  refine wpAny_notIn_heap (show (nestedKind X.prog X.w).room X.A.in1 from room8 hu) (dn_key I hb) hd dd ?_
  rw [← r.some k]
  exact h _ (I.tok _)
theorem dn_put {Q : Unit → Shared → Prop} {v : V} {u : Value} (hu : X.A.units + 64 < cLine) (I : Inv X pins σ H s) (e : H a = some (dNO X.w a kvs)) (hk : NKeys X.K H kvs) (hb : NKey X.K H k b) (hl : kvs.length < sizeLine) (rv : RelV v u) (h : ∀ s', Inv X pins σ (upd H a (dNO X.w a (nPut kvs k b v))) s' → Q () s') :
    wpAny (model X.prog X.w) X.A (setItem (.ref a) (.ref b) u) Q E s := by
  obtain ⟨_, hd, xs, r, dd⟩ := dn_of I e hk
  have hz : xs.length ≤ sizeLine := by rw [← Paired.length r]; omega
  have hl2 : (nPut kvs k b v).length ≤ sizeLine := by have := nPut_len kvs k b v; omega
  refine wpAny_setItem_heap (hsz := hz) (show (nestedKind X.prog X.w).room X.A.in1 from room8 hu) (dn_key I hb) dd fun h' dd' hs => h _ ?_
  have dd2 := dd'
  obtain ⟨q, es, ep, hq, _⟩ := dd'
  exact d_write I (by rw [e]; exact True.intro) hs ⟨q, hq⟩ (dn_new hl2 hd (r.put k b rv) dd2)
theorem dn_type (I : Inv X pins σ H s) (e : H a = some (dNO X.w a kvs)) : s.TypeIs (.ref a) "dict" := by
  obtain ⟨⟨h1, h2, xs, r, o, es, ep, h3, h4, _⟩, _⟩ := (show ObjOk X.prog X.w H s.heap a (.ext (dNR X.w a kvs)) from I.hok a _ e)
  exact ⟨o, h3, h4.1⟩
theorem dn_nodict (I : Inv X pins σ H s) (e : H a = some (dNO X.w a kvs)) : ∀ b, Value.ref a = .ref b → ∃ ob, s.heap.get? b = some ob ∧ ob.dict = none := fun b z => by
  cases z
  obtain ⟨⟨h1, h2, xs, r, o, es, ep, h3, h4, _⟩, _⟩ := (show ObjOk X.prog X.w H s.heap a (.ext (dNR X.w a kvs)) from I.hok a _ e)
  exact ⟨o, h3, h4.2.1⟩
end
/-! ### both kinds of dicts: what stands at a key -/
/-- keys are ints, texts (false) or tuples (true) -/
inductive DHas (K : PySem.W.Frag) (w : World) (H : Hp) (a : Addr) (y : V) : Option V → Prop
  | k {kvs : List (Key × V)} {k : Key} : H a = some (.dK kvs) → y = kV k → DHas K w H a y (valV kvs k)
  | n {kvs : NKV} {k : NestedKey} {b : Addr} : H a = some (dNO w a kvs) → NKeys K H kvs → y = .ref b → NKey K H k b → DHas K w H a y (nGet kvs k)
inductive DSet (K : PySem.W.Frag) (w : World) (H : Hp) (a : Addr) (y v : V) : HO → Prop
  | k {kvs : List (Key × V)} {k : Key} : H a = some (.dK kvs) → y = kV k → kvs.length < sizeLine → DSet K w H a y v (.dK (putK kvs k v))
  | n {kvs : NKV} {k : NestedKey} {b : Addr} : H a = some (dNO w a kvs) → NKeys K H kvs → y = .ref b → NKey K H k b → kvs.length < sizeLine → DSet K w H a y v (dNO w a (nPut kvs k b v))
def tEGet (X : Cx) (td ty : TE) : TE := fun σ H Q => td σ H fun x H1 => ty σ H1 fun y H2 => ∃ a v, x = .ref a ∧ DHas X.K X.w H2 a y (some v) ∧ Q v H2
def tEIn (X : Cx) (neg : Bool) (ty td : TE) : TE := fun σ H Q => ty σ H fun y H1 => td σ H1 fun x H2 => ∃ a o, x = .ref a ∧ DHas X.K X.w H2 a y o ∧ Q (.bl (if neg then !o.isSome else o.isSome)) H2
def sEPut (X : Cx) (td ty tv : TE) : TS := fun D σ H => tv σ H fun v H1 => td σ H1 fun x H2 => ty σ H2 fun y H3 => ∃ a ob, x = .ref a ∧ DSet X.K X.w H3 a y v ob ∧ D.nx σ (upd H3 a ob)
section
variable {X : Cx} {o i value : Expr} {pos pos' : Pos} {td ty tv : TE}
theorem pe_eget (hu : X.A.units + 64 < cLine) (ho : PE X o td) (hi : PE X i ty) (hs : NoSl i) : PE X (.Subscript o i pos) (tEGet X td ty) := by
  refine ⟨fun pins s σ H Q I h => ?_⟩
  refine subD_of PySem.F.slot_dict_getitem.lookup hs (thn (ho.run pins s σ H _ I h) fun u s1 ⟨x, H1, I1, rx, q1⟩ => thn (hi.run pins s1 σ H1 _ I1 q1) fun iv s2 ⟨y, H2, I2, ry, a, v, ex, g, q2⟩ => ?_)
  subst ex
  obtain rfl : u = Value.ref a := rx
  generalize hr : some v = r at g
  cases g with
  | @k kvs k e ey => exact ⟨dict_typeIs I2 (DGet.k (k := k) e), d_getItem (y := y) (v := v) (by omega) I2 (by rw [ey, hr]; exact DGet.k e) ry fun w' s3 I3 rw' => ⟨v, H2, I3, rw', q2⟩⟩
  | n e hk ey hb =>
    subst ey
    cases (show iv = Value.ref _ from ry)
    exact ⟨dn_type I2 e, dn_get hu I2 e hk hb hr.symm fun w' s3 I3 rw' => ⟨v, H2, I3, rw', q2⟩⟩
theorem pc_ein (hu : X.A.units + 64 < cLine) (hi : PE X i ty) (ho : PE X o td) : PC X .In i o (tEIn X false ty td) := by
  refine ⟨fun pins s σ H Q I h => ?_⟩
  refine thn (hi.run pins s σ H _ I h) fun iv s1 ⟨y, H1, I1, ry, q1⟩ => thn (ho.run pins s1 σ H1 _ I1 q1) fun u s2 ⟨x, H2, I2, rx, a, ov, ex, g, q2⟩ => ?_
  subst ex
  obtain rfl : u = Value.ref a := rx
  cases g with
  | @k kvs k e ey =>
    subst ey
    exact d_in (by omega) I2 (DGet.k e) ry fun s3 I3 => ⟨.bl _, H2, I3, rfl, q2⟩
  | n e hk ey hb =>
    subst ey
    cases (show iv = Value.ref _ from ry)
    exact dn_in hu I2 e hk hb fun s3 I3 => ⟨.bl _, H2, I3, rfl, q2⟩
theorem pc_enotin (hu : X.A.units + 64 < cLine) (hi : PE X i ty) (ho : PE X o td) : PC X .NotIn i o (tEIn X true ty td) := by
  refine ⟨fun pins s σ H Q I h => ?_⟩
  refine thn (hi.run pins s σ H _ I h) fun iv s1 ⟨y, H1, I1, ry, q1⟩ => thn (ho.run pins s1 σ H1 _ I1 q1) fun u s2 ⟨x, H2, I2, rx, a, ov, ex, g, q2⟩ => ?_
  subst ex
  obtain rfl : u = Value.ref a := rx
  cases g with
  | @k kvs k e ey =>
    subst ey
    exact d_notIn (by omega) I2 (DGet.k e) ry fun s3 I3 => ⟨.bl _, H2, I3, rfl, q2⟩
  | n e hk ey hb =>
    subst ey
    cases (show iv = Value.ref _ from ry)
    exact dn_notIn hu I2 e hk hb fun s3 I3 => ⟨.bl _, H2, I3, rfl, q2⟩
theorem ps_eput (hu : X.A.units + 64 < cLine) (ho : PE X o td) (hi : PE X i ty) (hv : PE X value tv) (hs : swapsWith value (some (.Subscript o i pos')) pos.line X.env = pure false) :
    PS X (.Assign [.Subscript o i pos'] value pos) (sEPut X td ty tv) := by
  refine ⟨fun pins s σ H D I h => ?_⟩
  refine wpAny_Assign_Subscript (thn (hv.run pins s σ H _ I h) fun r s1 ⟨v, H1, I1, rv, q1⟩ => thn (ho.run pins s1 σ H1 _ I1 q1) fun u s2 ⟨x, H2, I2, rx, q2⟩ => thn (hi.run pins s2 σ H2 _ I2 q2) fun iv s3 ⟨y, H3, I3, ry, a, ob, ex, g, q3⟩ => ?_) hs
  subst ex
  obtain rfl : u = Value.ref a := rx
  cases g with
  | @k kvs k e ey hl =>
    subst ey
    exact d_setItem (by omega) I3 (DPut.k e hl) ry rv fun s4 I4 => ⟨σ, _, I4, q3⟩
  | n e hk ey hb hl =>
    subst ey
    cases (show iv = Value.ref _ from ry)
    exact dn_put hu I3 e hk hb hl rv fun s4 I4 => ⟨σ, _, I4, q3⟩
def tDNewN (w : World) : TE := fun _ H Q => ∀ p, H p = none → Q (.ref p) (upd H p (dNO w p []))
theorem pe_dnewN : PE X (.Dict [] [] pos) (tDNewN X.w) := ⟨fun pins s σ H Q I h =>
  wpAny_Dict_empty ⟨.ref s.heap.objs.size, _, I.laid (a := s.heap.objs.size) (o := dNO X.w s.heap.objs.size []) (t' := s.toks) (fun _ _ q => Heap.get?_push_of_some _ q) (Nat.le_refl _)
    (dn_new (P := X.prog) (xs := []) (Nat.zero_le _) (beq_eq_false_iff_ne.mpr (Ne.symm (Nat.ne_of_lt I.big))) .nil ⟨_, #[], 0, Heap.get?_push_size _ rfl, ⟨rfl, rfl, rfl⟩, rfl, rfl, (fun _ h => by cases h), List.nodup_nil⟩), rfl, h _ (I.hok.fresh (Nat.le_refl _))⟩⟩
/-! ### xs[n::-1] -/
theorem revn_pick (items : Array Value) (n : Int) (h : 0 ≤ n) : slicePick items (some n) none (some (-1)) = (items.toList.take (n.toNat + 1)).reverse.toArray := by
  have hb : sliceBounds (some n) none (some (-1)) items.size = (((min (n.toNat + 1) items.size : Nat) : Int) - 1, -1, -1) := by
    unfold sliceBounds
    have h1 : ¬ ((-1 : Int) > 0) := by decide
    have h2 : ¬ n < 0 := by omega
    simp only [Option.getD_some, h1, h2, if_false]
    rw [show max (-1 : Int) (min n ((items.size : Int) - 1)) = ((min (n.toNat + 1) items.size : Nat) : Int) - 1 by omega]
  unfold slicePick
  rw [hb]
  show ((sliceRange (((min (n.toNat + 1) items.size : Nat) : Int) - 1) (-1) (-1)).filterMap (items[·]?)).toArray = _
  rw [PySem.W.krv_sliceRange, PySem.W.krv_range, List.filterMap_reverse]
  congr 2
  have : (List.range (min (n.toNat + 1) items.size)).filterMap (items[·]?) = items.toList.take (min (n.toNat + 1) items.size) := by
    have h := pick_run items 0 (min (n.toNat + 1) items.size)
    have e : (List.range (min (n.toNat + 1) items.size)).map (0 + ·) = List.range (min (n.toNat + 1) items.size) := by
      rw [show ((0 + ·) : Nat → Nat) = id from funext fun k => Nat.zero_add k, List.map_id]
    rw [e, List.drop_zero] at h
    exact h
  rw [this]
  by_cases hz : n.toNat + 1 ≤ items.size
  · rw [Nat.min_eq_left hz]
  · rw [Nat.min_eq_right (by omega), List.take_of_length_le (by rw [Array.length_toList]; omega), List.take_of_length_le (by rw [Array.length_toList]; omega)]
def tRevN (K : PySem.W.Frag) (te ti : TE) : TE := fun σ H Q => te σ H fun x H1 => tPart ti σ H1 fun o H2 => ∃ a xs n, x = .ref a ∧ o = some n ∧ 0 ≤ n ∧ SqL K H2 a xs ∧ ∀ p, H2 p = none → Q (.ref p) (upd H2 p (.lst (xs.take (n.toNat + 1)).reverse))
theorem pe_revN {e ei : Expr} {te ti : TE} {k : Nat} {p1 p2 p3 pos : Pos} (he : PE X e te) (hi : PE X ei ti) : PE X (.Subscript e (.Slice (some ei) none (some (.UnaryOp .USub (.Constant (.int 1) k p1) p2)) p3) pos) (tRevN X.K te ti) := by
  refine ⟨fun pins s σ H Q I h => ?_⟩
  refine Subscript_ (thn (he.run pins s σ H _ I h) fun v s1 ⟨x, H1, I1, r1, q1⟩ => ?_)
  have hst : PO X (some (.UnaryOp .USub (.Constant (.int 1) k p1) p2)) (tPart (tUn (rU fun i => .int (-i)) (tC (.int 1)))) := po_some (pe_un un_neg pe_int)
  refine wpAny_Slice (thn ((po_some hi).run pins s1 σ H1 _ I1 q1) fun vl s2 ⟨l, H2, I2, pl, q2⟩ => ?_)
  obtain ⟨a, xs, n, ex, el, hn, hx, q⟩ := q2
  subst ex el
  cases r1
  refine thn (po_none.run pins s2 σ H2 (fun o H3 => o = none ∧ H3 = H2) I2 ⟨rfl, rfl⟩) fun vu s3 ⟨u, H3, I3, pu, eu, e3⟩ => ?_
  subst eu e3
  refine thn (hst.run pins s3 σ H3 (fun o H4 => o = some (-1) ∧ H4 = H3) I3 ⟨1, rfl, -1, rfl, rfl, rfl⟩) fun vs s4 ⟨o, H4, I4, ps, eo, e4⟩ => ?_
  subst eo e4
  have I5 : Inv X pins σ H4 { s4 with heap := s4.heap.push { cls := .type "slice", data := .fields #[vl, vu, vs] } } := I4.kept (t' := s4.toks) fun b ob q => Heap.get?_push_of_some _ q
  obtain ⟨its, r, ht, hz⟩ := I5.list hx
  have hlen := r.length
  show wpAny (model X.prog X.w) X.A (subscriptTail e (.Slice (some ei) none (some (.UnaryOp .USub (.Constant (.int 1) k p1) p2)) p3) (.ref a) (.ref s4.heap.objs.size)) (EP X pins σ Q) X.xe { s4 with heap := s4.heap.push { cls := .type "slice", data := .fields #[vl, vu, vs] } }
  refine tail_any (ops := [.ref a, .ref s4.heap.objs.size]) ht.isList.typeIs (PySem.slot_list_getitem.lookup) ?_ (by with_unfolding_all rfl)
  refine wpAny_getItem_list_slice ht.isList (Heap.IsSliceOf.new _ vl vu vs) pl pu ps (by decide) ?_ (by rw [List.size_toArray]; omega)
  rw [revn_pick _ _ hn]
  refine ⟨.ref _, _, I5.laid (t' := s4.toks) (o := .lst (xs.take (n.toNat + 1)).reverse) (fun b ob q => Heap.get?_push_of_some _ q) (Nat.le_refl _) ?_, rfl, q _ (I5.hok.fresh (Nat.le_refl _))⟩
  exact ⟨by rw [List.length_reverse, List.length_take]; omega, _, 0, (r.take (n.toNat + 1)).reverse, Heap.get?_push_size _ rfl⟩
end
end L2

end

/-! ## Ev2 -/
section
set_option Elab.async false
set_option linter.all false
/-! The core against the row's syntax tree: a check. -/
namespace Ev
open PySem
structure Tc where
  N : List Str
  sc : Scope
  defs : List (Str × Nat)
  nums : List (Str × Int)
  cls : List (Str × Nat)
  /-- a comprehension's own scope (its cells may be stored), none elsewhere -/
  cs : Option Scope
  /-- a def's own body (its cells may be stored) -/
  top : Bool
  /-- names that the module does not define -/
  free : List Str
  /-- a lambda may be made here -/
  lm : Bool
  /-- the classes of exceptions: those that an except clause of each takes; the field that its __init__ stores -/
  subs : List (Option (List Nat))
  kits : List (Option (List Nat))
  inis : List (Option Str)
  /-- constants of the module (texts, tuples), its written dicts -/
  cons : List (Str × PyData)
  wds : List (Str × List (Str × PyData))
def bltF : List (Str × Bi) := [("len", .len), ("abs", .abs), ("min", .min), ("max", .max), ("all", .all), ("any", .any), ("sum", .sum)]
def bltT : List (Str × Bi) := [("int", .int), ("list", .list), ("tuple", .tuple)]
def tyN : List (Str × Ty) := [("int", .int), ("bool", .bool), ("tuple", .tuple), ("list", .list), ("dict", .dict), ("str", .str)]
def visB (sc : Scope) (x : Str) : Bool := decide (sc.names.lookup x = some .local) || (decide (sc.names.lookup x = some .cell) || decide (sc.names.lookup x = some .free))
def okName (x : Str) : Bool := (decide ((x == ("__debug__" : Str)) = false) && decide ((x == ("__classdict__" : Str)) = false)) && decide (x ≠ "__name__")
def chkR (t : Tc) (i : Nat) (x : Str) : Bool := (decide (t.N[i]? = some x) && visB t.sc x) && okName x
/-- slot i may be stored by the name x -/
def chkW (t : Tc) (i : Nat) (x : Str) : Bool := decide (t.N[i]? = some x) && (decide (t.sc.names.lookup x = some .local) || (decide (t.sc.names.lookup x = some .cell) && (match t.cs with
  | none => t.top
  | some s => decide (s.names.lookup x = some .cell))))
def glo (t : Tc) (x : Str) : Bool := decide (t.sc.names.lookup x = some .globalImplicit) && okName x
/-- a built-in's name -/
def gloB (t : Tc) (x : Str) : Bool := glo t x && decide (x ∈ t.free)
def cmpB : Cop → CmpOp → Bool
  | .eq, .Eq => true | .ne, .NotEq => true | .lt, .Lt => true | .le, .LtE => true | .gt, .Gt => true | .ge, .GtE => true | .is_, .Is => true | .isnot, .IsNot => true
  | _, _ => false
def inB : Cop → CmpOp → Bool
  | .isin, .In => true | .notin, .NotIn => true
  | _, _ => false
def binB : Bop → Operator → Bool
  | .add, .Add => true | .sub, .Sub => true | .mul, .Mult => true | .div, .FloorDiv => true | .mod, .Mod => true | .pow, .Pow => true
  | _, _ => false
def chkNames (t : Tc) : List Nat → List Expr → Bool
  | [], [] => true
  | i :: is, .Name x _ :: es => chkW t i x && chkNames t is es
  | _, _ => false
def chkTg (t : Tc) : Tg → Expr → Bool
  | .one i, .Name x _ => chkW t i x
  | .many is, .Tuple es _ _ => chkNames t is es
  | _, _ => false
def chkTy (t : Tc) (y : Ty) : Expr → Bool
  | .Name x _ => gloB t x && decide (tyN.lookup x = some y)
  | _ => false
def chkTys (t : Tc) : List Ty → List Expr → Bool
  | [], [] => true
  | y :: ys, e :: es => chkTy t y e && chkTys t ys es
  | _, _ => false
def chkTyA (t : Tc) (ts : List Ty) : Expr → Bool
  | .Tuple es _ _ => chkTys t ts es
  | e => chkTys t ts [e]
def inBlk (t : Tc) (s : Scope) : Tc := { t with sc := L2.relS s t.sc, cs := some s, lm := false }
def freeOf : List (Str × NameKind) → List Str
  | [] => []
  | (x, k) :: r => match k with
    | .free => x :: freeOf r
    | _ => freeOf r
def plainArgs : Arguments → Option (List Str)
  | ⟨[], args, none, [], [], none, []⟩ => some (args.map (·.arg))
  | _ => none
def lamN (t : Tc) (ps fr : List Str) : List Str := (ps ++ fr) ++ t.N.filter fun x => !decide (x ∈ ps ++ fr)
def inLam (t : Tc) (ps fr : List Str) (s : Scope) : Tc := { t with N := lamN t ps fr, sc := s, cs := none, top := false, lm := false }
def meB : Me → Str → Bool
  | .append, x => decide (x = "append") | .extend, x => decide (x = "extend") | .pop, x => decide (x = "pop") | .count, x => decide (x = "count") | .index, x => decide (x = "index")
def splitLast : List Expr → Option (List Expr × Expr)
  | [] => none
  | [e] => some ([], e)
  | e :: r => (splitLast r).map fun p => (e :: p.1, p.2)
def chkFr (t : Tc) : List Nat → List Str → Bool
  | [], [] => true
  | i :: is, x :: xs => decide (t.N[i]? = some x) && chkFr t is xs
  | _, _ => false
def ownB (N : List Str) (scope : Scope) (own : List Nat) : Option (List (Str × Nat)) :=
  some (own.map fun i => (N.getD i Str.empty, i))
def optL : Option Expr → List Expr
  | none => []
  | some e => [e]
def itArgs (t : Tc) : It → Expr → Option (List Expr)
  | .seq, e => some [e]
  | .range, .Call (.Name f _) args [] _ => if gloB t f && (decide (f = "range") && decide (0 < args.length ∧ args.length < 4)) then some args else none
  | .zip, .Call (.Name f _) args [] _ => if gloB t f && (decide (f = "zip") && decide (args.length = 2)) then some args else none
  | .enum, .Call (.Name f _) args [] _ => if gloB t f && (decide (f = "enumerate") && decide (args.length = 1)) then some args else none
  | _, _ => none
def rgArgs : List Expr → Option (Str × List Expr)
  | [.Call (.Name g _) as [] _] => some (g, as)
  | _ => none
/-- the parameters that lambdas have -/
def lamP : List (List Str) := [["n"], ["more"], ["m"], ["net"]]
mutual
def dEq : PyData → PyData → Bool
  | .none, .none => true
  | .bool a, .bool b => a == b
  | .int a, .int b => decide (a = b)
  | .str a, .str b => decide (a = b)
  | .tuple a, .tuple b => dEqs a b
  | _, _ => false
def dEqs : List PyData → List PyData → Bool
  | [], [] => true
  | a :: as, b :: bs => dEq a b && dEqs as bs
  | _, _ => false
end
def kvEq : List (Str × PyData) → List (Str × PyData) → Bool
  | [], [] => true
  | (x, d) :: r, (y, e) :: q => (decide (x = y) && dEq d e) && kvEq r q
  | _, _ => false
def wdB (t : Tc) (x : Str) (kvs : List (Str × PyData)) : Bool := glo t x && (match t.wds.lookup x with
  | some l => kvEq kvs l
  | none => false)
def neg1 : Option Expr → Bool
  | some (.UnaryOp .USub (.Constant (.int 1) _ _) _) => true
  | _ => false
def baseB : Expr → Bool
  | .Name .. => true | .Subscript .. => true | .Attribute .. => true | _ => false
def isSet0 : Expr → Bool
  | .Set .. => true | _ => false
def negB : Bool → CmpOp → Bool
  | false, .In => true | true, .NotIn => true | _, _ => false
def isSl0 : Expr → Bool
  | .Slice .. => true | _ => false
def starB : Expr → Bool
  | .Starred .. => true | _ => false
def Tg.slots : Tg → List Nat
  | .one i => [i]
  | .many is => is
def tupTg : It → Expr → Bool
  | .zip, .Tuple .. => true | .enum, .Tuple .. => true | .seq, _ => true | .range, _ => true | _, _ => false
def mscB (N ps fr : List Str) (sc : Scope) : Bool :=
  (decide (sc.kind = .function) && (!sc.isCoroutine && !sc.isGenerator)) && ((decide N.Nodup && decide (N.take (ps.length + fr.length) = ps ++ fr)) && ((ps.all fun x => decide (sc.names.lookup x = some .local) || decide (sc.names.lookup x = some .cell)) &&
    ((sc.names.all fun y => !decide (y.2 = .cell) || decide (y.1 ∈ ps)) && ((sc.names.all fun y => !decide (y.2 = .free) || decide (y.1 ∈ fr)) && fr.all fun x => decide (sc.names.lookup x = some .free)))))
mutual
def chkE (t : Tc) : CE → Expr → Bool
  | .var i, .Name x _ => chkR t i x
  | .int i, .Constant (.int j) _ _ => decide (i = j)
  | .int i, .Name x _ => glo t x && decide (t.nums.lookup x = some i)
  | .bl b, .Constant (.bool c) _ _ => decide (b = c)
  | .non, .Constant .none _ _ => true
  | .str s, .Constant (.str x) _ _ => decide (s = x)
  | .bin o a b, .BinOp x op y _ => binB o op && (chkE t a x && chkE t b y)
  | .neg a, .UnaryOp .USub x _ => chkE t a x
  | .not a, .UnaryOp .Not x _ => chkE t a x
  | .and a b, .BoolOp .And [x, y] _ => chkE t a x && chkE t b y
  | .and a b, .BoolOp .And (x :: y :: z :: r) p => chkE t a x && chkE t b (.BoolOp .And (y :: z :: r) p)
  | .or a b, .BoolOp .Or [x, y] _ => chkE t a x && chkE t b y
  | .or a b, .BoolOp .Or (x :: y :: z :: r) p => chkE t a x && chkE t b (.BoolOp .Or (y :: z :: r) p)
  | .ife c a b, .IfExp z x y _ => chkE t c z && (chkE t a x && chkE t b y)
  | .isN a, .Compare x [.Is] [.Constant .none _ _] _ => chkE t a x
  | .notN a, .Compare x [.IsNot] [.Constant .none _ _] _ => chkE t a x
  | .cmp o a b, .Compare x [op] [y] _ => (cmpB o op || (inB o op && !behindInMarks op y)) && (chkE t a x && chkE t b y)
  | .chain o o' a b c, .Compare x [op, op'] [y, z] _ => (cmpB o op && cmpB o' op') && (chkE t a x && (chkE t b y && chkE t c z))
  | .tup es, .Tuple xs _ _ => chkEs t es xs
  | .lst es, .List xs _ => chkEs t es xs
  | .lstM es, .List xs _ => chkEs t es xs
  | .listM es, .Call (.Name f _) args [] _ => gloB t f && (decide (f = "list") && (decide (args.length = 1) && chkEs t es args))
  | .never, e => !isSet0 e
  | .con d, .Name x _ => glo t x && (match t.cons.lookup x with
    | some e => dEq d e
    | none => false)
  | .wget kvs k, .Subscript (.Name x _) y _ => !isSl0 y && (wdB t x kvs && chkE t k y)
  | .win neg kvs k, .Compare y [op] [.Name x _] _ => negB neg op && (!behindInMarks op (.Name x ⟨0, 0, 0, 0⟩) && (wdB t x kvs && chkE t k y))
  | .rev a, .Subscript x (.Slice none none st _) _ => neg1 st && chkE t a x
  | .revn a n, .Subscript x (.Slice (some y) none st _) _ => neg1 st && (chkE t a x && chkE t n y)
  | .dnew _, .Dict [] [] _ => true
  | .dget d k, .Subscript x y _ => !isSl0 y && (chkE t d x && chkE t k y)
  | .din neg k d, .Compare y [op] [x] _ => negB neg op && (!behindInMarks op x && (chkE t k y && chkE t d x))
  | .slc a lo hi, .Subscript x (.Slice l h none _) _ => chkE t a x && (chkEs t lo (optL l) && chkEs t hi (optL h))
  | .idx a i, .Subscript x y _ => (match y with
    | .Slice .. => false
    | y => chkE t a x && chkE t i y)
  | .me m o es, .Call (.Attribute x n apos) args [] cpos => ((meB m n && baseB x) && ((apos.endLine == cpos.line) && decide (args.length < 29))) && (chkE t o x && chkEs t es args)
  | .cl i es, .Call (.Name f _) args [] _ => chkR t i f && (!args.isEmpty && chkEs t es args)
  | .call g es, .Call (.Name f _) args [] _ => (glo t f && decide (t.defs.lookup f = some g)) && (!args.isEmpty && chkEs t es args)
  | .lam g es ps nN js body, .Call (.Name f _) args [] _ => (t.lm && glo t f && decide (t.defs.lookup f = some g)) && (match splitLast args with
    | some (init, .Lambda a b sc _) => (match plainArgs a with
      | some pn => (mscB (lamN t pn (freeOf sc.names)) pn (freeOf sc.names) sc && NdefX.ndefB t.sc sc (freeOf sc.names)) && ((decide (ps = pn.length ∧ pn ∈ lamP) && (decide (nN = (lamN t pn (freeOf sc.names)).length) && chkFr t js (freeOf sc.names))) && (chkEs t es init && chkE (inLam t pn (freeOf sc.names) sc) body b))
      | none => false)
    | _ => false)
  | .bi k es, .Call (.Name f _) args [] _ => gloB t f && (match k with
    | .lrange => (match rgArgs args with
      | some (g, as) => decide (f = "list") && (gloB t g && (decide (g = "range") && (decide (as.length = 2 ∨ as.length = 1) && chkEs t es as)))
      | none => false)
    | k => (decide (bltF.lookup f = some k) || decide (bltT.lookup f = some k)) && (!args.isEmpty && chkEs t es args))
  | .isi a ts, .Call (.Name f _) [x, y] [] _ => ((gloB t f && decide (f = "isinstance")) && (!starB x && decide (0 < ts.length ∧ ts.length < 100))) && (chkE t a x && chkTyA t ts y)
  | .comp tg it args conds own elt, .ListComp e [⟨g, iter, ifs, 0⟩] scope _ =>
      (L2.blkC t.N t.sc scope (own.map fun i => (t.N.getD i Str.empty, i)) && (match itArgs t it iter with | some xs => chkEs t args xs | none => false)) && (((chkTg (inBlk t scope) tg g && tupTg it g) && (decide (ifs.length ≤ 1) && tg.slots.all fun i => decide (i ∈ own))) && (chkEs (inBlk t scope) conds ifs && chkE (inBlk t scope) elt e))
  | _, _ => false
def chkEs (t : Tc) : List CE → List Expr → Bool
  | [], [] => true
  | c :: cs, e :: es => !starB e && (chkE t c e && chkEs t cs es)
  | _, _ => false
end
end Ev

end

/-! ## Ev3 -/
section
set_option Elab.async false
set_option linter.all false
set_option maxRecDepth 100000
/-! What the core's values are in the model. -/
namespace L2
open PySem PySem.Spec PyProof.Rows
mutual
/-- data in the abstract heap: a list is tracked -/
inductive Dv (K : PySem.W.Frag) (H : Hp) : V → PyData → Prop
  | non : Dv K H .non .none
  | bl (b : Bool) : Dv K H (.bl b) (.bool b)
  | int (i : Int) : Dv K H (.int i) (.int i)
  | str (x : Str) : Dv K H (.str x) (.str x)
  | lst {a : Addr} {xs : List V} {ds : List PyData} : H a = some (.lst xs) → DvAll K H xs ds → Dv K H (.ref a) (.list ds)
  | tup {a : Addr} {xs : List V} {ds : List PyData} : SqN K H a xs → DvAll K H xs ds → Dv K H (.ref a) (.tuple ds)
inductive DvAll (K : PySem.W.Frag) (H : Hp) : List V → List PyData → Prop
  | nil : DvAll K H [] []
  | cons {v : V} {vs : List V} {d : PyData} {ds : List PyData} : Dv K H v d → DvAll K H vs ds → DvAll K H (v :: vs) (d :: ds)
end
mutual
theorem Dv.dp {K : PySem.W.Frag} {H : Hp} : ∀ (d : PyData) (v : V), Dv K H v d → Dp K H v d
  | .none, _, h => by cases h; exact .non
  | .bool b, _, h => by cases h; exact .bl b
  | .int i, _, h => by cases h; exact .int i
  | .str x, _, h => by cases h; exact .str x
  | .list ds, _, h => by
    cases h with
    | lst hs ha => exact .lst (.of hs) (DvAll.dp ds _ ha)
  | .tuple ds, _, h => by
    cases h with
    | tup hs ha => exact .tup hs.sqT (DvAll.dp ds _ ha)
  | .dict _, _, h => by cases h
theorem DvAll.dp {K : PySem.W.Frag} {H : Hp} : ∀ (ds : List PyData) (vs : List V), DvAll K H vs ds → DpAll K H vs ds
  | [], _, h => by cases h; exact .nil
  | d :: ds, _, h => by
    cases h with
    | cons h1 h2 => exact .cons (Dv.dp d _ h1) (DvAll.dp ds _ h2)
end
end L2
namespace Ev
open PySem PySem.Spec PyProof.Rows L2
/-- the abstract heap without the mutable lists -/
def Hx (lm : List Addr) (H : Hp) : Hp := fun a => if a ∈ lm then none else H a
/-- a list, a dict whose keys are ints and texts, one whose keys are tuples -/
def IsLO (o : Option HO) : Prop := ∃ vs, o = some (.lst vs)
def IsKO (o : Option HO) : Prop := ∃ kvs, o = some (.dK kvs)
def IsNO (o : Option HO) : Prop := ∃ φ, o = some (.ext φ)
def IsDO : Bool → Option HO → Prop
  | true => IsNO
  | false => IsKO
structure SameK (o o' : Option HO) : Prop where
  l : IsLO o → IsLO o'
  k : IsKO o → IsKO o'
  n : IsNO o → IsNO o'
theorem SameK.refl (o : Option HO) : SameK o o := ⟨id, id, id⟩
theorem SameK.eq {o o' : Option HO} (h : o' = o) : SameK o o' := h ▸ SameK.refl o
theorem SameK.trans {a b c : Option HO} (x : SameK a b) (y : SameK b c) : SameK a c := ⟨fun h => y.l (x.l h), fun h => y.k (x.k h), fun h => y.n (x.n h)⟩
theorem SameK.d {o o' : Option HO} (x : SameK o o') : ∀ t : Bool, IsDO t o → IsDO t o'
  | true => x.n
  | false => x.k
theorem SameK.lst {o : Option HO} (vs ws : List V) (h : o = some (.lst vs)) : SameK o (some (.lst ws)) := ⟨fun _ => ⟨ws, rfl⟩, fun ⟨_, e⟩ => (by rw [h] at e; cases e), fun ⟨_, e⟩ => (by rw [h] at e; cases e)⟩
theorem SameK.dk {o : Option HO} (vs ws : List (Key × V)) (h : o = some (.dK vs)) : SameK o (some (.dK ws)) := ⟨fun ⟨_, e⟩ => (by rw [h] at e; cases e), fun _ => ⟨ws, rfl⟩, fun ⟨_, e⟩ => (by rw [h] at e; cases e)⟩
theorem SameK.dn {o : Option HO} (φ ψ : Heap → Prop) (h : o = some (.ext φ)) : SameK o (some (.ext ψ)) := ⟨fun ⟨_, e⟩ => (by rw [h] at e; cases e), fun ⟨_, e⟩ => (by rw [h] at e; cases e), fun _ => ⟨ψ, rfl⟩⟩
theorem SameK.no {o : Option HO} (h : ∀ u, o = some u → ∃ ps, u = .tbl ps) (o' : Option HO) : SameK o o' := ⟨fun ⟨_, e⟩ => (by obtain ⟨_, z⟩ := h _ e; cases z), fun ⟨_, e⟩ => (by obtain ⟨_, z⟩ := h _ e; cases z), fun ⟨_, e⟩ => (by obtain ⟨_, z⟩ := h _ e; cases z)⟩
/-- what is tracked stays, but tables -/
theorem SameK.kept {o o' : Option HO} (h : ∀ u, o = some u → (∀ ps, u ≠ .tbl ps) → o' = some u) : SameK o o' := by
  cases o with
  | none => exact SameK.no (fun u e => by cases e) _
  | some u =>
    by_cases ht : ∃ ps, u = .tbl ps
    · exact SameK.no (fun v e => by cases e; exact ht) _
    · exact SameK.eq (h u rfl fun ps e => ht ⟨ps, e⟩)
def Rep (K : PySem.W.Frag) (lm fs : List Addr) (H : Hp) : D → V → Prop
  | .p d, v => Dv K (Hx lm H) v d
  | .loc n, v => ∃ a, lm[n]? = some a ∧ v = .ref a ∧ IsLO (H a)
  | .dic t n, v => ∃ a, lm[n]? = some a ∧ v = .ref a ∧ IsDO t (H a)
  | .clo n, v => ∃ f, fs[n]? = some f ∧ v = .ref f
  | .scr ds, v => ∃ a vs, v = .ref a ∧ SqL K (Hx lm H) a vs ∧ DvAll K (Hx lm H) vs ds
def Reps (K : PySem.W.Frag) (lm fs : List Addr) (H : Hp) : List D → List V → Prop
  | [], [] => True
  | d :: ds, v :: vs => Rep K lm fs H d v ∧ Reps K lm fs H ds vs
  | _, _ => False
def keyD : Key → PyData
  | .inl i => .int i
  | .inr x => .str x
inductive DKs (K : PySem.W.Frag) (H : Hp) : List (Key × V) → List PyData → Prop
  | nil : DKs K H [] []
  | cons {k : Key} {v : V} {d : PyData} {r : List (Key × V)} {xs : List PyData} : Dv K H v d → DKs K H r xs → DKs K H ((k, v) :: r) (.tuple [keyD k, d] :: xs)
inductive DNs (K : PySem.W.Frag) (H : Hp) : NKV → List PyData → Prop
  | nil : DNs K H [] []
  | cons {k : NestedKey} {b : Addr} {v : V} {kd d : PyData} {r : NKV} {xs : List PyData} : Dv K H (.ref b) kd → nkey kd = some k → k.depth ≤ 8 → Dv K H v d → DNs K H r xs → DNs K H ((k, b, v) :: r) (.tuple [kd, d] :: xs)
/-- what stands in the memory -/
inductive CellOk (K : PySem.W.Frag) (w : World) (H : Hp) (a : Addr) : Option HO → List PyData → Prop
  | lst {vs : List V} {xs : List PyData} : DvAll K H vs xs → CellOk K w H a (some (.lst vs)) xs
  | dk {kvs : List (Key × V)} {xs : List PyData} : DKs K H kvs xs → CellOk K w H a (some (.dK kvs)) xs
  | dn {kvs : NKV} {xs : List PyData} : DNs K H kvs xs → CellOk K w H a (some (dNO w a kvs)) xs
structure RelM (K : PySem.W.Frag) (w : World) (lm : List Addr) (H : Hp) (M : Mem) : Prop where
  len : lm.length = M.length
  nd : lm.Nodup
  at_ : ∀ (i : Nat) a xs, lm[i]? = some a → M[i]? = some xs → CellOk K w (Hx lm H) a (H a) xs
theorem CellOk.isL {K : PySem.W.Frag} {w : World} {H : Hp} {a : Addr} {o : Option HO} {xs : List PyData} (h : CellOk K w H a o xs) (k : IsLO o) : ∃ vs, o = some (.lst vs) ∧ DvAll K H vs xs := by
  obtain ⟨vs, rfl⟩ := k
  cases h with
  | lst h => exact ⟨vs, rfl, h⟩
theorem CellOk.isK {K : PySem.W.Frag} {w : World} {H : Hp} {a : Addr} {o : Option HO} {xs : List PyData} (h : CellOk K w H a o xs) (k : IsKO o) : ∃ kvs, o = some (.dK kvs) ∧ DKs K H kvs xs := by
  obtain ⟨vs, rfl⟩ := k
  cases h with
  | dk h => exact ⟨vs, rfl, h⟩
theorem CellOk.isN {K : PySem.W.Frag} {w : World} {H : Hp} {a : Addr} {o : Option HO} {xs : List PyData} (h : CellOk K w H a o xs) (k : IsNO o) : ∃ kvs, o = some (dNO w a kvs) ∧ DNs K H kvs xs := by
  obtain ⟨φ, e⟩ := k
  cases h with
  | lst h => cases e
  | dk h => cases e
  | dn h => exact ⟨_, rfl, h⟩
theorem CellOk.some {K : PySem.W.Frag} {w : World} {H : Hp} {a : Addr} {o : Option HO} {xs : List PyData} (h : CellOk K w H a o xs) : ∃ u, o = some u ∧ ∀ ps, u ≠ .tbl ps := by
  cases h <;> exact ⟨_, rfl, fun ps z => by cases z⟩
def RelS (K : PySem.W.Frag) (lm fs : List Addr) (H : Hp) (σ : L2.St) (σD : Sg) : Prop :=
  σ.length = σD.length ∧ ∀ (i : Nat) d, σD[i]? = some (some d) → ∃ v, σ[i]? = some (some v) ∧ Rep K lm fs H d v
/-- what was tracked stays (but tables and the mutable lists) -/
structure Ext (lm : List Addr) (H : Hp) (lm' : List Addr) (H' : Hp) : Prop where
  more : ∃ more, lm' = lm ++ more
  kind : ∀ a ∈ lm, SameK (H a) (H' a)
  old : ∀ a o, a ∉ lm → H a = some o → (∀ ps, o ≠ .tbl ps) → a ∉ lm' ∧ H' a = some o
theorem Ext.refl (lm : List Addr) (H : Hp) : Ext lm H lm H := ⟨⟨[], by simp⟩, fun a _ => .refl _, fun a o n e _ => ⟨n, e⟩⟩
theorem Ext.trans {l1 l2 l3 : List Addr} {H1 H2 H3 : Hp} (a : Ext l1 H1 l2 H2) (b : Ext l2 H2 l3 H3) : Ext l1 H1 l3 H3 := by
  obtain ⟨m1, e1⟩ := a.more
  obtain ⟨m2, e2⟩ := b.more
  refine ⟨⟨m1 ++ m2, by rw [e2, e1, List.append_assoc]⟩, fun x hx => (a.kind x hx).trans (b.kind x (by rw [e1]; exact List.mem_append_left _ hx)), fun x o n e t => ?_⟩
  obtain ⟨n2, e2⟩ := a.old x o n e t
  exact b.old x o n2 e2 t
theorem Ext.get {l1 l2 : List Addr} {H1 H2 : Hp} (x : Ext l1 H1 l2 H2) {i : Nat} {a : Addr} (e : l1[i]? = some a) : l2[i]? = some a := by
  obtain ⟨m, rfl⟩ := x.more
  rw [List.getElem?_append_left (List.getElem?_eq_some_iff.mp e).1]
  exact e
theorem Hx_some {lm : List Addr} {H : Hp} {a : Addr} {o : HO} : Hx lm H a = some o ↔ a ∉ lm ∧ H a = some o := by
  unfold Hx
  split
  · rename_i h
    exact ⟨fun e => (by cases e), fun e => absurd h e.1⟩
  · rename_i h
    exact ⟨fun e => ⟨h, e⟩, fun e => e.2⟩
theorem Ext.hx {l1 l2 : List Addr} {H1 H2 : Hp} (x : Ext l1 H1 l2 H2) {a : Addr} {o : HO} (e : Hx l1 H1 a = some o) (t : ∀ ps, o ≠ .tbl ps) : Hx l2 H2 a = some o := by
  obtain ⟨n, e⟩ := Hx_some.mp e
  exact Hx_some.mpr (x.old a o n e t)
/-- more tracked lists, tuples -/
def Up (H H' : Hp) : Prop := ∀ a o, H a = some o → (∀ ps, o ≠ .tbl ps) → H' a = some o
theorem Up.sqL {K : PySem.W.Frag} {H H' : Hp} {a : Addr} {xs : List V} (u : Up H H') (h : SqL K H a xs) : SqL K H' a xs := by
  rcases h with (h | ⟨o, h⟩) | h
  · exact .inl (.inl (u _ _ h (fun ps z => by cases z)))
  · exact .inl (.inr ⟨o, u _ _ h (fun ps z => by cases z)⟩)
  · exact .inr h
theorem Up.sqT {K : PySem.W.Frag} {H H' : Hp} {a : Addr} {xs : List V} (u : Up H H') (h : SqT K H a xs) : SqT K H' a xs := by
  rcases h with (h | ⟨o, h⟩) | h
  · exact .inl (.inl (u _ _ h (fun ps z => by cases z)))
  · exact .inl (.inr ⟨o, u _ _ h (fun ps z => by cases z)⟩)
  · exact .inr h
theorem Up.sqN {K : PySem.W.Frag} {H H' : Hp} {a : Addr} {xs : List V} (u : Up H H') (h : SqN K H a xs) : SqN K H' a xs := by
  rcases h with ⟨o, e, d⟩ | h
  · exact .inl ⟨o, u _ _ e (fun ps z => by cases z), d⟩
  · exact .inr h
mutual
theorem Up.dv {K : PySem.W.Frag} {H H' : Hp} (u : Up H H') : ∀ (d : PyData) (v : V), Dv K H v d → Dv K H' v d
  | .none, _, h => by cases h; exact .non
  | .bool b, _, h => by cases h; exact .bl b
  | .int i, _, h => by cases h; exact .int i
  | .str x, _, h => by cases h; exact .str x
  | .list ds, _, h => by
    cases h with
    | lst hs ha => exact .lst (u _ _ hs (fun ps z => by cases z)) (Up.dvAll u ds _ ha)
  | .tuple ds, _, h => by
    cases h with
    | tup hs ha => exact .tup (u.sqN hs) (Up.dvAll u ds _ ha)
  | .dict _, _, h => by cases h
theorem Up.dvAll {K : PySem.W.Frag} {H H' : Hp} (u : Up H H') : ∀ (ds : List PyData) (vs : List V), DvAll K H vs ds → DvAll K H' vs ds
  | [], _, h => by cases h; exact .nil
  | d :: ds, _, h => by
    cases h with
    | cons h1 h2 => exact .cons (Up.dv u d _ h1) (Up.dvAll u ds _ h2)
end
theorem Up.dks {K : PySem.W.Frag} {H H' : Hp} (u : Up H H') {kvs : List (Key × V)} {xs : List PyData} (h : DKs K H kvs xs) : DKs K H' kvs xs := by
  induction h with
  | nil => exact .nil
  | cons h _ ih => exact .cons (u.dv _ _ h) ih
theorem Up.dns {K : PySem.W.Frag} {H H' : Hp} (u : Up H H') {kvs : NKV} {xs : List PyData} (h : DNs K H kvs xs) : DNs K H' kvs xs := by
  induction h with
  | nil => exact .nil
  | cons h1 h2 h3 h4 _ ih => exact .cons (u.dv _ _ h1) h2 h3 (u.dv _ _ h4) ih
theorem Up.cell {K : PySem.W.Frag} {w : World} {H H' : Hp} (u : Up H H') {a : Addr} {o : Option HO} {xs : List PyData} (h : CellOk K w H a o xs) : CellOk K w H' a o xs := by
  cases h with
  | lst h => exact .lst (u.dvAll _ _ h)
  | dk h => exact .dk (u.dks h)
  | dn h => exact .dn (u.dns h)
theorem Ext.up {l1 l2 : List Addr} {H1 H2 : Hp} (x : Ext l1 H1 l2 H2) : Up (Hx l1 H1) (Hx l2 H2) := fun _ _ e t => x.hx e t
theorem up_Hx (lm : List Addr) (H : Hp) : Up (Hx lm H) H := fun _ _ e _ => (Hx_some.mp e).2
theorem Ext.rep {K : PySem.W.Frag} {l1 l2 fs : List Addr} {H1 H2 : Hp} (x : Ext l1 H1 l2 H2) {d : D} {v : V} (h : Rep K l1 fs H1 d v) : Rep K l2 fs H2 d v := by
  cases d with
  | p d => exact x.up.dv d v h
  | loc n =>
    obtain ⟨a, e, r, k⟩ := h
    exact ⟨a, x.get e, r, (x.kind a (List.mem_of_getElem? e)).l k⟩
  | dic t n =>
    obtain ⟨a, e, r, k⟩ := h
    exact ⟨a, x.get e, r, (x.kind a (List.mem_of_getElem? e)).d t k⟩
  | clo n => exact h
  | scr ds =>
    obtain ⟨a, vs, e, h1, h2⟩ := h
    exact ⟨a, vs, e, x.up.sqL h1, x.up.dvAll _ _ h2⟩
theorem Ext.reps {K : PySem.W.Frag} {l1 l2 fs : List Addr} {H1 H2 : Hp} (x : Ext l1 H1 l2 H2) : ∀ {ds : List D} {vs : List V}, Reps K l1 fs H1 ds vs → Reps K l2 fs H2 ds vs
  | [], [], _ => trivial
  | d :: ds, v :: vs, h => ⟨x.rep h.1, x.reps h.2⟩
  | [], _ :: _, h => h.elim
  | _ :: _, [], h => h.elim
theorem Ext.relS {K : PySem.W.Frag} {l1 l2 fs : List Addr} {H1 H2 : Hp} (x : Ext l1 H1 l2 H2) {σ : L2.St} {σD : Sg} (h : RelS K l1 fs H1 σ σD) : RelS K l2 fs H2 σ σD :=
  ⟨h.1, fun i d e => let ⟨v, e1, r⟩ := h.2 i d e; ⟨v, e1, x.rep r⟩⟩
end Ev
namespace L2
open PySem PySem.Spec PyProof.Rows
theorem DvAll.len {K : PySem.W.Frag} {H : Hp} : ∀ {vs : List V} {ds : List PyData}, DvAll K H vs ds → vs.length = ds.length
  | _, [], h => by cases h; rfl
  | _, d :: ds, h => by
    cases h with
    | cons _ h2 => rw [List.length_cons, List.length_cons, DvAll.len h2]
theorem DvAll.get {K : PySem.W.Frag} {H : Hp} : ∀ {vs : List V} {ds : List PyData} {i : Nat} {d : PyData}, DvAll K H vs ds → ds[i]? = some d → ∃ v, vs[i]? = some v ∧ Dv K H v d
  | _, [], _, _, _, e => by simp at e
  | _, d :: ds, 0, _, h, e => by
    cases h with
    | cons h1 h2 =>
      simp at e
      subst e
      exact ⟨_, rfl, h1⟩
  | _, d :: ds, i + 1, x, h, e => by
    cases h with
    | cons h1 h2 =>
      obtain ⟨v, e1, h3⟩ := DvAll.get (i := i) h2 (by simpa using e)
      exact ⟨v, by simpa using e1, h3⟩
theorem DvAll.app {K : PySem.W.Frag} {H : Hp} : ∀ {vs ws : List V} {ds es : List PyData}, DvAll K H vs ds → DvAll K H ws es → DvAll K H (vs ++ ws) (ds ++ es)
  | _, _, [], _, h, h' => by cases h; exact h'
  | _, _, d :: ds, _, h, h' => by
    cases h with
    | cons h1 h2 => exact .cons h1 (DvAll.app h2 h')
theorem DvAll.take {K : PySem.W.Frag} {H : Hp} : ∀ {vs : List V} {ds : List PyData} (n : Nat), DvAll K H vs ds → DvAll K H (vs.take n) (ds.take n)
  | _, _, 0, _ => .nil
  | _, [], _ + 1, h => by cases h; exact .nil
  | _, d :: ds, n + 1, h => by
    cases h with
    | cons h1 h2 => exact .cons h1 (DvAll.take n h2)
theorem DvAll.drop {K : PySem.W.Frag} {H : Hp} : ∀ {vs : List V} {ds : List PyData} (n : Nat), DvAll K H vs ds → DvAll K H (vs.drop n) (ds.drop n)
  | _, _, 0, h => h
  | _, [], _ + 1, h => by cases h; exact .nil
  | _, d :: ds, n + 1, h => by
    cases h with
    | cons h1 h2 => exact DvAll.drop n h2
theorem DvAll.set {K : PySem.W.Frag} {H : Hp} {v : V} {d : PyData} (hd : Dv K H v d) : ∀ {vs : List V} {ds : List PyData} (i : Nat), DvAll K H vs ds → DvAll K H (vs.set i v) (ds.set i d)
  | _, [], _, h => by cases h; exact .nil
  | _, x :: ds, 0, h => by
    cases h with
    | cons h1 h2 => exact .cons hd h2
  | _, x :: ds, i + 1, h => by
    cases h with
    | cons h1 h2 => exact .cons h1 (DvAll.set hd i h2)
theorem DvAll.dropLast {K : PySem.W.Frag} {H : Hp} {vs : List V} {ds : List PyData} (h : DvAll K H vs ds) : DvAll K H vs.dropLast ds.dropLast := by
  rw [List.dropLast_eq_take, List.dropLast_eq_take, h.len]
  exact h.take _
theorem DvAll.one {K : PySem.W.Frag} {H : Hp} {v : V} {d : PyData} (h : Dv K H v d) : DvAll K H [v] [d] := .cons h .nil
theorem DvAll.rep {K : PySem.W.Frag} {H : Hp} {vs : List V} {ds : List PyData} (h : DvAll K H vs ds) : ∀ k : Nat, DvAll K H (List.replicate k vs).flatten (List.replicate k ds).flatten
  | 0 => .nil
  | k + 1 => by
    rw [List.replicate_succ, List.replicate_succ, List.flatten_cons, List.flatten_cons]
    exact h.app (DvAll.rep h k)
end L2
namespace Ev
open PySem PySem.Spec PyProof.Rows L2
theorem dvAll_ints {K : PySem.W.Frag} {H : Hp} : ∀ {vs : List V} {ds : List PyData} {ns : List Int}, DvAll K H vs ds → intsOf ds = some ns → vs = ns.map V.int
  | _, [], _, h, e => by cases h; cases e; rfl
  | _, .int i :: ds, ns, h, e => by
    cases h with
    | cons h1 h2 =>
      cases h1
      unfold intsOf at e
      cases q : intsOf ds with
      | none => rw [q] at e; cases e
      | some ms =>
        rw [q] at e
        cases e
        rw [dvAll_ints h2 q]
        rfl
  | _, .none :: ds, _, h, e => by cases e
  | _, .bool _ :: ds, _, h, e => by cases e
  | _, .str _ :: ds, _, h, e => by cases e
  | _, .list _ :: ds, _, h, e => by cases e
  | _, .tuple _ :: ds, _, h, e => by cases e
  | _, .dict _ :: ds, _, h, e => by cases e
theorem dvAll_bols {K : PySem.W.Frag} {H : Hp} : ∀ {vs : List V} {ds : List PyData} {ns : List Bool}, DvAll K H vs ds → bolsOf ds = some ns → vs = ns.map V.bl
  | _, [], _, h, e => by cases h; cases e; rfl
  | _, .bool i :: ds, ns, h, e => by
    cases h with
    | cons h1 h2 =>
      cases h1
      unfold bolsOf at e
      cases q : bolsOf ds with
      | none => rw [q] at e; cases e
      | some ms =>
        rw [q] at e
        cases e
        rw [dvAll_bols h2 q]
        rfl
  | _, .none :: ds, _, h, e => by cases e
  | _, .int _ :: ds, _, h, e => by cases e
  | _, .str _ :: ds, _, h, e => by cases e
  | _, .list _ :: ds, _, h, e => by cases e
  | _, .tuple _ :: ds, _, h, e => by cases e
  | _, .dict _ :: ds, _, h, e => by cases e
theorem reps_allP {K : PySem.W.Frag} {lm fs : List Addr} {H : Hp} : ∀ {ds : List D} {vs : List V} {xs : List PyData}, Reps K lm fs H ds vs → allP ds = some xs → DvAll K (Hx lm H) vs xs
  | [], [], _, _, e => by cases e; exact .nil
  | .p d :: ds, v :: vs, xs, h, e => by
    unfold allP at e
    cases q : allP ds with
    | none => rw [q] at e; cases e
    | some ys =>
      rw [q] at e
      cases e
      exact .cons h.1 (reps_allP h.2 q)
  | .loc _ :: _, _, _, _, e => by cases e
  | .clo _ :: _, _, _, _, e => by cases e
  | .scr _ :: _, _, _, _, e => by cases e
  | .dic _ _ :: _, _, _, _, e => by cases e
  | [], _ :: _, _, h, _ => h.elim
  | .p _ :: _, [], _, h, _ => h.elim
theorem Reps.len {K : PySem.W.Frag} {lm fs : List Addr} {H : Hp} : ∀ {ds : List D} {vs : List V}, Reps K lm fs H ds vs → ds.length = vs.length
  | [], [], _ => rfl
  | d :: ds, v :: vs, h => by rw [List.length_cons, List.length_cons, Reps.len h.2]
  | [], _ :: _, h => h.elim
  | _ :: _, [], h => h.elim
theorem Reps.get {K : PySem.W.Frag} {lm fs : List Addr} {H : Hp} : ∀ {ds : List D} {vs : List V} {i : Nat} {d : D}, Reps K lm fs H ds vs → ds[i]? = some d → ∃ v, vs[i]? = some v ∧ Rep K lm fs H d v
  | [], [], _, _, _, e => by simp at e
  | d :: ds, v :: vs, 0, x, h, e => by
    simp at e
    subst e
    exact ⟨v, rfl, h.1⟩
  | d :: ds, v :: vs, i + 1, x, h, e => by
    obtain ⟨u, e1, r⟩ := Reps.get (i := i) h.2 (by simpa using e)
    exact ⟨u, by simpa using e1, r⟩
  | [], _ :: _, _, _, h, _ => h.elim
  | _ :: _, [], _, _, h, _ => h.elim
theorem Reps.app {K : PySem.W.Frag} {lm fs : List Addr} {H : Hp} : ∀ {ds es : List D} {vs ws : List V}, Reps K lm fs H ds vs → Reps K lm fs H es ws → Reps K lm fs H (ds ++ es) (vs ++ ws)
  | [], _, [], _, _, h => h
  | d :: ds, _, v :: vs, _, h, h' => ⟨h.1, Reps.app h.2 h'⟩
  | [], _, _ :: _, _, h, _ => h.elim
  | _ :: _, _, [], _, h, _ => h.elim
/-- the items of what is read -/
theorem items_sq {K : PySem.W.Frag} {lm fs : List Addr} {H : Hp} {M : Mem} {d : D} {v : V} {xs : List PyData} {w : World} (m : RelM K w lm H M) (h : Rep K lm fs H d v) (e : itemsR M d = some xs) :
    ∃ a vs, v = .ref a ∧ (SqL K H a vs ∨ SqT K H a vs) ∧ DvAll K (Hx lm H) vs xs := by
  cases d with
  | p d =>
    cases d with
    | list ds =>
      cases e
      cases h with
      | lst hs ha => exact ⟨_, _, rfl, .inl (.of (Hx_some.mp hs).2), ha⟩
    | tuple ds =>
      cases e
      cases h with
      | tup hs ha => exact ⟨_, _, rfl, .inr ((up_Hx lm H).sqN hs).sqT, ha⟩
    | _ => cases e
  | loc n =>
    obtain ⟨a, e1, rfl, hk⟩ := h
    obtain ⟨vs, e2, h2⟩ := (m.at_ n a xs e1 e).isL hk
    exact ⟨a, vs, rfl, .inl (.of e2), h2⟩
  | dic t n => cases e
  | clo n => cases e
  | scr ds =>
    obtain ⟨a, vs, rfl, h1, h2⟩ := h
    cases e
    exact ⟨a, vs, rfl, .inl ((up_Hx lm H).sqL h1), h2⟩
theorem items_sqL {K : PySem.W.Frag} {lm fs : List Addr} {H : Hp} {M : Mem} {d : D} {v : V} {xs : List PyData} {w : World} (m : RelM K w lm H M) (h : Rep K lm fs H d v) (e : itemsL M d = some xs) :
    ∃ a vs, v = .ref a ∧ SqL K H a vs ∧ DvAll K (Hx lm H) vs xs := by
  cases d with
  | p d =>
    cases d with
    | list ds =>
      cases e
      cases h with
      | lst hs ha => exact ⟨_, _, rfl, .of (Hx_some.mp hs).2, ha⟩
    | _ => cases e
  | loc n =>
    obtain ⟨a, e1, rfl, hk⟩ := h
    obtain ⟨vs, e2, h2⟩ := (m.at_ n a xs e1 e).isL hk
    exact ⟨a, vs, rfl, .of e2, h2⟩
  | dic t n => cases e
  | clo n => cases e
  | scr ds =>
    obtain ⟨a, vs, rfl, h1, h2⟩ := h
    cases e
    exact ⟨a, vs, rfl, (up_Hx lm H).sqL h1, h2⟩
theorem up_upd {H : Hp} {a : Addr} {o : HO} (n : H a = none) : Up H (upd H a o) := fun b u e _ => by
  rw [upd_ne (ne_of_none e n)]
  exact e
/-- a new object, tracked -/
theorem ext_new {lm : List Addr} {H : Hp} {a : Addr} {o : HO} (n : H a = none) : Ext lm H lm (upd H a o) :=
  ⟨⟨[], by simp⟩, fun b _ => .kept fun u e t => up_upd n b u e t, fun b u h e t => ⟨h, up_upd n b u e t⟩⟩
theorem notin_lm {K : PySem.W.Frag} {lm : List Addr} {H : Hp} {M : Mem} {w : World} (m : RelM K w lm H M) {a : Addr} (n : H a = none) : a ∉ lm := fun h => by
  obtain ⟨i, hi, e⟩ := List.getElem_of_mem h
  have hM : i < M.length := by rw [← m.len]; exact hi
  obtain ⟨u, e2, _⟩ := (m.at_ i a M[i] (by rw [List.getElem?_eq_getElem hi, e]) (List.getElem?_eq_getElem hM)).some
  rw [n] at e2
  cases e2
/-- the mutable lists behind a new tracked object -/
theorem relM_ext {K : PySem.W.Frag} {lm : List Addr} {H H' : Hp} {M : Mem} {w : World} (m : RelM K w lm H M) (x : Ext lm H lm H') (k : ∀ a ∈ lm, H' a = H a) : RelM K w lm H' M :=
  ⟨m.len, m.nd, fun i a xs e1 e2 => by
    rw [k a (List.mem_of_getElem? e1)]
    exact x.up.cell (m.at_ i a xs e1 e2)⟩
theorem relM_new {K : PySem.W.Frag} {lm : List Addr} {H : Hp} {M : Mem} {a : Addr} {o : HO} {w : World} (m : RelM K w lm H M) (n : H a = none) : RelM K w lm (upd H a o) M :=
  relM_ext m (ext_new n) fun b hb => upd_ne (fun z => notin_lm m n (z ▸ hb))
/-- a new mutable list -/
theorem ext_lm {K : PySem.W.Frag} {lm : List Addr} {H : Hp} {M : Mem} {a : Addr} {o : HO} {w : World} (m : RelM K w lm H M) (n : H a = none) : Ext lm H (lm ++ [a]) (upd H a o) :=
  ⟨⟨[a], rfl⟩, fun b _ => .kept fun u e t => up_upd n b u e t, fun b u h e t => ⟨fun z => (List.mem_append.mp z).elim h fun z => ne_of_none e n (List.mem_singleton.mp z), up_upd n b u e t⟩⟩
theorem relM_lm {K : PySem.W.Frag} {lm : List Addr} {H : Hp} {M : Mem} {a : Addr} {o : HO} {xs : List PyData} {w : World} (m : RelM K w lm H M) (n : H a = none) (h : CellOk K w (Hx lm H) a (some o) xs) : RelM K w (lm ++ [a]) (upd H a o) (M ++ [xs]) := by
  have x := ext_lm (o := o) m n
  refine ⟨by rw [List.length_append, List.length_append, m.len]; rfl, ?_, fun i b ys e1 e2 => ?_⟩
  · rw [List.nodup_append]
    refine ⟨m.nd, by simp, fun b hb c hc z => ?_⟩
    rw [List.mem_singleton.mp hc] at z
    exact notin_lm m n (z ▸ hb)
  · by_cases hi : i < lm.length
    · rw [List.getElem?_append_left hi] at e1
      rw [List.getElem?_append_left (by rw [← m.len]; exact hi)] at e2
      have h3 := m.at_ i b ys e1 e2
      obtain ⟨u, e3, _⟩ := h3.some
      rw [upd_ne (ne_of_none e3 n)]
      exact x.up.cell h3
    · have hi2 : i = lm.length := by
        have := (List.getElem?_eq_some_iff.mp e1).1
        rw [List.length_append] at this
        simp at this
        omega
      subst hi2
      rw [List.getElem?_append_right (Nat.le_refl _), Nat.sub_self] at e1
      rw [List.getElem?_append_right (by rw [m.len]; exact Nat.le_refl _), m.len, Nat.sub_self] at e2
      simp at e1 e2
      subst e1 e2
      rw [upd_same]
      exact x.up.cell h
/-- a mutable list is written -/
theorem ext_set {lm : List Addr} {H : Hp} {a : Addr} {o : HO} (h : a ∈ lm) (hk : SameK (H a) (some o)) : Ext lm H lm (upd H a o) :=
  ⟨⟨[], by simp⟩, fun b _ => (by
    by_cases hb : b = a
    · subst hb
      rw [upd_same]
      exact hk
    · rw [upd_ne hb]
      exact .refl _), fun b u hb e _ => ⟨hb, by rw [upd_ne (show b ≠ a from fun z => hb (by rw [z]; exact h))]; exact e⟩⟩
theorem relM_set {K : PySem.W.Frag} {lm : List Addr} {H : Hp} {M : Mem} {n : Nat} {a : Addr} {o : HO} {xs : List PyData} {w : World} (m : RelM K w lm H M) (e : lm[n]? = some a) (hk : SameK (H a) (some o)) (h : CellOk K w (Hx lm H) a (some o) xs) : RelM K w lm (upd H a o) (M.set n xs) := by
  have hm := List.mem_of_getElem? e
  have x := ext_set (H := H) (o := o) hm hk
  refine ⟨by rw [List.length_set]; exact m.len, m.nd, fun i b ys e1 e2 => ?_⟩
  by_cases hi : n = i
  · subst hi
    have hlt : n < M.length := by rw [← m.len]; exact (List.getElem?_eq_some_iff.mp e).1
    rw [List.getElem?_set_self hlt] at e2
    rw [e] at e1
    cases e1
    cases e2
    rw [upd_same]
    exact x.up.cell h
  · rw [List.getElem?_set_ne hi] at e2
    have h3 := m.at_ i b ys e1 e2
    rw [upd_ne]
    · exact x.up.cell h3
    · intro z
      subst z
      have h1 := (List.getElem?_eq_some_iff.mp e).2
      have h2 := (List.getElem?_eq_some_iff.mp e1).2
      exact hi ((List.getElem_inj m.nd).mp (h1.trans h2.symm))
/-- what every state bears: tables of code objects, the closures -/
structure Ti where
  T : List (Addr × Str)
  w : World
  J : List Addr → Hp → Prop
  mono : ∀ lm H lm' H', Ext lm H lm' H' → J lm H → J lm' H'
end Ev

end

/-! ## Ev4 -/
section
set_option Elab.async false
set_option linter.all false
set_option maxRecDepth 100000
/-! The core's expressions hold in the model. -/
namespace Ev
open PySem PySem.Spec PyProof.Rows L2
/-- what a body's evaluation leans on: the closures and their addresses, the evaluator, what is wanted of an exception, the tables of code objects, how an exception lies -/
structure Cv where
  C : List Clo
  fs : List Addr
  g : G
  W : WX
  T : Ti
  er : Xc → Value → Option Addr → Hp → Prop
structure St (K : PySem.W.Frag) (T : Ti) (lm : List Addr) (H : Hp) (M : Mem) : Prop where
  m : RelM K T.w lm H M
  t : LamX.Tabs T.T H
  j : T.J lm H
theorem tabs_keep {T : List (Addr × Str)} {H H' : Hp} (t : LamX.Tabs T H) (k : ∀ b o, H b = some o → (∀ xs, o ≠ .lst xs) → H' b = some o) : LamX.Tabs T H' := fun p hp => by
  obtain ⟨ps, h1, h2, h3⟩ := t p hp
  refine ⟨ps, k _ _ h1 (fun xs z => by cases z), h2, fun pos cv hc => ?_⟩
  obtain ⟨c, e1, e2⟩ := h3 pos cv hc
  exact ⟨c, e1, k _ _ e2 (fun xs z => by unfold LamX.CodeO at z; cases z)⟩
theorem St.new {K : PySem.W.Frag} {T : Ti} {lm : List Addr} {H : Hp} {M : Mem} {a : Addr} {o : HO} (h : St K T lm H M) (n : H a = none) : St K T lm (upd H a o) M :=
  ⟨relM_new h.m n, h.t.ext fun b u e => by rw [upd_ne (ne_of_none e n)]; exact e, T.mono _ _ _ _ (ext_new n) h.j⟩
theorem St.mkO {K : PySem.W.Frag} {T : Ti} {lm : List Addr} {H : Hp} {M : Mem} {a : Addr} {o : HO} {xs : List PyData} (h : St K T lm H M) (n : H a = none) (d : CellOk K T.w (Hx lm H) a (some o) xs) : St K T (lm ++ [a]) (upd H a o) (M ++ [xs]) :=
  ⟨relM_lm h.m n d, h.t.ext fun b u e => by rw [upd_ne (ne_of_none e n)]; exact e, T.mono _ _ _ _ (ext_lm h.m n) h.j⟩
theorem St.mk_ {K : PySem.W.Frag} {T : Ti} {lm : List Addr} {H : Hp} {M : Mem} {a : Addr} {vs : List V} {xs : List PyData} (h : St K T lm H M) (n : H a = none) (d : DvAll K (Hx lm H) vs xs) : St K T (lm ++ [a]) (upd H a (.lst vs)) (M ++ [xs]) := h.mkO n (.lst d)
theorem heap_all (O : Obj) (hf : O.isFreed = false) : ∀ n : Nat, ∃ h : Heap, h.objs.size = n ∧ ∀ b, b < n → h.get? b = some O
  | 0 => ⟨{ objs := #[] }, rfl, fun b hb => absurd hb (Nat.not_lt_zero _)⟩
  | n + 1 => by
    obtain ⟨h, e, k⟩ := heap_all O hf n
    refine ⟨h.push O, by show (h.objs.push _).size = _; rw [Array.size_push, e], fun b hb => ?_⟩
    by_cases hn : b = n
    · subst hn
      rw [← e]
      exact Heap.get?_push_size _ hf
    · exact Heap.get?_push_of_some _ (k b (by omega))
theorem codeO_dn {c : Addr} {q : Str} {w : World} {a : Addr} {kvs : NKV} (e : some (dNO w a kvs) = some (LamX.CodeO c q)) : False := by
  have e : HO.ext (dNR w a kvs) = HO.ext (fun h => ∃ (oc : Obj) (vs : Array Value) (t : Tok), h.get? c = some oc ∧ oc.data = .fields vs ∧ vs[1]? = some (.str q t)) := Option.some.inj e
  injection e with e
  obtain ⟨h, hs, ha⟩ := heap_all { cls := .none, data := .fields #[.none, .str q 0] } rfl (c + 1)
  have z := congrFun e h
  have y : dNR w a kvs h := by
    rw [z]
    exact ⟨_, _, 0, ha c (by omega), rfl, rfl⟩
  obtain ⟨_, _, xs, _, o, es, ep, h1, _, h2, _⟩ := y
  have hl := Heap.lt_size h1
  rw [hs] at hl
  rw [ha a hl] at h1
  cases h1
  cases h2
theorem codeO_cell {K : PySem.W.Frag} {w : World} {H : Hp} {a c : Addr} {q : Str} {xs : List PyData} (h : CellOk K w H a (some (LamX.CodeO c q)) xs) : False := by
  generalize hz : some (LamX.CodeO c q) = o at h
  cases h with
  | lst _ =>
    unfold LamX.CodeO at hz
    cases hz
  | dk _ =>
    unfold LamX.CodeO at hz
    cases hz
  | dn _ => exact codeO_dn hz.symm
/-- what a table is not -/
def NoTbl (o : HO) : Prop := ∀ ps, o ≠ .tbl ps
theorem tabs_keep2 {T : List (Addr × Str)} {H H' : Hp} {a : Addr} {o : HO} (t : LamX.Tabs T H) (eH : H a = some o) (no : (∃ vs, o = .lst vs) ∨ (∃ kvs, o = .dK kvs) ∨ ∃ kvs w, o = dNO w a kvs) (k : ∀ b u, b ≠ a → H b = some u → H' b = some u) : LamX.Tabs T H' := fun p hp => by
  obtain ⟨ps, h1, h2, h3⟩ := t p hp
  have n1 : p.1 ≠ a := fun z => by
    rw [z, eH] at h1
    rcases no with ⟨_, rfl⟩ | ⟨_, rfl⟩ | ⟨_, _, rfl⟩ <;> cases h1
  refine ⟨ps, k _ _ n1 h1, h2, fun pos cv hc => ?_⟩
  obtain ⟨c, e1, e2⟩ := h3 pos cv hc
  refine ⟨c, e1, k _ _ (fun z => ?_) e2⟩
  rw [z, eH] at e2
  rcases no with ⟨_, rfl⟩ | ⟨_, rfl⟩ | ⟨_, w, rfl⟩
  · unfold LamX.CodeO at e2
    cases e2
  · unfold LamX.CodeO at e2
    cases e2
  · exact codeO_dn e2
theorem St.setO {K : PySem.W.Frag} {T : Ti} {lm : List Addr} {H : Hp} {M : Mem} {n : Nat} {a : Addr} {o o' : HO} {xs : List PyData} (h : St K T lm H M) (e : lm[n]? = some a) (eH : H a = some o) (no : (∃ vs, o = .lst vs) ∨ (∃ kvs, o = .dK kvs) ∨ ∃ kvs w, o = dNO w a kvs) (hk : SameK (H a) (some o')) (d : CellOk K T.w (Hx lm H) a (some o') xs) : St K T lm (upd H a o') (M.set n xs) :=
  ⟨relM_set h.m e hk d, tabs_keep2 h.t eH no fun b u nb eb => by rw [upd_ne nb]; exact eb, T.mono _ _ _ _ (ext_set (List.mem_of_getElem? e) hk) h.j⟩
theorem St.set {K : PySem.W.Frag} {T : Ti} {lm : List Addr} {H : Hp} {M : Mem} {n : Nat} {a : Addr} {vs ws : List V} {xs : List PyData} (h : St K T lm H M) (e : lm[n]? = some a) (eH : H a = some (.lst ws)) (d : DvAll K (Hx lm H) vs xs) : St K T lm (upd H a (.lst vs)) (M.set n xs) := h.setO e eH (.inl ⟨_, rfl⟩) (.lst ws vs eH) (.lst d)
/-- what is wanted of a result -/
def Post (K : PySem.W.Frag) (c : Cv) (σ : L2.St) (Q : VK) (lm : List Addr) (H : Hp) : R D → Prop
  | .ok d M => ∀ v lm' H', Ext lm H lm' H' → St K c.T lm' H' M → Rep K lm' c.fs H' d v → Q v H'
  | .exc x M => ∀ cls dd lm' H', Ext lm H lm' H' → St K c.T lm' H' M → c.er x cls dd H' → c.W cls dd σ H'
  | .bad => False
structure Sim (K : PySem.W.Frag) (c : Cv) (lm : List Addr) (H : Hp) (σ : L2.St) (σD : Sg) (M : Mem) : Prop where
  s : RelS K lm c.fs H σ σD
  m : St K c.T lm H M
def tE (K : PySem.W.Frag) (c : Cv) (e : CE) : TE := fun σ H Q => ∃ lm σD M, Sim K c lm H σ σD M ∧ Post K c σ Q lm H (evE c.g e σD M)
section
variable {K : PySem.W.Frag} {c : Cv} {σ : L2.St} {Q : VK} {lm lm' : List Addr} {H H' : Hp} {σD : Sg} {M : Mem}
theorem Sim.ext (s : Sim K c lm H σ σD M) (x : Ext lm H lm' H') {M' : Mem} (m : St K c.T lm' H' M') : Sim K c lm' H' σ σD M' := ⟨x.relS s.s, m⟩
theorem Post.ext {r : R D} (p : Post K c σ Q lm H r) (x : Ext lm H lm' H') : Post K c σ Q lm' H' r := by
  cases r with
  | ok d M => exact fun v l2 H2 x2 m r => p v l2 H2 (x.trans x2) m r
  | exc y M => exact fun cls dd l2 H2 x2 m e => p cls dd l2 H2 (x.trans x2) m e
  | bad => exact p
/-- what a part leaves -/
structure Got (K : PySem.W.Frag) (c : Cv) (lm : List Addr) (H : Hp) (lm1 : List Addr) (H1 : Hp) (d : D) (M1 : Mem) (v : V) : Prop where
  x : Ext lm H lm1 H1
  m : St K c.T lm1 H1 M1
  r : Rep K lm1 c.fs H1 d v
theorem ev1 {a : CE} {k : D → Mem → R D} (s : Sim K c lm H σ σD M) (p : Post K c σ Q lm H ((evE c.g a σD M).bind k)) {R : VK} (h : ∀ v H1 d M1 lm1, Got K c lm H lm1 H1 d M1 v → Post K c σ Q lm1 H1 (k d M1) → R v H1) : tE K c a σ H R := by
  refine ⟨lm, σD, M, s, ?_⟩
  cases e : evE c.g a σD M with
  | ok d M1 =>
    rw [e] at p
    exact fun v l1 H1 x m r => h v H1 d M1 l1 ⟨x, m, r⟩ (Post.ext p x)
  | exc y M1 =>
    rw [e] at p
    exact p
  | bad =>
    rw [e] at p
    exact p
theorem _root_.L2.PE.imp {X : Cx} {e : Expr} {t t' : TE} (h : PE X e t) (w : ∀ σ H Q, t' σ H Q → t σ H Q) : PE X e t' := ⟨fun pins s σ H Q I hq => h.run pins s σ H Q I (w σ H Q hq)⟩
theorem _root_.L2.PT.imp {X : Cx} {e : Expr} {t t' : TT} (h : PT X e t) (w : ∀ σ H Q, t' σ H Q → t σ H Q) : PT X e t' := ⟨fun pins s σ H Q I hq => h.run pins s σ H Q I (w σ H Q hq)⟩
/-- a value of no new object -/
theorem Post.here {d : D} {v : V} (p : Post K c σ Q lm H (.ok d M)) (m : St K c.T lm H M) (r : Rep K lm c.fs H d v) : Q v H := p v lm H (.refl lm H) m r
/-- a value that is a new object -/
theorem Post.new {d : D} {a : Addr} {o : HO} (p : Post K c σ Q lm H (.ok d M)) (m : St K c.T lm H M) (n : H a = none) (r : Rep K lm c.fs (upd H a o) d (.ref a)) : Q (.ref a) (upd H a o) :=
  p _ lm _ (ext_new n) (m.new n) r
end
/-! ### names, constants -/
section
variable {X : Cx} {c : Cv} {x : Str} {pos : Pos} {a b : CE} {ea eb : Expr}
theorem s_var {i : Nat} (hN : X.N[i]? = some x) (hv : Vis X.env.scope x) (hd : (x == ("__debug__" : Str)) = false) (hcd : (x == ("__classdict__" : Str)) = false) : PE X (.Name x pos) (tE X.K c (.var i)) :=
  (pe_var hN hv hd hcd).imp fun σ H Q ⟨lm, σD, M, s, p⟩ => by
    unfold evE at p
    cases e : σD[i]? with
    | none =>
      rw [e] at p
      exact p.elim
    | some o =>
      rw [e] at p
      cases o with
      | none => exact p.elim
      | some d =>
        obtain ⟨v, e1, r⟩ := s.s.2 i d e
        exact ⟨v, e1, p.here s.m r⟩
theorem s_con {v : V} {d : PyData} {ce : CE} {e : Expr} (h : PE X e (tC v)) (hd : ∀ H, Dv X.K H v d) (he : ∀ g σ M, evE g ce σ M = .ok (.p d) M) : PE X e (tE X.K c ce) :=
  h.imp fun σ H Q ⟨lm, σD, M, s, p⟩ => by
    rw [he] at p
    exact p.here s.m (hd _)
theorem s_int {i : Int} {j : Nat} : PE X (.Constant (.int i) j pos) (tE X.K c (.int i)) := s_con pe_int (fun _ => .int i) fun _ _ _ => rfl
theorem s_bl {i : Bool} {j : Nat} : PE X (.Constant (.bool i) j pos) (tE X.K c (.bl i)) := s_con pe_bl (fun _ => .bl i) fun _ _ _ => rfl
theorem s_non {j : Nat} : PE X (.Constant .none j pos) (tE X.K c .non) := s_con pe_non (fun _ => .non) fun _ _ _ => rfl
theorem s_str {i : Str} {j : Nat} : PE X (.Constant (.str i) j pos) (tE X.K c (.str i)) := s_con pe_str (fun _ => .str i) fun _ _ _ => rfl
theorem s_glob {i : Int} (hg : Gl X x) (hm : ∃ t, X.mg x = some (.int i t)) (hd : (x == ("__debug__" : Str)) = false) : PE X (.Name x pos) (tE X.K c (.int i)) := by
  obtain ⟨t, hm⟩ := hm
  exact s_con (pe_glob hg hm (v := .int i) ⟨t, rfl⟩ hd) (fun _ => .int i) fun _ _ _ => rfl
/-! ### operators -/
/-- how a rule by values serves a binary operation of the core -/
def Serves2 (X : Cx) (r : R2) (f : PyData → PyData → Option PyData) : Prop :=
  ∀ (T : Ti) (lm : List Addr) (H : Hp) (M : Mem) (d e y : PyData) (v u : V) (Q : VK), St X.K T lm H M → Dv X.K (Hx lm H) v d → Dv X.K (Hx lm H) u e → f d e = some y →
    (∀ w, Dv X.K (Hx lm H) w y → Q w H) → (∀ p o, H p = none → Dv X.K (Hx lm (upd H p o)) (.ref p) y → Q (.ref p) (upd H p o)) → r v u H Q
theorem s_bin {r : R2} {op : Operator} {o : Bop} (hr : OpR X (binaryOp op) r) (hs : Serves2 X r (opBin o)) (ha : PE X ea (tE X.K c a)) (hb : PE X eb (tE X.K c b)) : PE X (.BinOp ea op eb pos) (tE X.K c (.bin o a b)) :=
  (pe_op hr ha hb).imp fun σ H Q ⟨lm, σD, M, s, p⟩ => by
    unfold evE at p
    refine ev1 s p fun v H1 d M1 lm1 g1 p1 => ev1 (s.ext g1.x g1.m) p1 fun u H2 e M2 lm2 g2 p2 => ?_
    cases d with
    | p d =>
      cases e with
      | p e =>
        cases q : opBin o d e with
        | none =>
          simp only [q] at p2
          exact p2.elim
        | some y =>
          simp only [q] at p2
          exact hs c.T lm2 H2 M2 d e y v u Q g2.m (g2.x.up.dv d v g1.r) g2.r q (fun w hw => Post.here p2 g2.m hw) fun p o n hw => Post.new p2 g2.m n hw
      | _ => exact p2.elim
    | _ => exact p2.elim

/-- a test of a value that is a bool -/
def tT (K : PySem.W.Frag) (c : Cv) (e : CE) : TT := tB (tE K c e)
theorem servesAdd : Serves2 X (fun x y H Q => (rI0 (fun i j => .int (i + j)) x y H Q ∨ rCatF X.K x y H Q) ∨ rCat x y H Q) (opBin .add) := by
  intro T lm H M d e y v u Q m hd he q hv hn
  cases hd with
  | int i =>
    cases he with
    | int j =>
      cases q
      exact .inl (.inl ⟨i, j, rfl, rfl, hv _ (.int _)⟩)
    | _ => cases q
  | tup hs ha =>
    cases he with
    | tup hs2 ha2 =>
      rename_i a xs ds b ys es
      unfold opBin at q
      simp only at q
      split at q
      · rename_i hz
        cases q
        refine .inl (.inr ⟨a, b, xs, ys, rfl, rfl, ((up_Hx lm H).sqN hs).sqT, ((up_Hx lm H).sqN hs2).sqT, by rw [ha.len, ha2.len]; exact hz, fun e0 => ?_, fun _ e0 => ?_, fun _ _ p ob n hd => ?_⟩)
        · subst e0
          cases ha
          exact hv _ (.tup hs2 (by simpa using ha2))
        · subst e0
          cases ha2
          exact hv _ (.tup hs (by simpa using ha))
        · refine hn p _ n (.tup (.inl ⟨ob, Hx_some.mpr ⟨notin_lm m.m n, upd_same⟩, hd⟩) ?_)
          exact (ext_new n).up.dvAll _ _ (ha.app ha2)
      · cases q
    | _ => cases q
  | lst hs ha =>
    cases he with
    | lst hs2 ha2 =>
      rename_i a xs ds b ys es
      unfold opBin at q
      simp only at q
      split at q
      · rename_i hz
        cases q
        refine .inr ⟨a, b, xs, ys, rfl, rfl, (Hx_some.mp hs).2, (Hx_some.mp hs2).2, by rw [ha.len, ha2.len]; exact hz, fun p n => ?_⟩
        refine hn p _ n (.lst (Hx_some.mpr ⟨notin_lm m.m n, upd_same⟩) ?_)
        exact (ext_new n).up.dvAll _ _ (ha.app ha2)
      · cases q
    | _ => cases q
  | _ => cases q
theorem servesSub : Serves2 X (rI0 (fun i j => .int (i - j))) (opBin .sub) := by
  intro T lm H M d e y v u Q m hd he q hv hn
  cases hd with
  | int i =>
    cases he with
    | int j =>
      cases q
      exact ⟨i, j, rfl, rfl, hv _ (.int _)⟩
    | _ => cases q
  | _ => cases q
theorem servesMul : Serves2 X (fun x y H Q => (rI CMul (fun i j => .int (i * j)) x y H Q ∨ rRepA X.K x y H Q) ∨ rRep x y H Q) (opBin .mul) := by
  intro T lm H M d e y v u Q m hd he q hv hn
  cases hd with
  | int i =>
    cases he with
    | int j =>
      unfold opBin at q
      simp only at q
      split at q
      · rename_i hz
        cases q
        refine .inl (.inl ⟨i, j, rfl, rfl, ?_, hv _ (.int _)⟩)
        simp only [Bool.or_eq_true, smallF, decide_eq_true_eq] at hz
        exact hz
      · cases q
    | _ => cases q
  | tup hs ha =>
    cases he with
    | int k =>
      rename_i a xs ds
      unfold opBin at q
      simp only at q
      split at q
      · rename_i hz
        cases q
        simp only [Bool.and_eq_true, decide_eq_true_eq] at hz
        obtain ⟨⟨h1, h2⟩, h3⟩ := hz
        refine .inl (.inr ⟨a, k, xs, rfl, rfl, ((up_Hx lm H).sqN hs).sqT, h1, h2, by rw [ha.len]; exact h3, fun e0 => ?_, fun _ p ob n hd => ?_⟩)
        · refine hv _ (.tup hs ?_)
          rcases e0 with e0 | e0
          · subst e0
            cases ha
            have : Ev.rep ([] : List PyData) k.toNat = [] := by unfold Ev.rep; simp
            rw [this]
            exact .nil
          · subst e0
            have : Ev.rep ds (1 : Int).toNat = ds := by unfold Ev.rep; simp
            rw [this]
            exact ha
        · refine hn p _ n (.tup (.inl ⟨ob, Hx_some.mpr ⟨notin_lm m.m n, upd_same⟩, hd⟩) ?_)
          exact (ext_new n).up.dvAll _ _ (ha.rep k.toNat)
      · cases q
    | _ => cases q
  | lst hs ha =>
    cases he with
    | int k =>
      rename_i a xs ds
      unfold opBin at q
      simp only at q
      split at q
      · rename_i hz
        cases q
        simp only [Bool.and_eq_true, decide_eq_true_eq] at hz
        obtain ⟨⟨h1, h2⟩, h3⟩ := hz
        refine .inr ⟨a, k, xs, rfl, rfl, (Hx_some.mp hs).2, by omega, by omega, by rw [ha.len]; exact h3, fun p n => ?_⟩
        refine hn p _ n (.lst (Hx_some.mpr ⟨notin_lm m.m n, upd_same⟩) ?_)
        exact (ext_new n).up.dvAll _ _ (ha.rep k.toNat)
      · cases q
    | _ => cases q
  | _ => cases q
/-- // by a divisor of fewer than 2^64: no division by the library's own module -/
theorem op_fdivB : OpR X (binaryOp .FloorDiv) (rI (fun _ j => j ≠ 0 ∧ j.natAbs < 18446744073709551616) fun i j => .int (i.fdiv j)) := opI fun _ j _ _ _ _ _ hc q =>
  PyProof.Rows.floordiv_int hc.1 q (.inl (PyProof.noPylong_of_log2 (Nat.lt_trans ((Nat.log2_lt (by omega)).mpr (show j.natAbs < 2 ^ 64 from hc.2)) (by decide))))
theorem servesDiv : Serves2 X (rI (fun _ j => j ≠ 0 ∧ j.natAbs < 18446744073709551616) (fun i j => .int (i.fdiv j))) (opBin .div) := by
  intro T lm H M d e y v u Q m hd he q hv hn
  cases hd with
  | int i =>
    cases he with
    | int j =>
      unfold opBin at q
      simp only at q
      split at q
      · rename_i hz
        cases q
        exact ⟨i, j, rfl, rfl, (show j ≠ 0 ∧ j.natAbs < 18446744073709551616 from of_decide_eq_true hz), hv _ (.int _)⟩
      · cases q
    | _ => cases q
  | _ => cases q
theorem servesMod : Serves2 X (rI (fun _ j => j ≠ 0) (fun i j => .int (i.fmod j))) (opBin .mod) := by
  intro T lm H M d e y v u Q m hd he q hv hn
  cases hd with
  | int i =>
    cases he with
    | int j =>
      unfold opBin at q
      simp only at q
      split at q
      · rename_i hz
        cases q
        exact ⟨i, j, rfl, rfl, of_decide_eq_true hz, hv _ (.int _)⟩
      · cases q
    | _ => cases q
  | _ => cases q
theorem servesPow : Serves2 X (rI CPow (fun i j => .int (i ^ j.toNat))) (opBin .pow) := by
  intro T lm H M d e y v u Q m hd he q hv hn
  cases hd with
  | int i =>
    cases he with
    | int j =>
      unfold opBin at q
      simp only at q
      split at q
      · rename_i hz
        cases q
        exact ⟨i, j, rfl, rfl, (show 0 ≤ j ∧ j ≤ 1000000 ∧ i.natAbs < 2 ^ 64 from of_decide_eq_true hz), hv _ (.int _)⟩
      · cases q
    | _ => cases q
  | _ => cases q
theorem s_bop {op : Operator} {o : Bop} (h : binB o op = true) (ha : PE X ea (tE X.K c a)) (hb : PE X eb (tE X.K c b)) : PE X (.BinOp ea op eb pos) (tE X.K c (.bin o a b)) := by
  cases o <;> cases op <;> first | (exact Bool.noConfusion h) | skip
  · exact s_bin ((op_add.or op_catF).or op_cat) servesAdd ha hb
  · exact s_bin op_sub servesSub ha hb
  · exact s_bin ((op_mul.or op_repA).or op_rep) servesMul ha hb
  · exact s_bin op_fdivB servesDiv ha hb
  · exact s_bin op_modN servesMod ha hb
  · exact s_bin op_pow servesPow ha hb
theorem s_neg (ha : PE X ea (tE X.K c a)) : PE X (.UnaryOp .USub ea pos) (tE X.K c (.neg a)) :=
  (pe_un un_neg ha).imp fun σ H Q ⟨lm, σD, M, s, p⟩ => by
    unfold evE at p
    refine ev1 s p fun v H1 d M1 lm1 g1 p1 => ?_
    cases d with
    | p d =>
      obtain ⟨x, m, r⟩ := g1
      have r : Dv X.K (Hx lm1 H1) v d := r
      cases r with
      | int i => exact ⟨i, rfl, p1.here m (.int _)⟩
      | _ => exact p1.elim
    | _ => exact p1.elim
/-! ### comparisons -/
/-- how a rule by values serves a comparison -/
def ServesC (X : Cx) (r : R2) (f : PyData → PyData → Option Bool) : Prop :=
  ∀ (lm : List Addr) (H : Hp) (d e : PyData) (k : Bool) (v u : V) (Q : VK), Dv X.K (Hx lm H) v d → Dv X.K (Hx lm H) u e → f d e = some k → Q (.bl k) H → r v u H Q
theorem w_cmp {r : R2} {o : Cop} (hs : ServesC X r (opCmp o)) {σ : L2.St} {H : Hp} {Q : VK} (h : tE X.K c (.cmp o a b) σ H Q) : tOp r (tE X.K c a) (tE X.K c b) σ H Q := by
  obtain ⟨lm, σD, M, s, p⟩ := h
  unfold evE at p
  refine ev1 s p fun v H1 d M1 lm1 g1 p1 => ev1 (s.ext g1.x g1.m) p1 fun u H2 e M2 lm2 g2 p2 => ?_
  cases d with
  | p d =>
    cases e with
    | p e =>
      cases q : opCmp o d e with
      | none =>
        simp only [opCmpD, q] at p2
        exact p2.elim
      | some y =>
        simp only [opCmpD, q] at p2
        exact hs lm2 H2 d e y v u Q (g2.x.up.dv d v g1.r) g2.r q (Post.here p2 g2.m (.bl y))
    | _ => exact p2.elim
  | _ => exact p2.elim
theorem w_chain {r r' : R2} {o o' : Cop} {d0 : CE} (hs : ServesC X r (opCmp o)) (hs' : ServesC X r' (opCmp o')) {σ : L2.St} {H : Hp} {Q : VK} (h : tE X.K c (.chain o o' a b d0) σ H Q) : tChain r r' (tE X.K c a) (tE X.K c b) (tE X.K c d0) σ H Q := by
  obtain ⟨lm, σD, M, s, p⟩ := h
  unfold evE at p
  refine ev1 s p fun v H1 d M1 lm1 g1 p1 => ev1 (s.ext g1.x g1.m) p1 fun u H2 e M2 lm2 g2 p2 => ?_
  cases d with
  | p d =>
    cases e with
    | p e =>
      cases q : opCmp o d e with
      | none =>
        simp only [opCmpD, q] at p2
        exact p2.elim
      | some y =>
        simp only [opCmpD, q] at p2
        refine hs lm2 H2 d e y v u _ (g2.x.up.dv d v g1.r) g2.r q ⟨y, rfl, ?_⟩
        cases y with
        | false => exact Post.here p2 g2.m (.bl false)
        | true =>
          rw [if_pos rfl]
          refine ev1 ((s.ext g1.x g1.m).ext g2.x g2.m) p2 fun w H3 f M3 lm3 g3 p3 => ?_
          cases f with
          | p f =>
            cases q' : opCmp o' e f with
            | none =>
              simp only [q'] at p3
              exact p3.elim
            | some y =>
              simp only [q'] at p3
              exact hs' lm3 H3 e f y u w Q (g3.x.up.dv e u g2.r) g3.r q' (Post.here p3 g3.m (.bl y))
          | _ => exact p3.elim
    | _ => exact p2.elim
  | _ => exact p2.elim
theorem servesEq : ServesC X (rEqD X.K) (opCmp .eq) := by
  intro lm H d e k v u Q hd he q h
  change (if (SeqAt.shaped d && SeqAt.shaped e) = true then some (PyData.eqv d e) else none) = some k at q
  split at q
  · rename_i hz
    cases q
    simp only [Bool.and_eq_true] at hz
    exact ⟨d, e, Dv.dp _ _ ((up_Hx lm H).dv _ _ hd), Dv.dp _ _ ((up_Hx lm H).dv _ _ he), hz.1, hz.2, h⟩
  · cases q
theorem servesNe : ServesC X (rNeD X.K) (opCmp .ne) := by
  intro lm H d e k v u Q hd he q h
  change (if (SeqAt.shaped d && SeqAt.shaped e) = true then some (!PyData.eqv d e) else none) = some k at q
  split at q
  · rename_i hz
    cases q
    simp only [Bool.and_eq_true] at hz
    exact ⟨d, e, Dv.dp _ _ ((up_Hx lm H).dv _ _ hd), Dv.dp _ _ ((up_Hx lm H).dv _ _ he), hz.1, hz.2, h⟩
  · cases q
theorem servesI {o : Cop} {p : Int → Int → Bool} (hp : ∀ i j, opCmp o (.int i) (.int j) = some (p i j)) (hn : ∀ d e k, opCmp o d e = some k → ∃ i j, d = .int i ∧ e = .int j) : ServesC X (rI0 fun i j => .bl (p i j)) (opCmp o) := by
  intro lm H d e k v u Q hd he q h
  obtain ⟨i, j, rfl, rfl⟩ := hn d e k q
  rw [hp] at q
  cases q
  cases hd
  cases he
  exact ⟨i, j, rfl, rfl, h⟩
theorem two_of {o : Cop} (hno : o = .lt ∨ o = .le ∨ o = .gt ∨ o = .ge) (d e : PyData) (k : Bool) (h : opCmp o d e = some k) : ∃ i j, d = .int i ∧ e = .int j := by
  rcases hno with rfl | rfl | rfl | rfl <;> cases d <;> first | (cases h; done) | (cases e <;> first | (cases h; done) | exact ⟨_, _, rfl, rfl⟩)
theorem servesIs : ServesC X (fun x y H Q => ∃ b, y = V.bl b ∧ ((∃ a, x = V.bl a ∧ Q (.bl (a == b)) H) ∨ ((∀ a, x ≠ V.bl a) ∧ Q (.bl false) H))) (opCmp .is_) := by
  intro lm H d e k v u Q hd he q h
  cases he with
  | bl b =>
    refine ⟨b, rfl, ?_⟩
    cases hd with
    | bl a =>
      cases q
      exact .inl ⟨a, rfl, h⟩
    | non => cases q; exact .inr ⟨(fun a z => by cases z), h⟩
    | int i => cases q; exact .inr ⟨(fun a z => by cases z), h⟩
    | str x => cases q; exact .inr ⟨(fun a z => by cases z), h⟩
    | lst _ _ => cases q; exact .inr ⟨(fun a z => by cases z), h⟩
    | tup _ _ => cases q; exact .inr ⟨(fun a z => by cases z), h⟩
  | _ => cases hd <;> cases q
theorem servesIsnot : ServesC X (fun x y H Q => ∃ b, y = V.bl b ∧ ((∃ a, x = V.bl a ∧ Q (.bl (a != b)) H) ∨ ((∀ a, x ≠ V.bl a) ∧ Q (.bl true) H))) (opCmp .isnot) := by
  intro lm H d e k v u Q hd he q h
  cases he with
  | bl b =>
    refine ⟨b, rfl, ?_⟩
    cases hd with
    | bl a =>
      cases q
      exact .inl ⟨a, rfl, h⟩
    | non => cases q; exact .inr ⟨(fun a z => by cases z), h⟩
    | int i => cases q; exact .inr ⟨(fun a z => by cases z), h⟩
    | str x => cases q; exact .inr ⟨(fun a z => by cases z), h⟩
    | lst _ _ => cases q; exact .inr ⟨(fun a z => by cases z), h⟩
    | tup _ _ => cases q; exact .inr ⟨(fun a z => by cases z), h⟩
  | _ => cases hd <;> cases q
/-! in, not in -/
theorem flat_dv {K : PySem.W.Frag} {H : Hp} {v : V} {d : PyData} (h : Dv K H v d) (f : flatP d = true) : flatV v = true := by
  cases h <;> first | rfl | cases f
theorem flats_dv {K : PySem.W.Frag} {H : Hp} : ∀ {vs : List V} {ds : List PyData}, DvAll K H vs ds → ds.all flatP = true → vs.all flatV = true
  | _, [], h, _ => by cases h; rfl
  | _, d :: ds, h, f => by
    rw [List.all_cons, Bool.and_eq_true] at f
    cases h with
    | cons h1 h2 => rw [List.all_cons, flat_dv h1 f.1, flats_dv h2 f.2]; rfl
theorem eqv_dv {K : PySem.W.Frag} {H : Hp} {v u : V} {d e : PyData} (h : Dv K H v d) (k : Dv K H u e) (f : flatP d = true) (g : flatP e = true) : eqV v u = PyData.eqv d e := by
  cases h <;> first | (cases f; done) | (cases k <;> first | (cases g; done) | (simp [eqV, PyData.eqv]))
theorem in_dv {K : PySem.W.Frag} {H : Hp} {u : V} {e : PyData} (k : Dv K H u e) (g : flatP e = true) : ∀ {vs : List V} {ds : List PyData}, DvAll K H vs ds → ds.all flatP = true → inV u vs = ds.any fun y => PyData.eqv y e
  | _, [], h, _ => by cases h; rfl
  | _, d :: ds, h, f => by
    rw [List.all_cons, Bool.and_eq_true] at f
    cases h with
    | cons h1 h2 =>
      have := in_dv k g h2 f.2
      unfold inV at this ⊢
      rw [List.any_cons, List.any_cons, eqv_dv h1 k f.1 g, this]
theorem inP_some {d : PyData} {xs : List PyData} {k : Bool} (h : inP d xs = some k) : flatP d = true ∧ xs.all flatP = true ∧ k = xs.any fun y => PyData.eqv y d := by
  unfold inP at h
  split at h
  · rename_i hz
    rw [Bool.and_eq_true] at hz
    cases h
    exact ⟨hz.1, hz.2, rfl⟩
  · cases h
theorem serves_inP {lm : List Addr} {H : Hp} {d e : PyData} {k : Bool} {v u : V} {xs : List PyData} (hx : e = .tuple xs ∨ e = .list xs) (hd : Dv X.K (Hx lm H) v d) (he : Dv X.K (Hx lm H) u e) (q : inP d xs = some k) : ∃ p ys, u = .ref p ∧ (SqL X.K H p ys ∨ SqT X.K H p ys) ∧ flatV v = true ∧ ys.all flatV = true ∧ inV v ys = k := by
  obtain ⟨q1, q2, q3⟩ := inP_some q
  rcases hx with rfl | rfl
  · cases he with
    | tup hs ha => exact ⟨_, _, rfl, .inr ((up_Hx lm H).sqN hs).sqT, flat_dv hd q1, flats_dv ha q2, by rw [in_dv hd q1 ha q2, q3]⟩
  · cases he with
    | lst hs ha => exact ⟨_, _, rfl, .inl (.of (Hx_some.mp hs).2), flat_dv hd q1, flats_dv ha q2, by rw [in_dv hd q1 ha q2, q3]⟩
theorem servesIn : ServesC X (rIn X.K false) (opCmp .isin) := by
  intro lm H d e k v u Q hd he q h
  have key : ∃ xs, (e = .tuple xs ∨ e = .list xs) ∧ inP d xs = some k := by
    cases e <;> first | exact ⟨_, .inl rfl, q⟩ | exact ⟨_, .inr rfl, q⟩ | (cases d <;> cases q)
  obtain ⟨xs, hx, q⟩ := key
  obtain ⟨p, ys, rfl, h1, h2, h3, h4⟩ := serves_inP hx hd he q
  exact ⟨p, ys, rfl, h1, h2, h3, by rw [h4]; exact h⟩
theorem servesNotIn : ServesC X (rIn X.K true) (opCmp .notin) := by
  intro lm H d e k v u Q hd he q h
  have key : ∃ xs b, (e = .tuple xs ∨ e = .list xs) ∧ inP d xs = some b ∧ (!b) = k := by
    cases e with
    | tuple xs =>
      have q : (inP d xs).map (!·) = some k := by cases d <;> exact q
      cases hz : inP d xs with
      | none => rw [hz] at q; cases q
      | some b => rw [hz] at q; cases q; exact ⟨xs, b, .inl rfl, hz, rfl⟩
    | list xs =>
      have q : (inP d xs).map (!·) = some k := by cases d <;> exact q
      cases hz : inP d xs with
      | none => rw [hz] at q; cases q
      | some b => rw [hz] at q; cases q; exact ⟨xs, b, .inr rfl, hz, rfl⟩
    | _ => cases d <;> cases q
  obtain ⟨xs, b, hx, q2, rfl⟩ := key
  obtain ⟨p, ys, rfl, h1, h2, h3, h4⟩ := serves_inP hx hd he q2
  exact ⟨p, ys, rfl, h1, h2, h3, by rw [h4]; exact h⟩
theorem s_in {o : Cop} {op : CmpOp} (h : inB o op = true) (hm : behindInMarks op eb = false) (ha : PE X ea (tE X.K c a)) (hb : PE X eb (tE X.K c b)) :
    PE X (.Compare ea [op] [eb] pos) (tE X.K c (.cmp o a b)) ∧ PT X (.Compare ea [op] [eb] pos) (tT X.K c (.cmp o a b)) := by
  cases o <;> cases op <;> first | (exact Bool.noConfusion h) | skip
  · exact ⟨(pe_cmpR op_in_seq ha hb hm).imp fun σ H Q => w_cmp servesIn, (pt_cmpR op_in_seq ha hb hm).imp fun σ H Q h => w_cmp servesIn h⟩
  · exact ⟨(pe_cmpR op_notIn_seq ha hb hm).imp fun σ H Q => w_cmp servesNotIn, (pt_cmpR op_notIn_seq ha hb hm).imp fun σ H Q h => w_cmp servesNotIn h⟩
/-- the rule of a comparison -/
theorem cop_rule (hu : X.A.units + 64 < cLine) {o : Cop} {op : CmpOp} (h : cmpB o op = true) : ∃ r, OpR X (compareOp op) r ∧ ServesC X r (opCmp o) ∧ op ≠ .In ∧ op ≠ .NotIn := by
  cases o <;> cases op <;> first | (exact Bool.noConfusion h) | skip
  · exact ⟨_, op_eqD hu, servesEq, by decide, by decide⟩
  · exact ⟨_, op_neD hu, servesNe, by decide, by decide⟩
  · exact ⟨_, op_lt, servesI (fun _ _ => rfl) (two_of (.inl rfl)), by decide, by decide⟩
  · exact ⟨_, op_le, servesI (fun _ _ => rfl) (two_of (.inr (.inl rfl))), by decide, by decide⟩
  · exact ⟨_, op_gt, servesI (fun _ _ => rfl) (two_of (.inr (.inr (.inl rfl)))), by decide, by decide⟩
  · exact ⟨_, op_ge, servesI (fun _ _ => rfl) (two_of (.inr (.inr (.inr rfl)))), by decide, by decide⟩
  · exact ⟨_, op_isB, servesIs, by decide, by decide⟩
  · exact ⟨_, op_isnotB, servesIsnot, by decide, by decide⟩
theorem s_cmp (hu : X.A.units + 64 < cLine) {o : Cop} {op : CmpOp} (h : cmpB o op = true) (ha : PE X ea (tE X.K c a)) (hb : PE X eb (tE X.K c b)) :
    PE X (.Compare ea [op] [eb] pos) (tE X.K c (.cmp o a b)) ∧ PT X (.Compare ea [op] [eb] pos) (tT X.K c (.cmp o a b)) := by
  obtain ⟨r, h1, h2, h3, h4⟩ := cop_rule hu h
  exact ⟨(pe_cmpR h1 ha hb (nomark _ h3 h4)).imp fun σ H Q => w_cmp h2, (pt_cmpR h1 ha hb (nomark _ h3 h4)).imp fun σ H Q h => w_cmp h2 h⟩
theorem s_chain (hu : X.A.units + 64 < cLine) {o o' : Cop} {op op' : CmpOp} {d0 : CE} {ed : Expr} (h : cmpB o op = true) (h' : cmpB o' op' = true) (ha : PE X ea (tE X.K c a)) (hb : PE X eb (tE X.K c b)) (hd : PE X ed (tE X.K c d0)) :
    PE X (.Compare ea [op, op'] [eb, ed] pos) (tE X.K c (.chain o o' a b d0)) ∧ PT X (.Compare ea [op, op'] [eb, ed] pos) (tT X.K c (.chain o o' a b d0)) := by
  obtain ⟨r, h1, h2, _, _⟩ := cop_rule hu h
  obtain ⟨r', h1', h2', h3, h4⟩ := cop_rule hu h'
  have hm : lastMarks [op, op'] [eb, ed] = false := nomark _ h3 h4
  exact ⟨(pe_chain h1 h1' ha hb hd hm).imp fun σ H Q => w_chain h2 h2', (pt_chain h1 h1' ha hb hd hm).imp fun σ H Q h => w_chain h2 h2' h⟩
theorem w_isN {σ : L2.St} {H : Hp} {Q : VK} (h : tE X.K c (.isN a) σ H Q) : tIsN (tE X.K c a) σ H Q := by
  obtain ⟨lm, σD, M, s, p⟩ := h
  unfold evE at p
  refine ev1 s p fun v H1 d M1 lm1 g1 p1 => ?_
  obtain ⟨x, m, r⟩ := g1
  cases d with
  | p d =>
    have r : Dv X.K (Hx lm1 H1) v d := r
    cases r with
    | non => exact p1.here m (.bl true)
    | _ => exact p1.here m (.bl false)
  | loc n =>
    obtain ⟨a, _, rfl, _⟩ := r
    exact p1.here m (.bl false)
  | dic t n =>
    obtain ⟨a, _, rfl, _⟩ := r
    exact p1.here m (.bl false)
  | clo n =>
    obtain ⟨a, _, rfl⟩ := r
    exact p1.here m (.bl false)
  | scr ds =>
    obtain ⟨a, _, rfl, _⟩ := r
    exact p1.here m (.bl false)
theorem w_notN {σ : L2.St} {H : Hp} {Q : VK} (h : tE X.K c (.notN a) σ H Q) : tNotN (tE X.K c a) σ H Q := by
  obtain ⟨lm, σD, M, s, p⟩ := h
  unfold evE at p
  refine ev1 s p fun v H1 d M1 lm1 g1 p1 => ?_
  obtain ⟨x, m, r⟩ := g1
  cases d with
  | p d =>
    have r : Dv X.K (Hx lm1 H1) v d := r
    cases r with
    | non => exact p1.here m (.bl false)
    | _ => exact p1.here m (.bl true)
  | loc n =>
    obtain ⟨a, _, rfl, _⟩ := r
    exact p1.here m (.bl true)
  | dic t n =>
    obtain ⟨a, _, rfl, _⟩ := r
    exact p1.here m (.bl true)
  | clo n =>
    obtain ⟨a, _, rfl⟩ := r
    exact p1.here m (.bl true)
  | scr ds =>
    obtain ⟨a, _, rfl, _⟩ := r
    exact p1.here m (.bl true)
theorem s_isN {j : Nat} {pos' : Pos} (ha : PE X ea (tE X.K c a)) : PE X (.Compare ea [.Is] [.Constant .none j pos'] pos) (tE X.K c (.isN a)) ∧ PT X (.Compare ea [.Is] [.Constant .none j pos'] pos) (tT X.K c (.isN a)) :=
  ⟨(pe_cmp (pc_isN ha) rfl).imp fun σ H Q => w_isN, (pt_cmp (pc_isN ha) rfl).imp fun σ H Q h => w_isN h⟩
theorem s_notN {j : Nat} {pos' : Pos} (ha : PE X ea (tE X.K c a)) : PE X (.Compare ea [.IsNot] [.Constant .none j pos'] pos) (tE X.K c (.notN a)) ∧ PT X (.Compare ea [.IsNot] [.Constant .none j pos'] pos) (tT X.K c (.notN a)) :=
  ⟨(pe_cmp (pc_notN ha) rfl).imp fun σ H Q => w_notN, (pt_cmp (pc_notN ha) rfl).imp fun σ H Q h => w_notN h⟩
/-! ### and, or, not, if -/
section
variable {K : PySem.W.Frag} {σ : L2.St} {Q : VK} {lm : List Addr} {H : Hp} {σD : Sg} {M : Mem}
theorem evT {a : CE} {k : Bool → Mem → R D} (s : Sim K c lm H σ σD M) (p : Post K c σ Q lm H ((evE c.g a σD M).tst k)) {R : Bool → Hp → Prop} (h : ∀ b H1 M1 lm1, Ext lm H lm1 H1 → St K c.T lm1 H1 M1 → Post K c σ Q lm1 H1 (k b M1) → R b H1) : tT K c a σ H R := by
  refine ev1 s p fun v H1 d M1 lm1 g p1 => ?_
  obtain ⟨x, m, r⟩ := g
  cases d with
  | p d =>
    have r : Dv K (Hx lm1 H1) v d := r
    cases r with
    | bl b => exact ⟨b, rfl, h b H1 M1 lm1 x m p1⟩
    | _ => exact p1.elim
  | _ => exact p1.elim
end
theorem w_and {σ : L2.St} {H : Hp} {Q : VK} (h : tE X.K c (.and a b) σ H Q) : tAndV (tE X.K c a) (tE X.K c b) σ H Q := by
  obtain ⟨lm, σD, M, s, p⟩ := h
  unfold evE at p
  refine evT s p fun k H1 M1 lm1 x m p1 => ?_
  cases k with
  | false => exact p1.here m (.bl false)
  | true =>
    refine (if_pos rfl).mpr ?_
    refine ⟨lm1, σD, M1, s.ext x m, ?_⟩
    cases e : evE c.g b σD M1 with
    | ok d M2 =>
      simp only [if_true, e, R.tst, R.bind] at p1
      intro v l2 H2 x2 m2 r
      cases d with
      | p d =>
        have r : Dv X.K (Hx l2 H2) v d := r
        cases r with
        | bl k => exact p1 _ _ _ x2 m2 (.bl k)
        | _ => exact p1.elim
      | _ => exact p1.elim
    | exc y M2 =>
      simp only [if_true, e, R.tst, R.bind] at p1
      exact p1
    | bad =>
      simp only [if_true, e, R.tst, R.bind] at p1
      exact p1
theorem w_or {σ : L2.St} {H : Hp} {Q : VK} (h : tE X.K c (.or a b) σ H Q) : tOrV (tE X.K c a) (tE X.K c b) σ H Q := by
  obtain ⟨lm, σD, M, s, p⟩ := h
  unfold evE at p
  refine evT s p fun k H1 M1 lm1 x m p1 => ?_
  cases k with
  | true => exact p1.here m (.bl true)
  | false =>
    refine (if_neg Bool.false_ne_true).mpr ?_
    refine ⟨lm1, σD, M1, s.ext x m, ?_⟩
    cases e : evE c.g b σD M1 with
    | ok d M2 =>
      simp only [Bool.false_eq_true, if_false, e, R.tst, R.bind] at p1
      intro v l2 H2 x2 m2 r
      cases d with
      | p d =>
        have r : Dv X.K (Hx l2 H2) v d := r
        cases r with
        | bl k => exact p1 _ _ _ x2 m2 (.bl k)
        | _ => exact p1.elim
      | _ => exact p1.elim
    | exc y M2 =>
      simp only [Bool.false_eq_true, if_false, e, R.tst, R.bind] at p1
      exact p1
    | bad =>
      simp only [Bool.false_eq_true, if_false, e, R.tst, R.bind] at p1
      exact p1
theorem w_not {σ : L2.St} {H : Hp} {Q : VK} (h : tE X.K c (.not a) σ H Q) : tNotV (tE X.K c a) σ H Q := by
  obtain ⟨lm, σD, M, s, p⟩ := h
  unfold evE at p
  exact evT s p fun k H1 M1 lm1 x m p1 => p1.here m (.bl (!k))
theorem t_and {σ : L2.St} {H : Hp} {Q : Bool → Hp → Prop} (h : tT X.K c (.and a b) σ H Q) : tAnd (tT X.K c a) (tT X.K c b) σ H Q := by
  obtain ⟨lm, σD, M, s, p⟩ := h
  unfold evE at p
  refine evT s p fun k H1 M1 lm1 x m p1 => ?_
  cases k with
  | false =>
    obtain ⟨_, e, q⟩ := p1.here m (.bl false)
    cases e
    exact q
  | true =>
    rw [if_pos rfl] at p1 ⊢
    refine evT (s.ext x m) p1 fun k2 H2 M2 lm2 x2 m2 p2 => ?_
    obtain ⟨_, e, q⟩ := p2.here m2 (.bl k2)
    cases e
    exact q
theorem t_or {σ : L2.St} {H : Hp} {Q : Bool → Hp → Prop} (h : tT X.K c (.or a b) σ H Q) : tOr (tT X.K c a) (tT X.K c b) σ H Q := by
  obtain ⟨lm, σD, M, s, p⟩ := h
  unfold evE at p
  refine evT s p fun k H1 M1 lm1 x m p1 => ?_
  cases k with
  | true =>
    obtain ⟨_, e, q⟩ := p1.here m (.bl true)
    cases e
    exact q
  | false =>
    rw [if_neg Bool.false_ne_true] at p1 ⊢
    refine evT (s.ext x m) p1 fun k2 H2 M2 lm2 x2 m2 p2 => ?_
    obtain ⟨_, e, q⟩ := p2.here m2 (.bl k2)
    cases e
    exact q
theorem t_not {σ : L2.St} {H : Hp} {Q : Bool → Hp → Prop} (h : tT X.K c (.not a) σ H Q) : tNot (tT X.K c a) σ H Q := by
  obtain ⟨lm, σD, M, s, p⟩ := h
  unfold evE at p
  refine evT s p fun k H1 M1 lm1 x m p1 => ?_
  obtain ⟨_, e, q⟩ := p1.here m (.bl (!k))
  cases e
  exact q
theorem w_ife {d : CE} {σ : L2.St} {H : Hp} {Q : VK} (h : tE X.K c (.ife d a b) σ H Q) : tIf (tT X.K c d) (tE X.K c a) (tE X.K c b) σ H Q := by
  obtain ⟨lm, σD, M, s, p⟩ := h
  unfold evE at p
  refine evT s p fun k H1 M1 lm1 x m p1 => ?_
  cases k with
  | true => exact ⟨lm1, σD, M1, s.ext x m, p1⟩
  | false => exact ⟨lm1, σD, M1, s.ext x m, p1⟩
theorem pt_ifE {ec : Expr} {tc tA tB' : TT} (hc : PT X ec tc) (ha : PT X ea tA) (hb : PT X eb tB') : PT X (.IfExp ec ea eb pos) (fun σ H Q => tc σ H fun k H1 => if k = true then tA σ H1 Q else tB' σ H1 Q) := by
  refine ⟨fun pins s σ H Q I h => ?_⟩
  show wpAny _ _ (do if ← isTrue ec X.env (eval ec X.env) then isTrue ea X.env (eval ea X.env) else isTrue eb X.env (eval eb X.env)) _ _ s
  refine wpAny_bind (thn (hc.run pins s σ H _ I h) fun k s1 ⟨H1, I1, q1⟩ => ?_)
  cases k with
  | true => exact ha.run pins s1 σ H1 Q I1 q1
  | false => exact hb.run pins s1 σ H1 Q I1 q1
end
end Ev

end

/-! ## Ev5 -/
section
set_option Elab.async false
set_option linter.all false
set_option maxRecDepth 100000
/-! Argument lists, displays, subscripts, built-ins, methods. -/
namespace Ev
open PySem PySem.Spec PyProof.Rows L2
def PostL (K : PySem.W.Frag) (c : Cv) (σ : L2.St) (Q : List V → Hp → Prop) (lm : List Addr) (H : Hp) : R (List D) → Prop
  | .ok ds M => ∀ vs lm' H', Ext lm H lm' H' → St K c.T lm' H' M → Reps K lm' c.fs H' ds vs → Q vs H'
  | .exc x M => ∀ cls dd lm' H', Ext lm H lm' H' → St K c.T lm' H' M → c.er x cls dd H' → c.W cls dd σ H'
  | .bad => False
def tEs (K : PySem.W.Frag) (c : Cv) (es : List CE) : TA := fun σ H Q => ∃ lm σD M, Sim K c lm H σ σD M ∧ PostL K c σ Q lm H (evEs c.g es σD M)
section
variable {K : PySem.W.Frag} {c : Cv} {σ : L2.St} {Q : VK} {QL : List V → Hp → Prop} {lm lm' : List Addr} {H H' : Hp} {σD : Sg} {M : Mem}
theorem PostL.ext {r : R (List D)} (p : PostL K c σ QL lm H r) (x : Ext lm H lm' H') : PostL K c σ QL lm' H' r := by
  cases r with
  | ok d M => exact fun v l2 H2 x2 m r => p v l2 H2 (x.trans x2) m r
  | exc y M => exact fun cls dd l2 H2 x2 m e => p cls dd l2 H2 (x.trans x2) m e
  | bad => exact p
/-- one part of a list -/
theorem evO {a : CE} {k : D → Mem → R (List D)} (s : Sim K c lm H σ σD M) (p : PostL K c σ QL lm H ((evE c.g a σD M).bind k)) {R : VK} (h : ∀ v H1 d M1 lm1, Got K c lm H lm1 H1 d M1 v → PostL K c σ QL lm1 H1 (k d M1) → R v H1) : tE K c a σ H R := by
  refine ⟨lm, σD, M, s, ?_⟩
  cases e : evE c.g a σD M with
  | ok d M1 =>
    rw [e] at p
    exact fun v l1 H1 x m r => h v H1 d M1 l1 ⟨x, m, r⟩ (PostL.ext p x)
  | exc y M1 =>
    rw [e] at p
    exact p
  | bad =>
    rw [e] at p
    exact p
structure GotL (K : PySem.W.Frag) (c : Cv) (lm : List Addr) (H : Hp) (lm1 : List Addr) (H1 : Hp) (ds : List D) (M1 : Mem) (vs : List V) : Prop where
  x : Ext lm H lm1 H1
  m : St K c.T lm1 H1 M1
  r : Reps K lm1 c.fs H1 ds vs
theorem evLL {es : List CE} {k : List D → Mem → R (List D)} (s : Sim K c lm H σ σD M) (p : PostL K c σ QL lm H ((evEs c.g es σD M).bind k)) {R : List V → Hp → Prop} (h : ∀ vs H1 ds M1 lm1, GotL K c lm H lm1 H1 ds M1 vs → PostL K c σ QL lm1 H1 (k ds M1) → R vs H1) : tEs K c es σ H R := by
  refine ⟨lm, σD, M, s, ?_⟩
  cases e : evEs c.g es σD M with
  | ok d M1 =>
    rw [e] at p
    exact fun v l1 H1 x m r => h v H1 d M1 l1 ⟨x, m, r⟩ (PostL.ext p x)
  | exc y M1 =>
    rw [e] at p
    exact p
  | bad =>
    rw [e] at p
    exact p
theorem evL {es : List CE} {k : List D → Mem → R D} (s : Sim K c lm H σ σD M) (p : Post K c σ Q lm H ((evEs c.g es σD M).bind k)) {R : List V → Hp → Prop} (h : ∀ vs H1 ds M1 lm1, GotL K c lm H lm1 H1 ds M1 vs → Post K c σ Q lm1 H1 (k ds M1) → R vs H1) : tEs K c es σ H R := by
  refine ⟨lm, σD, M, s, ?_⟩
  cases e : evEs c.g es σD M with
  | ok d M1 =>
    rw [e] at p
    exact fun v l1 H1 x m r => h v H1 d M1 l1 ⟨x, m, r⟩ (Post.ext p x)
  | exc y M1 =>
    rw [e] at p
    exact p
  | bad =>
    rw [e] at p
    exact p
end
theorem _root_.L2.PA.imp {X : Cx} {e : List Expr} {t t' : TA} (h : PA X e t) (w : ∀ σ H Q, t' σ H Q → t σ H Q) : PA X e t' := ⟨fun pos pins s σ H Q I hq => h.run pos pins s σ H Q I (w σ H Q hq)⟩
section
variable {X : Cx} {c : Cv} {x : Str} {pos : Pos} {a b : CE} {ea eb : Expr} {as : List CE} {es : List Expr}
theorem s_nil : PA X [] (tEs X.K c []) := pa_nil.imp fun σ H Q ⟨lm, σD, M, s, p⟩ => by
  unfold evEs at p
  exact p [] lm H (.refl lm H) s.m trivial
theorem s_cons (ha : PE X ea (tE X.K c a)) (hr : PA X es (tEs X.K c as)) (hs : starEach (ea :: es) X.env = (false, eval ea X.env) :: starEach es X.env) : PA X (ea :: es) (tEs X.K c (a :: as)) :=
  (pa_cons ha hr hs).imp fun σ H Q ⟨lm, σD, M, s, p⟩ => by
    unfold evEs at p
    refine evO s p fun v H1 d M1 lm1 g1 p1 => evLL (s.ext g1.x g1.m) p1 fun vs H2 ds M2 lm2 g2 p2 => ?_
    exact p2 _ lm2 H2 (.refl _ _) g2.m ⟨g2.x.rep g1.r, g2.r⟩
/-! ### displays -/
theorem s_tup {k : Nat} (h : PA X es (tEs X.K c as)) : PE X (.Tuple es k pos) (tE X.K c (.tup as)) :=
  (pe_tupF h).imp fun σ H Q ⟨lm, σD, M, s, p⟩ => by
    unfold evE at p
    refine evL s p fun vs H1 ds M1 lm1 g p1 => ?_
    cases q : allP ds with
    | none =>
      simp only [q] at p1
      exact p1.elim
    | some xs =>
      have r := reps_allP g.r q
      simp only [q] at p1
      split at p1
      · rename_i hz
        exact ⟨by rw [r.len]; exact hz, fun p ob n hd => p1.new g.m n (.tup (.inl ⟨ob, Hx_some.mpr ⟨notin_lm g.m.m n, upd_same⟩, hd⟩) ((ext_new n).up.dvAll _ _ r))⟩
      · exact p1.elim
theorem s_lst (h : PA X es (tEs X.K c as)) : PE X (.List es pos) (tE X.K c (.lst as)) :=
  (pe_lst h).imp fun σ H Q ⟨lm, σD, M, s, p⟩ => by
    unfold evE at p
    refine evL s p fun vs H1 ds M1 lm1 g p1 => ?_
    cases q : allP ds with
    | none =>
      simp only [q] at p1
      exact p1.elim
    | some xs =>
      have r := reps_allP g.r q
      simp only [q] at p1
      split at p1
      · rename_i hz
        exact ⟨by rw [r.len]; exact hz, fun p n => p1.new g.m n (.lst (Hx_some.mpr ⟨notin_lm g.m.m n, upd_same⟩) ((ext_new n).up.dvAll _ _ r))⟩
      · exact p1.elim
theorem s_lstM (h : PA X es (tEs X.K c as)) : PE X (.List es pos) (tE X.K c (.lstM as)) :=
  (pe_lst h).imp fun σ H Q ⟨lm, σD, M, s, p⟩ => by
    unfold evE at p
    refine evL s p fun vs H1 ds M1 lm1 g p1 => ?_
    cases q : allP ds with
    | none =>
      simp only [q] at p1
      exact p1.elim
    | some xs =>
      have r := reps_allP g.r q
      simp only [q] at p1
      split at p1
      · rename_i hz
        refine ⟨by rw [r.len]; exact hz, fun p n => p1 _ (lm1 ++ [p]) _ (ext_lm g.m.m n) (g.m.mk_ n r) ⟨p, ?_, rfl, _, upd_same⟩⟩
        rw [← g.m.m.len, List.getElem?_append_right (Nat.le_refl _), Nat.sub_self]
        rfl
      · exact p1.elim
/-! ### subscripts -/
theorem atI_dv {K : PySem.W.Frag} {H : Hp} {vs : List V} {xs : List PyData} {i : Int} {d : PyData} (h : DvAll K H vs xs) (e : L2.atI xs i = some d) : ∃ v, L2.atI vs i = some v ∧ Dv K H v d := by
  unfold L2.atI at e ⊢
  rw [h.len]
  cases q : L2.ixN xs.length i with
  | none =>
    rw [q] at e
    cases e
  | some j =>
    rw [q] at e
    exact h.get e
theorem s_idx (ha : PE X ea (tE X.K c a)) (hb : PE X eb (tE X.K c b)) (hs : PlainIx eb) : PE X (.Subscript ea eb pos) (tE X.K c (.idx a b)) :=
  (pe_ix (ix_list.or ix_tup) ha hb hs).imp fun σ H Q ⟨lm, σD, M, s, p⟩ => by
    unfold evE at p
    refine ev1 s p fun v H1 d M1 lm1 g1 p1 => ev1 (s.ext g1.x g1.m) p1 fun u H2 e M2 lm2 g2 p2 => ?_
    have r1 := g2.x.rep g1.r
    unfold opIdx at p2
    cases q : itemsR M2 d with
    | none =>
      simp only [q] at p2
      exact p2.elim
    | some xs =>
      obtain ⟨p, vs, rfl, hsq, hv⟩ := items_sq g2.m.m r1 q
      simp only [q] at p2
      obtain ⟨x2, m2, r2⟩ := g2
      cases e with
      | p e =>
        have r2 : Dv X.K (Hx lm2 H2) u e := r2
        cases r2 with
        | int i =>
          cases q2 : L2.atI xs i with
          | none =>
            simp only [q2] at p2
            exact p2.elim
          | some y =>
            simp only [q2] at p2
            obtain ⟨w, e1, h1⟩ := atI_dv hv q2
            have fin : Q w H2 := p2.here m2 h1
            rcases hsq with hsq | hsq
            · exact .inl ⟨p, vs, i, w, rfl, rfl, hsq, e1, fin⟩
            · exact .inr ⟨p, vs, i, w, rfl, rfl, hsq, e1, fin⟩
        | _ => exact p2.elim
      | _ => exact p2.elim
theorem cut_dv {K : PySem.W.Frag} {H : Hp} {vs : List V} {xs : List PyData} {lo hi : Option Int} (h : DvAll K H vs xs) : DvAll K H (cutV vs lo hi) (cut xs lo hi) := by
  unfold cutV cut
  rw [h.len]
  exact (h.drop _).take _
theorem cut_whole {α : Type} {xs : List α} {lo hi : Option Int} (h : HT.sIx xs.length 0 lo = 0 ∧ HT.sIx xs.length xs.length hi = xs.length) : cut xs lo hi = xs := by
  unfold cut
  rw [h.1, h.2, List.drop_zero, Nat.sub_zero, List.take_length]
/-- a slice by values serves the core -/
theorem slc_ok {lm : List Addr} {H : Hp} {M : Mem} {σ : L2.St} {d y : D} {v : V} {lo hi : Option Int} {Q : VK} (m : St X.K c.T lm H M) (r : Rep X.K lm c.fs H d v) (e : opSlc M d lo hi = some y) (p : Post X.K c σ Q lm H (.ok y M)) :
    rSlL X.K v lo hi H Q ∨ rSlF X.K v lo hi H Q := by
  cases d with
  | p d =>
    have r : Dv X.K (Hx lm H) v d := r
    cases r with
    | lst hs ha =>
      cases e
      exact .inl ⟨_, _, rfl, .of (Hx_some.mp hs).2, fun p0 n => p.new m n (.lst (Hx_some.mpr ⟨notin_lm m.m n, upd_same⟩) ((ext_new n).up.dvAll _ _ (cut_dv ha)))⟩
    | tup hs ha =>
      cases e
      refine .inr ⟨_, _, rfl, ((up_Hx lm H).sqN hs).sqT, fun hw => ?_, fun _ p0 ob n hd => p.new m n (.tup (.inl ⟨ob, Hx_some.mpr ⟨notin_lm m.m n, upd_same⟩, hd⟩) ((ext_new n).up.dvAll _ _ (cut_dv ha)))⟩
      refine p.here m ?_
      rw [ha.len] at hw
      rw [cut_whole hw]
      exact .tup hs ha
    | _ => cases e
  | loc n =>
    obtain ⟨a, e1, rfl, hk⟩ := r
    have e : (M[n]?).map (fun xs => D.p (.list (cut xs lo hi))) = some y := e
    cases q : M[n]? with
    | none =>
      rw [q] at e
      cases e
    | some xs =>
      rw [q] at e
      cases e
      obtain ⟨vs, e2, h2⟩ := (m.m.at_ n a xs e1 q).isL hk
      exact .inl ⟨_, _, rfl, .of e2, fun p0 n => p.new m n (.lst (Hx_some.mpr ⟨notin_lm m.m n, upd_same⟩) ((ext_new n).up.dvAll _ _ (cut_dv h2)))⟩
  | dic t n => cases e
  | clo n => cases e
  | scr xs =>
    obtain ⟨a, vs, rfl, h1, h2⟩ := r
    cases e
    exact .inl ⟨_, _, rfl, (up_Hx lm H).sqL h1, fun p0 n => p.new m n (.lst (Hx_some.mpr ⟨notin_lm m.m n, upd_same⟩) ((ext_new n).up.dvAll _ _ (cut_dv h2)))⟩
/-- a part of a slice: nothing, or an expression -/
def tPs (K : PySem.W.Frag) (c : Cv) (es : List CE) : TO := fun σ H Q => tEs K c es σ H fun vs H1 => (vs = [] ∧ Q none H1) ∨ ∃ i, vs = [.int i] ∧ Q (some i) H1
theorem po_nil : PO X none (tPs X.K c []) := by
  refine ⟨fun pins s σ H Q I h => po_none.run pins s σ H Q I ?_⟩
  obtain ⟨lm, σD, M, s, p⟩ := h
  unfold evEs at p
  rcases p [] lm H (.refl lm H) s.m trivial with ⟨_, q⟩ | ⟨i, e, _⟩
  · exact q
  · cases e
theorem po_one (ha : PE X ea (tE X.K c a)) : PO X (some ea) (tPs X.K c [a]) := by
  refine ⟨fun pins s σ H Q I h => (po_some ha).run pins s σ H Q I ?_⟩
  obtain ⟨lm, σD, M, s, p⟩ := h
  unfold evEs at p
  refine evO s p fun v H1 d M1 lm1 g1 p1 => ?_
  unfold evEs at p1
  rcases p1 [v] lm1 H1 (.refl _ _) g1.m ⟨g1.r, trivial⟩ with ⟨e, _⟩ | ⟨i, e, q⟩
  · cases e
  · cases e
    exact ⟨i, rfl, q⟩
theorem optI_of {K : PySem.W.Frag} {lm fs : List Addr} {H : Hp} {l : List D} {ls : List V} {o : Option Int} (r : Reps K lm fs H l ls) (e : optI l = some o) : (ls = [] ∧ o = none) ∨ ∃ i, ls = [.int i] ∧ o = some i := by
  cases l with
  | nil =>
    cases e
    cases ls with
    | nil => exact .inl ⟨rfl, rfl⟩
    | cons _ _ => exact r.elim
  | cons d l2 =>
    cases l2 with
    | cons _ _ => cases d <;> first | (cases e; done) | (rename_i x; cases x <;> cases e)
    | nil =>
      cases d with
      | p d =>
        cases d with
        | int i =>
          cases e
          cases ls with
          | nil => exact r.elim
          | cons v vs =>
            obtain ⟨r1, r2⟩ := r
            cases vs with
            | cons _ _ => exact r2.elim
            | nil =>
              have r1 : Dv K (Hx lm H) v (.int i) := r1
              cases r1
              exact .inr ⟨i, rfl, rfl⟩
        | _ => cases e
      | _ => cases e
theorem s_slc {p2 : Pos} {lo hi : List CE} {elo ehi : Option Expr} (ha : PE X ea (tE X.K c a)) (hl : PO X elo (tPs X.K c lo)) (hh : PO X ehi (tPs X.K c hi)) : PE X (.Subscript ea (.Slice elo ehi none p2) pos) (tE X.K c (.slc a lo hi)) :=
  (pe_slice (sl_list.or sl_tupF) ha hl hh).imp fun σ H Q ⟨lm, σD, M, s, p⟩ => by
    unfold evE at p
    refine ev1 s p fun v H1 d M1 lm1 g1 p1 => evL (s.ext g1.x g1.m) p1 fun ls H2 l M2 lm2 g2 p2 => ?_
    cases q : optI l with
    | none =>
      simp only [q] at p2
      exact p2.elim
    | some i =>
      simp only [q] at p2
      have next : (tPs X.K c hi) σ H2 fun o2 H3 => (rSlL X.K v i o2 H3 Q ∨ rSlF X.K v i o2 H3 Q) := by
        refine evL ((s.ext g1.x g1.m).ext g2.x g2.m) p2 fun hs H3 h M3 lm3 g3 p3 => ?_
        cases q3 : optI h with
        | none =>
          simp only [q3] at p3
          exact p3.elim
        | some j =>
          simp only [q3] at p3
          cases q4 : opSlc M3 d i j with
          | none =>
            rw [q4] at p3
            exact p3.elim
          | some y =>
            rw [q4] at p3
            have fin := slc_ok g3.m ((g2.x.trans g3.x).rep g1.r) q4 p3
            rcases optI_of g3.r q3 with ⟨e1, e2⟩ | ⟨k, e1, e2⟩
            · subst e2
              exact .inl ⟨e1, fin⟩
            · subst e2
              exact .inr ⟨k, e1, fin⟩
      rcases optI_of g2.r q with ⟨e1, e2⟩ | ⟨k, e1, e2⟩
      · subst e2
        exact .inl ⟨e1, next⟩
      · subst e2
        exact .inr ⟨k, e1, next⟩
end
end Ev

end

/-! ## Ev6 -/
section
set_option Elab.async false
set_option linter.all false
set_option maxRecDepth 100000
set_option maxHeartbeats 1000000
/-! Built-ins, isinstance, methods. -/
namespace Ev
open PySem PySem.Spec PyProof.Rows L2
section
variable {X : Cx} {c : Cv} {x : Str} {p pos : Pos} {a b : CE} {ea eb : Expr} {as : List CE} {es : List Expr}
def ServesB (X : Cx) (r : List V → Hp → VK → Prop) (k : Bi) : Prop :=
  ∀ (c : Cv) (lm : List Addr) (H : Hp) (M : Mem) (σ : L2.St) (ds : List D) (vs : List V) (y : D) (Q : VK), St X.K c.T lm H M → Reps X.K lm c.fs H ds vs → opBi M k ds = some y → Post X.K c σ Q lm H (.ok y M) → r vs H Q
theorem w_bi {r : List V → Hp → VK → Prop} {k : Bi} (hs : ServesB X r k) {σ : L2.St} {H : Hp} {Q : VK} (h : tE X.K c (.bi k as) σ H Q) : tCB r (tEs X.K c as) σ H Q := by
  obtain ⟨lm, σD, M, s, p⟩ := h
  unfold evE at p
  refine evL s p fun vs H1 ds M1 lm1 g p1 => ?_
  cases q : opBi M1 k ds with
  | none =>
    rw [q] at p1
    exact p1.elim
  | some y =>
    rw [q] at p1
    exact hs c lm1 H1 M1 σ ds vs y Q g.m g.r q p1
theorem reps1 {K : PySem.W.Frag} {lm fs : List Addr} {H : Hp} {d : D} {vs : List V} (r : Reps K lm fs H [d] vs) : ∃ v, vs = [v] ∧ Rep K lm fs H d v := by
  cases vs with
  | nil => exact r.elim
  | cons v r2 =>
    cases r2 with
    | nil => exact ⟨v, rfl, r.1⟩
    | cons _ _ => exact r.2.elim
theorem reps2 {K : PySem.W.Frag} {lm fs : List Addr} {H : Hp} {d e : D} {vs : List V} (r : Reps K lm fs H [d, e] vs) : ∃ v u, vs = [v, u] ∧ Rep K lm fs H d v ∧ Rep K lm fs H e u := by
  cases vs with
  | nil => exact r.elim
  | cons v r2 =>
    obtain ⟨u, rfl, h⟩ := reps1 r.2
    exact ⟨v, u, rfl, r.1, h⟩
/-- what one argument asks -/
theorem one_of {M : Mem} {ds : List D} {k : Bi} {y : D} (hk : k = .len ∨ k = .list ∨ k = .tuple ∨ k = .all ∨ k = .any ∨ k = .sum ∨ k = .abs ∨ k = .int) (e : opBi M k ds = some y) : ∃ d, ds = [d] := by
  cases ds with
  | nil => cases e
  | cons d r =>
    cases r with
    | nil => exact ⟨d, rfl⟩
    | cons d2 r2 =>
      cases r2 with
      | nil => rcases hk with rfl | rfl | rfl | rfl | rfl | rfl | rfl | rfl <;> cases e
      | cons d3 r3 =>
        cases r3 with
        | nil => rcases hk with rfl | rfl | rfl | rfl | rfl | rfl | rfl | rfl <;> cases e
        | cons _ _ => cases e
theorem servesLen : ServesB X (fun xs H Q => ∃ p ys, xs = [.ref p] ∧ (SqL X.K H p ys ∨ SqT X.K H p ys) ∧ Q (.int ys.length) H) .len := by
  intro c lm H M σ ds vs y Q m r0 e p
  obtain ⟨d, rfl⟩ := one_of (.inl rfl) e
  obtain ⟨v, rfl, r⟩ := reps1 r0
  have e : (itemsR M d).map (fun xs => D.p (.int xs.length)) = some y := e
  cases q : itemsR M d with
  | none =>
    rw [q] at e
    cases e
  | some xs =>
    rw [q] at e
    cases e
    obtain ⟨a, us, rfl, hs, hv⟩ := items_sq m.m r q
    refine ⟨a, us, rfl, hs, ?_⟩
    rw [hv.len]
    exact p.here m (.int _)
theorem servesList : ServesB X (fun xs H Q => ∃ p ys, xs = [.ref p] ∧ (SqL X.K H p ys ∨ SqT X.K H p ys) ∧ ∀ l, H l = none → Q (.ref l) (upd H l (.lst ys))) .list := by
  intro c lm H M σ ds vs y Q m r0 e p
  obtain ⟨d, rfl⟩ := one_of (.inr (.inl rfl)) e
  obtain ⟨v, rfl, r⟩ := reps1 r0
  have e : (itemsR M d).map (fun xs => D.p (.list xs)) = some y := e
  cases q : itemsR M d with
  | none =>
    rw [q] at e
    cases e
  | some xs =>
    rw [q] at e
    cases e
    obtain ⟨a, us, rfl, hs, hv⟩ := items_sq m.m r q
    exact ⟨a, us, rfl, hs, fun l n => p.new m n (.lst (Hx_some.mpr ⟨notin_lm m.m n, upd_same⟩) ((ext_new n).up.dvAll _ _ hv))⟩
theorem servesTuple : ServesB X (rTupF X.K) .tuple := by
  intro c lm H M σ ds vs y Q m r0 e p
  obtain ⟨d, rfl⟩ := one_of (.inr (.inr (.inl rfl))) e
  obtain ⟨v, rfl, r⟩ := reps1 r0
  have e : (itemsR M d).map (fun xs => D.p (.tuple xs)) = some y := e
  cases q : itemsR M d with
  | none =>
    rw [q] at e
    cases e
  | some xs =>
    rw [q] at e
    cases e
    have fin : ∀ {a : Addr} {us : List V}, SqL X.K H a us → DvAll X.K (Hx lm H) us xs → rTupF X.K [V.ref a] H Q := fun {a us} hs hv =>
      ⟨a, us, rfl, .inl ⟨hs, fun l ob n hd => p.new m n (.tup (.inl ⟨ob, Hx_some.mpr ⟨notin_lm m.m n, upd_same⟩, hd⟩) ((ext_new n).up.dvAll _ _ hv))⟩⟩
    cases d with
    | p d =>
      have r : Dv X.K (Hx lm H) v d := r
      cases r with
      | lst hs ha =>
        cases q
        exact fin (.of (Hx_some.mp hs).2) ha
      | tup hs ha =>
        cases q
        exact ⟨_, _, rfl, .inr ⟨((up_Hx lm H).sqN hs).sqT, p.here m (.tup hs ha)⟩⟩
      | _ => cases q
    | loc n =>
      obtain ⟨a, e1, rfl, hk⟩ := r
      obtain ⟨vs, e2, h2⟩ := (m.m.at_ n a xs e1 q).isL hk
      exact fin (.of e2) h2
    | dic t n => cases q
    | clo n => cases q
    | scr ys =>
      obtain ⟨a, vs, rfl, h1, h2⟩ := r
      cases q
      exact fin ((up_Hx lm H).sqL h1) h2
theorem int_of {K : PySem.W.Frag} {lm fs : List Addr} {H : Hp} {d : D} {v : V} {i : Int} (r : Rep K lm fs H d v) (e : d.int? = some i) : v = .int i := by
  cases d with
  | p d =>
    have r : Dv K (Hx lm H) v d := r
    cases r with
    | int j =>
      cases e
      rfl
    | _ => cases e
  | _ => cases e
theorem servesAbs : ServesB X (fun xs H Q => ∃ i, xs = [.int i] ∧ Q (.int (if i < 0 then -i else i)) H) .abs := by
  intro c lm H M σ ds vs y Q m r0 e p
  obtain ⟨d, rfl⟩ := one_of (.inr (.inr (.inr (.inr (.inr (.inr (.inl rfl))))))) e
  obtain ⟨v, rfl, r⟩ := reps1 r0
  have e : d.int?.map (fun i => D.p (.int (if i < 0 then -i else i))) = some y := e
  cases q : d.int? with
  | none =>
    rw [q] at e
    cases e
  | some i =>
    rw [q] at e
    cases e
    rw [int_of r q]
    exact ⟨i, rfl, p.here m (.int _)⟩
theorem servesInt : ServesB X (fun xs H Q => (∃ i, xs = [.int i] ∧ Q (.int i) H) ∨ ∃ k, xs = [.bl k] ∧ Q (.int (if k then 1 else 0)) H) .int := by
  intro c lm H M σ ds vs y Q m r0 e p
  obtain ⟨d, rfl⟩ := one_of (.inr (.inr (.inr (.inr (.inr (.inr (.inr rfl))))))) e
  obtain ⟨v, rfl, r⟩ := reps1 r0
  cases d with
  | p d =>
    have r : Dv X.K (Hx lm H) v d := r
    cases r with
    | int i =>
      cases e
      exact .inl ⟨i, rfl, p.here m (.int _)⟩
    | bl k =>
      cases e
      exact .inr ⟨k, rfl, p.here m (.int _)⟩
    | _ => cases e
  | _ => cases e
theorem ints_ne {xs : List PyData} {ns : List Int} {m : Int} {f : List Int → Option Int} (h : (intsOf xs) = some ns) (e : f ns = some m) (h0 : f [] = none) : ∃ n r, ns = n :: r := by
  cases ns with
  | nil =>
    rw [h0] at e
    cases e
  | cons n r => exact ⟨n, r, rfl⟩
/-- min, max: of two ints, of a list, of a tuple -/
theorem servesMin : ServesB X (fun xs H Q => ((rMinL X.K xs H Q ∨ rMinT X.K xs H Q) ∨ ∃ i j, xs = [.int i, .int j] ∧ Q (.int (if j < i then j else i)) H) ∨ rNuC3 nuMin3 xs H Q) .min := by
  intro c lm H M σ ds vs y Q m r0 e p
  cases ds with
  | nil => cases e
  | cons d ds =>
    cases ds with
    | nil =>
      obtain ⟨v, rfl, r⟩ := reps1 r0
      have e : ((itemsR M d).bind intsOf).bind (fun xs => (min? xs).map fun m => D.p (.int m)) = some y := e
      cases q : itemsR M d with
      | none =>
        rw [q] at e
        cases e
      | some xs =>
        rw [q] at e
        have e : (intsOf xs).bind (fun xs => (min? xs).map fun m => D.p (.int m)) = some y := e
        cases q2 : intsOf xs with
        | none =>
          rw [q2] at e
          cases e
        | some ns =>
          rw [q2] at e
          cases ns with
          | nil => cases e
          | cons n t =>
            cases e
            obtain ⟨a, us, rfl, hs, hv⟩ := items_sq m.m r q
            have e1 := dvAll_ints hv q2
            subst e1
            have fin : Q (.int (t.foldl min n)) H := p.here m (.int _)
            rcases hs with hs | hs
            · exact .inl (.inl (.inl ⟨a, n, t, rfl, hs, fin⟩))
            · exact .inl (.inl (.inr ⟨a, n, t, rfl, hs, fin⟩))
    | cons d2 ds =>
      cases ds with
      | cons d3 ds =>
        cases ds with
        | cons _ _ => cases e
        | nil =>
          obtain ⟨v, us, rfl, r1, r2⟩ : ∃ v us, vs = v :: us ∧ Rep X.K lm c.fs H d v ∧ Reps X.K lm c.fs H [d2, d3] us := by
            cases vs with
            | nil => exact r0.elim
            | cons v us => exact ⟨v, us, rfl, r0.1, r0.2⟩
          obtain ⟨u, w, rfl, r2, r3⟩ := reps2 r2
          have e : d.int?.bind (fun i => d2.int?.bind fun j => d3.int?.map fun l => D.p (.int (if l < (if j < i then j else i) then l else (if j < i then j else i)))) = some y := e
          obtain ⟨i, q1, e⟩ := Option.bind_eq_some_iff.mp e
          obtain ⟨j, q2, e⟩ := Option.bind_eq_some_iff.mp e
          obtain ⟨l, q3, e⟩ := Option.map_eq_some_iff.mp e
          subst e
          rw [int_of r1 q1, int_of r2 q2, int_of r3 q3]
          refine .inr ⟨.int i, .int j, .int l, .int (if l < (if j < i then j else i) then l else (if j < i then j else i)), rfl, ?_, p.here m (.int _)⟩
          have e2 : nuMin2 (V.int i) (V.int j) = some (.int (if j < i then j else i)) := by
            show (some (decide (j < i))).map (fun c => if c = true then V.int j else V.int i) = _
            by_cases h : j < i <;> simp [h]
          show (nuMin2 (V.int i) (V.int j)).bind (fun m => nuMin2 m (V.int l)) = _
          rw [e2]
          show (some (decide (l < (if j < i then j else i)))).map (fun c => if c = true then V.int l else V.int (if j < i then j else i)) = _
          by_cases h : l < (if j < i then j else i) <;> simp [h]
      | nil =>
        obtain ⟨v, u, rfl, r1, r2⟩ := reps2 r0
        have e : d.int?.bind (fun i => d2.int?.map fun j => D.p (.int (if j < i then j else i))) = some y := e
        cases q1 : d.int? with
        | none =>
          rw [q1] at e
          cases e
        | some i =>
          rw [q1] at e
          have e : d2.int?.map (fun j => D.p (.int (if j < i then j else i))) = some y := e
          cases q2 : d2.int? with
          | none =>
            rw [q2] at e
            cases e
          | some j =>
            rw [q2] at e
            cases e
            rw [int_of r1 q1, int_of r2 q2]
            exact .inl (.inr ⟨i, j, rfl, p.here m (.int _)⟩)
theorem servesMax : ServesB X (fun xs H Q => (rMaxL X.K xs H Q ∨ rMaxT X.K xs H Q) ∨ ∃ i j, xs = [.int i, .int j] ∧ Q (.int (if j > i then j else i)) H) .max := by
  intro c lm H M σ ds vs y Q m r0 e p
  cases ds with
  | nil => cases e
  | cons d ds =>
    cases ds with
    | nil =>
      obtain ⟨v, rfl, r⟩ := reps1 r0
      have e : ((itemsR M d).bind intsOf).bind (fun xs => (max? xs).map fun m => D.p (.int m)) = some y := e
      cases q : itemsR M d with
      | none =>
        rw [q] at e
        cases e
      | some xs =>
        rw [q] at e
        have e : (intsOf xs).bind (fun xs => (max? xs).map fun m => D.p (.int m)) = some y := e
        cases q2 : intsOf xs with
        | none =>
          rw [q2] at e
          cases e
        | some ns =>
          rw [q2] at e
          cases ns with
          | nil => cases e
          | cons n t =>
            cases e
            obtain ⟨a, us, rfl, hs, hv⟩ := items_sq m.m r q
            have e1 := dvAll_ints hv q2
            subst e1
            have fin : Q (.int (t.foldl max n)) H := p.here m (.int _)
            rcases hs with hs | hs
            · exact .inl (.inl ⟨a, n, t, rfl, hs, fin⟩)
            · exact .inl (.inr ⟨a, n, t, rfl, hs, fin⟩)
    | cons d2 ds =>
      cases ds with
      | cons d3 ds =>
        cases ds with
        | nil => cases e
        | cons _ _ => cases e
      | nil =>
        obtain ⟨v, u, rfl, r1, r2⟩ := reps2 r0
        have e : d.int?.bind (fun i => d2.int?.map fun j => D.p (.int (if j > i then j else i))) = some y := e
        cases q1 : d.int? with
        | none =>
          rw [q1] at e
          cases e
        | some i =>
          rw [q1] at e
          have e : d2.int?.map (fun j => D.p (.int (if j > i then j else i))) = some y := e
          cases q2 : d2.int? with
          | none =>
            rw [q2] at e
            cases e
          | some j =>
            rw [q2] at e
            cases e
            rw [int_of r1 q1, int_of r2 q2]
            exact .inr ⟨i, j, rfl, p.here m (.int _)⟩
/-- a list (no tuple) of bools, of ints -/
theorem servesAll : ServesB X (fun xs H Q => rAll X.K xs H Q ∨ rAllT X.K xs H Q) .all := by
  intro c lm H M σ ds vs y Q m r0 e p
  obtain ⟨d, rfl⟩ := one_of (.inr (.inr (.inr (.inl rfl)))) e
  obtain ⟨v, rfl, r⟩ := reps1 r0
  have e : ((itemsR M d).bind bolsOf).map (fun bs => D.p (.bool (bs.all id))) = some y := e
  cases q : itemsR M d with
  | none =>
    rw [q] at e
    cases e
  | some xs =>
    rw [q] at e
    have e : (bolsOf xs).map (fun bs => D.p (.bool (bs.all id))) = some y := e
    cases q2 : bolsOf xs with
    | none =>
      rw [q2] at e
      cases e
    | some bs =>
      rw [q2] at e
      cases e
      obtain ⟨a, us, rfl, hs, hv⟩ := items_sq m.m r q
      have e1 := dvAll_bols hv q2
      subst e1
      rcases hs with hs | hs
      · exact .inl ⟨a, bs, rfl, hs, p.here m (.bl _)⟩
      · exact .inr ⟨a, bs, rfl, hs, p.here m (.bl _)⟩
theorem servesAny : ServesB X (fun xs H Q => rAny X.K xs H Q ∨ rAnyT X.K xs H Q) .any := by
  intro c lm H M σ ds vs y Q m r0 e p
  obtain ⟨d, rfl⟩ := one_of (.inr (.inr (.inr (.inr (.inl rfl))))) e
  obtain ⟨v, rfl, r⟩ := reps1 r0
  have e : ((itemsR M d).bind bolsOf).map (fun bs => D.p (.bool (bs.any id))) = some y := e
  cases q : itemsR M d with
  | none =>
    rw [q] at e
    cases e
  | some xs =>
    rw [q] at e
    have e : (bolsOf xs).map (fun bs => D.p (.bool (bs.any id))) = some y := e
    cases q2 : bolsOf xs with
    | none =>
      rw [q2] at e
      cases e
    | some bs =>
      rw [q2] at e
      cases e
      obtain ⟨a, us, rfl, hs, hv⟩ := items_sq m.m r q
      have e1 := dvAll_bols hv q2
      subst e1
      rcases hs with hs | hs
      · exact .inl ⟨a, bs, rfl, hs, p.here m (.bl _)⟩
      · exact .inr ⟨a, bs, rfl, hs, p.here m (.bl _)⟩
theorem servesSum : ServesB X (rSum X.K) .sum := by
  intro c lm H M σ ds vs y Q m r0 e p
  obtain ⟨d, rfl⟩ := one_of (.inr (.inr (.inr (.inr (.inr (.inl rfl)))))) e
  obtain ⟨v, rfl, r⟩ := reps1 r0
  have e : ((itemsL M d).bind intsOf).map (fun bs => D.p (.int bs.sum)) = some y := e
  cases q : itemsL M d with
  | none =>
    rw [q] at e
    cases e
  | some xs =>
    rw [q] at e
    have e : (intsOf xs).map (fun bs => D.p (.int bs.sum)) = some y := e
    cases q2 : intsOf xs with
    | none =>
      rw [q2] at e
      cases e
    | some bs =>
      rw [q2] at e
      cases e
      obtain ⟨a, us, rfl, hs, hv⟩ := items_sqL m.m r q
      have e1 := dvAll_ints hv q2
      subst e1
      exact ⟨a, bs, rfl, hs, p.here m (.int _)⟩
theorem s_callB {r : List V → Hp → VK → Prop} {k : Bi} {id : String} (hc : CallR X (.builtin id) r) (hs : ServesB X r k) (hg : Gl X x) (hm : X.mg x = none) (hv : bootBuiltins x = some (.builtin id)) (ha : PA X (ea :: es) (tEs X.K c as)) (hn : x ≠ "__name__") (hdb : (x == ("__debug__" : Str)) = false)
    (he : starEach (ea :: es) X.env = (false, eval ea X.env) :: starEach es X.env) (hpl : (backTo pos (starEach es X.env)).any (·.1) = false) : PE X (.Call (.Name x p) (ea :: es) [] pos) (tE X.K c (.bi k as)) :=
  (pe_callB hc hg hm hv ha hn hdb he hpl).imp fun σ H Q => w_bi hs
theorem s_callT {r : List V → Hp → VK → Prop} {k : Bi} {id : String} (hc : CallR X (.type id) r) (hs : ServesB X r k) (hg : Gl X x) (hm : X.mg x = none) (hv : bootBuiltins x = some (.type id)) (ha : PA X (ea :: es) (tEs X.K c as)) (hn : x ≠ "__name__") (hdb : (x == ("__debug__" : Str)) = false)
    (he : starEach (ea :: es) X.env = (false, eval ea X.env) :: starEach es X.env) (hpl : (backTo pos (starEach es X.env)).any (·.1) = false) : PE X (.Call (.Name x p) (ea :: es) [] pos) (tE X.K c (.bi k as)) :=
  (pe_callTy hc hg hm hv ha hn hdb he hpl).imp fun σ H Q => w_bi hs
theorem callR_or {f : Value} {r r' : List V → Hp → VK → Prop} (h : CallR X f r) (h' : CallR X f r') : CallR X f (fun xs H Q => r xs H Q ∨ r' xs H Q) := CallR.or h h'
theorem s_bi (hcalm : X.calm = true) (hu : X.A.units + 64 < cLine) {k : Bi} (hk : bltF.lookup x = some k ∨ bltT.lookup x = some k) (hg : Gl X x) (hm : X.mg x = none) (ha : PA X (ea :: es) (tEs X.K c as))
    (he : starEach (ea :: es) X.env = (false, eval ea X.env) :: starEach es X.env) (hpl : (backTo pos (starEach es X.env)).any (·.1) = false) : PE X (.Call (.Name x p) (ea :: es) [] pos) (tE X.K c (.bi k as)) := by
  have cases7 : (x = "len" ∧ k = .len) ∨ (x = "abs" ∧ k = .abs) ∨ (x = "min" ∧ k = .min) ∨ (x = "max" ∧ k = .max) ∨ (x = "all" ∧ k = .all) ∨ (x = "any" ∧ k = .any) ∨ (x = "sum" ∧ k = .sum) ∨ (x = "int" ∧ k = .int) ∨ (x = "list" ∧ k = .list) ∨ (x = "tuple" ∧ k = .tuple) := by
    have mem : ∀ {l : List (Str × Bi)}, l.lookup x = some k → (x, k) ∈ l := fun h => PySem.mem_of_lookup h
    rcases hk with h | h
    · have := mem h
      simp only [bltF, List.mem_cons, Prod.mk.injEq, List.not_mem_nil, or_false] at this
      rcases this with h | h | h | h | h | h | h <;> simp only [h, and_self, true_or, or_true]
    · have := mem h
      simp only [bltT, List.mem_cons, Prod.mk.injEq, List.not_mem_nil, or_false] at this
      rcases this with h | h | h <;> simp only [h, and_self, true_or, or_true]
  rcases cases7 with ⟨rfl, rfl⟩ | ⟨rfl, rfl⟩ | ⟨rfl, rfl⟩ | ⟨rfl, rfl⟩ | ⟨rfl, rfl⟩ | ⟨rfl, rfl⟩ | ⟨rfl, rfl⟩ | ⟨rfl, rfl⟩ | ⟨rfl, rfl⟩ | ⟨rfl, rfl⟩
  · exact s_callB call_len_seq servesLen hg hm PySem.boot_len ha (by decide) (by decide) he hpl
  · exact s_callB call_abs servesAbs hg hm (by decide +kernel) ha (by decide) (by decide) he hpl
  · exact s_callB (callR_or (callR_or (callR_or (cr_minL hcalm hu) (cr_minT hcalm hu)) (call_min2 hcalm)) (call_min3Nu hcalm)) servesMin hg hm (by decide +kernel) ha (by decide) (by decide) he hpl
  · exact s_callB (callR_or (callR_or (cr_maxL hcalm hu) (cr_maxT hcalm hu)) (call_max2 hcalm)) servesMax hg hm (by decide +kernel) ha (by decide) (by decide) he hpl
  · exact s_callB (callR_or (cr_all hcalm) (cr_allT hcalm)) servesAll hg hm (by decide +kernel) ha (by decide) (by decide) he hpl
  · exact s_callB (callR_or (cr_any hcalm) (cr_anyT hcalm)) servesAny hg hm (by decide +kernel) ha (by decide) (by decide) he hpl
  · exact s_callB (cr_sum hcalm) servesSum hg hm (by decide +kernel) ha (by decide) (by decide) he hpl
  · exact s_callT call_int1 servesInt hg hm (by decide +kernel) ha (by decide) (by decide) he hpl
  · exact s_callT call_list_of servesList hg hm (by decide +kernel) ha (by decide) (by decide) he hpl
  · exact s_callT call_tupleF servesTuple hg hm (by decide +kernel) ha (by decide) (by decide) he hpl
theorem s_listM {k : Unit} (hg : Gl X ("list" : Str)) (hm : X.mg ("list" : Str) = none) (ha : PA X [ea] (tEs X.K c as)) (he : starEach [ea] X.env = (false, eval ea X.env) :: starEach [] X.env) (hpl : (backTo pos (starEach [] X.env)).any (·.1) = false) : PE X (.Call (.Name "list" p) [ea] [] pos) (tE X.K c (.listM as)) :=
  (pe_callTy call_list_of hg hm (by decide +kernel) ha (by decide) (by decide) he hpl).imp fun σ H Q ⟨lm, σD, M, s, p⟩ => by
    unfold evE at p
    refine evL s p fun vs H1 ds M1 lm1 g p1 => ?_
    cases ds with
    | nil => exact p1.elim
    | cons d r =>
      cases r with
      | cons _ _ => exact p1.elim
      | nil =>
        cases q : itemsR M1 d with
        | none =>
          simp only [q] at p1
          exact p1.elim
        | some xs =>
          simp only [q] at p1
          obtain ⟨v, rfl, r⟩ := reps1 g.r
          obtain ⟨a, us, rfl, hs, hv⟩ := items_sq g.m.m r q
          refine ⟨a, us, rfl, hs, fun l n => p1 _ (lm1 ++ [l]) _ (ext_lm g.m.m n) (g.m.mk_ n hv) ⟨l, ?_, rfl, _, upd_same⟩⟩
          rw [← g.m.m.len, List.getElem?_append_right (Nat.le_refl _), Nat.sub_self]
          rfl
end
end Ev

end

/-! ## Ev7 -/
section
set_option Elab.async false
set_option linter.all false
set_option maxRecDepth 100000
set_option maxHeartbeats 1000000
/-! isinstance, list(range), methods. -/
namespace Ev
open PySem PySem.Spec PyProof.Rows L2
/-! ### argument lists without stars -/
theorem star_ne {e : Expr} {es : List Expr} {env : Env} (h : starB e = false) : starEach (e :: es) env = (false, eval e env) :: starEach es env := by
  cases e <;> first | rfl | cases h
def plainL : List Expr → Bool
  | [] => true
  | e :: r => !starB e && plainL r
theorem plain_cons {e : Expr} {es : List Expr} (h : plainL (e :: es) = true) : starB e = false ∧ plainL es = true := by
  unfold plainL at h
  simp only [Bool.and_eq_true, Bool.not_eq_true'] at h
  exact h
theorem back_any {pos : Pos} {env : Env} : ∀ {es : List Expr}, plainL es = true → (backTo pos (starEach es env)).any (·.1) = false
  | [], _ => rfl
  | e :: es, h => by
    obtain ⟨h1, h2⟩ := plain_cons h
    rw [star_ne h1]
    show (false || (backTo pos (starEach es env)).any (·.1)) = false
    rw [back_any h2]
    rfl
theorem back_all {pos : Pos} {env : Env} : ∀ {es : List Expr}, plainL es = true → (backTo pos (starEach es env)).all (fun x => !x.1) = true
  | [], _ => rfl
  | e :: es, h => by
    obtain ⟨h1, h2⟩ := plain_cons h
    rw [star_ne h1]
    show ((!false) && (backTo pos (starEach es env)).all (fun x => !x.1)) = true
    rw [back_all h2]
    rfl
theorem few_ok {pos : Pos} {env : Env} {es : List Expr} (h : plainL es = true) (hl : es.length < 29) : ((backTo pos (starEach es env)).all (fun x => !x.1) && (backToKw pos (keywordEach [] env)).all (fun x => x.1.isSome)
      && decide (es.length + ([] : List Keyword).length + (if ([] : List Keyword).isEmpty then 0 else 1) < 30)) = true := by
  rw [back_all h]
  show (true && true && decide (es.length + 0 + 0 < 30)) = true
  rw [decide_eq_true (by omega)] <;> rfl
/-! ### isinstance -/
inductive TN where | non | bool | int | str | list | tuple
  deriving DecidableEq
def TN.nm : TN → String
  | .non => "NoneType" | .bool => "bool" | .int => "int" | .str => "str" | .list => "list" | .tuple => "tuple"
def Ty.nm : Ty → String
  | .int => "int" | .bool => "bool" | .tuple => "tuple" | .list => "list" | .dict => "dict" | .str => "str"
def tab : TN → Ty → Bool
  | .bool, .int => true | .bool, .bool => true | .int, .int => true | .str, .str => true | .list, .list => true | .tuple, .tuple => true
  | _, _ => false
theorem kit_tab (a : TN) (y : Ty) : kitB a.nm y.nm = some (tab a y) := by cases a <;> cases y <;> decide +kernel
def D.tn : D → Option TN
  | .p .none => some .non
  | .p (.bool _) => some .bool
  | .p (.int _) => some .int
  | .p (.str _) => some .str
  | .p (.list _) => some .list
  | .p (.tuple _) => some .tuple
  | .loc _ => some .list
  | _ => none
theorem isTy_tn {d : D} {y : Ty} {b : Bool} (h : isTy d y = some b) : ∃ n, d.tn = some n ∧ tab n y = b := by
  cases d with
  | p d => cases d <;> cases y <;> first | (cases h; done) | (cases h; exact ⟨_, rfl, rfl⟩)
  | loc n => cases y <;> (cases h; exact ⟨_, rfl, rfl⟩)
  | dic t n => cases h
  | clo n => cases h
  | scr n => cases h
theorem isTys_tn {d : D} : ∀ {ys : List Ty} {b : Bool} {n : TN}, d.tn = some n → isTys d ys = some b → (ys.any fun y => tab n y) = b
  | [], b, n, _, h => by
    cases h
    rfl
  | y :: ys, b, n, hn, h => by
    have h : (isTy d y).bind (fun k => if k then some true else isTys d ys) = some b := h
    cases q : isTy d y with
    | none =>
      rw [q] at h
      cases h
    | some k =>
      rw [q] at h
      obtain ⟨m, e1, e2⟩ := isTy_tn q
      rw [hn] at e1
      cases e1
      rw [List.any_cons, e2]
      cases k with
      | true =>
        cases h
        rfl
      | false => exact isTys_tn hn h
theorem isTys_has {d : D} {y : Ty} {ys : List Ty} {b : Bool} (h : isTys d (y :: ys) = some b) : ∃ n, d.tn = some n := by
  have h : (isTy d y).bind (fun k => if k then some true else isTys d ys) = some b := h
  cases q : isTy d y with
  | none =>
    rw [q] at h
    cases h
  | some k =>
    obtain ⟨m, e1, _⟩ := isTy_tn q
    exact ⟨m, e1⟩
theorem kit_any {K : PySem.W.Frag} (n : TN) : ∀ ys : List Ty, PySem.W.kitAny K (.type n.nm) (ys.map fun y => Value.type y.nm) = some (ys.any fun y => tab n y)
  | [] => rfl
  | y :: ys => kitAny_cons (b := tab n y) (kit_ty (kit_tab n y)) (fun e => by rw [List.any_cons, e]; exact kit_any n ys) fun e => by rw [List.any_cons, e]; rfl
theorem tyX_of {K : PySem.W.Frag} {lm fs : List Addr} {H : Hp} {M : Mem} {d : D} {v : V} {n : TN} {w : World} (m : RelM K w lm H M) (r : Rep K lm fs H d v) (e : d.tn = some n) (hl : ∀ i, d = .loc i → i < M.length) : TyX K H v (.type n.nm) := by
  cases d with
  | p d =>
    have r : Dv K (Hx lm H) v d := r
    cases r with
    | non => cases e; exact .base .non
    | bl b => cases e; exact .base (.bl b)
    | int b => cases e; exact .base (.int b)
    | str b => cases e; exact .base (.str b)
    | lst hs ha => cases e; exact .base (.lst (Hx_some.mp hs).2)
    | tup hs ha =>
      cases e
      rcases hs with ⟨o, h, _⟩ | ⟨o, its, n, h1, h2, _⟩
      · exact .fTuple (Hx_some.mp h).2
      · exact .kTuple h1 h2
  | loc i =>
    cases e
    obtain ⟨a, e1, rfl, vs, e2⟩ := r
    exact .base (.lst e2)
  | dic t i => cases e
  | clo i => cases e
  | scr xs => cases e
section
variable {X : Cx} {c : Cv} {x : Str} {p pos : Pos} {a b : CE} {ea eb : Expr} {as : List CE} {es : List Expr} {T : Tc}
/-- what a name of the module means here -/
structure GlOk (X : Cx) (T : Tc) : Prop where
  gl : ∀ x, T.sc.names.lookup x = some .globalImplicit → Gl X x
  fr : ∀ x ∈ T.free, X.mg x = none
theorem boot_ty {y : Ty} (h : tyN.lookup x = some y) : bootBuiltins x = some (.type y.nm) ∧ x ≠ "__name__" ∧ (x == ("__debug__" : Str)) = false := by
  have := PySem.mem_of_lookup h
  simp only [tyN, List.mem_cons, Prod.mk.injEq, List.not_mem_nil, or_false] at this
  rcases this with ⟨rfl, rfl⟩ | ⟨rfl, rfl⟩ | ⟨rfl, rfl⟩ | ⟨rfl, rfl⟩ | ⟨rfl, rfl⟩ | ⟨rfl, rfl⟩ <;> exact ⟨by decide +kernel, by decide, by decide⟩
theorem glo_of (h : glo T x = true) : T.sc.names.lookup x = some .globalImplicit ∧ (x == ("__debug__" : Str)) = false ∧ (x == ("__classdict__" : Str)) = false ∧ x ≠ "__name__" := by
  unfold glo okName at h
  simp only [Bool.and_eq_true, decide_eq_true_eq] at h
  exact ⟨h.1, h.2.1.1, h.2.1.2, h.2.2⟩
theorem gloB_of (h : gloB T x = true) : glo T x = true ∧ x ∈ T.free := by
  unfold gloB at h
  simp only [Bool.and_eq_true, decide_eq_true_eq] at h
  exact h
theorem pe_ty (G : GlOk X T) {y : Ty} (h : chkTy T y ea = true) : PE X ea (tC (.ty y.nm)) := by
  cases ea with
  | Name x p =>
    unfold chkTy at h
    simp only [Bool.and_eq_true, decide_eq_true_eq] at h
    obtain ⟨g0, g5⟩ := gloB_of h.1
    obtain ⟨g1, _, _, g4⟩ := glo_of g0
    obtain ⟨b1, b2, b3⟩ := boot_ty h.2
    exact pe_bltn (G.gl x g1) (G.fr x g5) b1 rfl b2 b3
  | _ => cases h
/-- the answer, from the value -/
theorem isi_post {K : PySem.W.Frag} {σ : L2.St} {Q : VK} {lm : List Addr} {H : Hp} {d : D} {M : Mem} {ts : List Ty} {y : Ty} (p : Post K c σ Q lm H (R.opt M ((isTys d (y :: ts)).map fun k => .p (.bool k)))) (m : St K c.T lm H M) {v : V} (r : Rep K lm c.fs H d v) (hl : ∀ i, d = .loc i → i < M.length) :
    ∃ n, TyX K H v (.type n.nm) ∧ Post K c σ Q lm H (.ok (.p (.bool ((y :: ts).any fun y => tab n y))) M) := by
  cases q : isTys d (y :: ts) with
  | none =>
    rw [q] at p
    exact p.elim
  | some k =>
    rw [q] at p
    obtain ⟨n, e⟩ := isTys_has q
    exact ⟨n, tyX_of m.m r e hl, by rw [isTys_tn e q]; exact p⟩
theorem loc_lt {K : PySem.W.Frag} {T : Ti} {lm fs : List Addr} {H : Hp} {M : Mem} {d : D} {v : V} (m : St K T lm H M) (r : Rep K lm fs H d v) : ∀ i, d = .loc i → i < M.length := fun i e => by
  subst e
  obtain ⟨a, e, _⟩ := r
  rw [← m.m.len]
  exact (List.getElem?_eq_some_iff.mp e).1
theorem pa_types (G : GlOk X T) : ∀ {ts : List Ty} {es : List Expr}, chkTys T ts es = true → PA X es (fun _ H Q => Q (ts.map fun y => V.ty y.nm) H) ∧ plainL es = true
  | [], [], _ => ⟨pa_nil.imp fun σ H Q h => h, rfl⟩
  | y :: ts, e :: es, h => by
    unfold chkTys at h
    simp only [Bool.and_eq_true] at h
    obtain ⟨i1, i2⟩ := pa_types G h.2
    have hs : starB e = false := by
      have := h.1
      cases e <;> first | rfl | cases this
    exact ⟨(pa_cons (pe_ty G h.1) i1 (star_ne hs)).imp fun σ H Q q => q, by unfold plainL; rw [hs, i2]; rfl⟩
  | [], _ :: _, h => by cases h
  | _ :: _, [], h => by cases h
theorem paired_ty : ∀ ts : List Ty, Paired ClsV (ts.map fun y => V.ty y.nm) (ts.map fun y => Value.type y.nm)
  | [] => .nil
  | y :: ts => .cons (.ty y.nm) (paired_ty ts)
theorem s_isi (G : GlOk X T) {ts : List Ty} (hg : Gl X "isinstance") (hm : X.mg "isinstance" = none) (hne : ts ≠ []) (hz : ts.length ≤ sizeLine) (ha : PE X ea (tE X.K c a)) (hsa : starB ea = false) (ht : chkTyA T ts eb = true) : PE X (.Call (.Name "isinstance" p) [ea, eb] [] pos) (tE X.K c (.isi a ts)) := by
  obtain ⟨y, tr, rfl⟩ : ∃ y tr, ts = y :: tr := by
    cases ts with
    | nil => exact absurd rfl hne
    | cons y tr => exact ⟨y, tr, rfl⟩
  have hb1 : bootBuiltins "isinstance" = some (.builtin "isinstance") := by decide +kernel
  by_cases hT : ∃ xs k p2, eb = .Tuple xs k p2
  · obtain ⟨xs, k, p2, rfl⟩ := hT
    have ht : chkTys T (y :: tr) xs = true := ht
    obtain ⟨i1, i2⟩ := pa_types G ht
    refine (pe_callB call_isiT hg hm hb1 (pa_cons ha (pa_cons (pe_tup i1) pa_nil rfl) (star_ne hsa)) (by decide) (by decide) (star_ne hsa) (back_any (es := [.Tuple xs k p2]) rfl)).imp fun σ H Q h => ?_
    obtain ⟨lm, σD, M, s, p⟩ := h
    unfold evE at p
    refine ev1 s p fun v H1 d M1 lm1 g p1 => ?_
    refine ⟨by simpa using hz, fun q hq => ?_⟩
    have x1 := ext_new (lm := lm1) (o := .tup ((y :: tr).map fun y => V.ty y.nm)) hq
    obtain ⟨n, h1, h2⟩ := isi_post (p1.ext x1) (g.m.new hq) (x1.rep g.r) (loc_lt g.m g.r)
    exact ⟨v, q, _, .type n.nm, _, _, rfl, upd_same, paired_ty (y :: tr), h1, kit_any n (y :: tr), h2.here (g.m.new hq) (.bl _)⟩
  · have ht : chkTys T (y :: tr) [eb] = true := by
      cases eb <;> first | exact ht | exact absurd ⟨_, _, _, rfl⟩ hT
    have htr : tr = [] := by
      cases tr with
      | nil => rfl
      | cons _ _ =>
        unfold chkTys at ht
        simp only [Bool.and_eq_true] at ht
        cases ht.2
    subst htr
    unfold chkTys at ht
    simp only [Bool.and_eq_true] at ht
    have hsb : starB eb = false := by
      have := ht.1
      cases eb <;> first | rfl | cases this
    refine (pe_callB call_isi hg hm hb1 (pa_cons ha (pa_cons (pe_ty G ht.1) pa_nil (star_ne hsb)) (star_ne hsa)) (by decide) (by decide) (star_ne hsa) (back_any (es := [eb]) (by unfold plainL; rw [hsb]; rfl))).imp fun σ H Q h => ?_
    obtain ⟨lm, σD, M, s, p⟩ := h
    unfold evE at p
    refine ev1 s p fun v H1 d M1 lm1 g p1 => ?_
    obtain ⟨n, h1, h2⟩ := isi_post p1 g.m g.r (loc_lt g.m g.r)
    refine ⟨v, .ty y.nm, .type n.nm, .type y.nm, tab n y, rfl, .ty _, h1, kit_ty (kit_tab n y), ?_⟩
    have e : ([y].any fun y => tab n y) = tab n y := by simp
    rw [e] at h2
    exact h2.here g.m (.bl _)
/-! ### list(range(a, b)) -/
theorem rgV_rng {K : PySem.W.Frag} {H : Hp} (i : Int) : ∀ n : Nat, DvAll K H ((List.range n).map fun k => V.int (i + (k : Nat))) (rng i n) := by
  intro n
  unfold rng
  generalize List.range n = l
  induction l with
  | nil => exact .nil
  | cons k l ih => exact .cons (.int _) ih
theorem s_lrange {f g : Str} {p1 p2 p3 : Pos} (hcalm : X.calm = true) (hg1 : Gl X "list") (hm1 : X.mg "list" = none) (hg2 : Gl X "range") (hm2 : X.mg "range" = none) (ha : PE X ea (tE X.K c a)) (hb : PE X eb (tE X.K c b)) (hsa : starB ea = false) (hsb : starB eb = false) :
    PE X (.Call (.Name "list" p1) [.Call (.Name "range" p2) [ea, eb] [] p3] [] pos) (tE X.K c (.bi .lrange [a, b])) := by
  refine (pe_listRg hcalm hg1 hm1 (prg_2 hg2 hm2 ha hb (star_ne hsa) (star_ne hsb) (back_any (es := [eb]) (by unfold plainL; rw [hsb]; rfl))) rfl).imp fun σ H Q h => ?_
  obtain ⟨lm, σD, M, s, p⟩ := h
  unfold evE at p
  unfold evEs at p
  cases e1 : evE c.g a σD M with
  | bad =>
    rw [e1] at p
    exact p.elim
  | exc y M1 =>
    rw [e1] at p
    refine ⟨lm, σD, M, s, ?_⟩
    rw [e1]
    exact p
  | ok d M1 =>
    refine ⟨lm, σD, M, s, ?_⟩
    rw [e1] at p ⊢
    intro v lm1 H1 x1 m1 r1
    have p := Post.ext p x1
    refine ⟨lm1, σD, M1, s.ext x1 m1, ?_⟩
    unfold evEs at p
    cases e2 : evE c.g b σD M1 with
    | bad =>
      simp only [R.bind, e2] at p
      exact p.elim
    | exc y M2 =>
      simp only [R.bind, e2] at p
      exact p
    | ok e M2 =>
      simp only [R.bind, e2, evEs] at p
      intro u lm2 H2 x2 m2 r2
      have p := Post.ext p x2
      have r1 := x2.rep r1
      have key : ∀ i j, d.int? = some i → e.int? = some j → ∃ i' j', v = .int i' ∧ u = .int j' ∧ RgOk i' j' ∧ ∀ q, H2 q = none → Q (.ref q) (upd H2 q (.lst (rgV i' j'))) := fun i j hi hj => by
        rw [int_of r1 hi, int_of r2 hj]
        refine ⟨i, j, rfl, rfl, ?_⟩
        have hp : opBi M2 .lrange [d, e] = (d.int?.bind fun i => e.int?.bind fun j => if decide (0 ≤ i ∧ i ≤ 16777216 ∧ 0 ≤ j ∧ j ≤ 16777216) then some (.p (.list (rng i (j - i).toNat))) else none) := rfl
        rw [hp, hi] at p
        simp only [Option.bind, hj] at p
        split at p
        · rename_i hz
          have hz := of_decide_eq_true hz
          exact ⟨.of_le hz.1 hz.2.2.2 hz.2.1 hz.2.2.1, fun q n => p.new m2 n (.lst (Hx_some.mpr ⟨notin_lm m2.m n, upd_same⟩) (rgV_rng _ _))⟩
        · exact p.elim
      have hp : opBi M2 .lrange [d, e] = (d.int?.bind fun i => e.int?.bind fun j => if decide (0 ≤ i ∧ i ≤ 16777216 ∧ 0 ≤ j ∧ j ≤ 16777216) then some (.p (.list (rng i (j - i).toNat))) else none) := rfl
      cases hi : d.int? with
      | none =>
        rw [hp, hi] at p
        exact p.elim
      | some i =>
        cases hj : e.int? with
        | none =>
          rw [hp, hi] at p
          simp only [Option.bind, hj] at p
          exact p.elim
        | some j => exact key i j hi hj
theorem s_lrange1 {p1 p2 p3 : Pos} (hcalm : X.calm = true) (hg1 : Gl X "list") (hm1 : X.mg "list" = none) (hg2 : Gl X "range") (hm2 : X.mg "range" = none) (hb : PE X eb (tE X.K c b)) (hsb : starB eb = false) :
    PE X (.Call (.Name "list" p1) [.Call (.Name "range" p2) [eb] [] p3] [] pos) (tE X.K c (.bi .lrange [b])) := by
  refine (pe_listRg hcalm hg1 hm1 (prg_1 hg2 hm2 hb (star_ne hsb)) rfl).imp fun σ H Q h => ?_
  obtain ⟨lm, σD, M, s, p⟩ := h
  unfold evE at p
  unfold evEs at p
  cases e1 : evE c.g b σD M with
  | bad =>
    rw [e1] at p
    exact p.elim
  | exc y M1 =>
    rw [e1] at p
    refine ⟨lm, σD, M, s, ?_⟩
    rw [e1]
    exact p
  | ok d M1 =>
    refine ⟨lm, σD, M, s, ?_⟩
    rw [e1] at p ⊢
    intro v lm1 H1 x1 m1 r1
    have p := Post.ext p x1
    simp only [R.bind, evEs] at p
    have key : ∀ j, d.int? = some j → ∃ j', v = .int j' ∧ RgOk 0 j' ∧ ∀ q, H1 q = none → Q (.ref q) (upd H1 q (.lst (rgV 0 j'))) := fun j hj => by
      rw [int_of r1 hj]
      refine ⟨j, rfl, ?_⟩
      have hp : opBi M1 .lrange [d] = (d.int?.bind fun j => if decide (0 ≤ j ∧ j ≤ 16777216) then some (.p (.list (rng 0 j.toNat))) else none) := rfl
      rw [hp, hj] at p
      simp only [Option.bind] at p
      split at p
      · rename_i hz
        have hz := of_decide_eq_true hz
        have e0 : rng 0 j.toNat = rng 0 (j - 0).toNat := by rw [Int.sub_zero]
        rw [e0] at p
        exact ⟨.of_le (Int.le_refl 0) hz.2 (by decide) hz.1, fun q n => p.new m1 n (.lst (Hx_some.mpr ⟨notin_lm m1.m n, upd_same⟩) (rgV_rng _ _))⟩
      · exact p.elim
    have hp : opBi M1 .lrange [d] = (d.int?.bind fun j => if decide (0 ≤ j ∧ j ≤ 16777216) then some (.p (.list (rng 0 j.toNat))) else none) := rfl
    cases hi : d.int? with
    | none =>
      rw [hp, hi] at p
      exact p.elim
    | some i => exact key i hi
/-! ### methods -/
structure MethOk (X : Cx) (name : Str) (T id : String) (r : V → List V → Hp → VK → Prop) : Prop where
  pa : PlainAttrs T
  slot : Slot T name id
  hty : typeOf (.builtin id) = pure (.type "method_descriptor")
  hm : MtR X id r
def tySq (K : PySem.W.Frag) (T : String) (x : V) (H : Hp) : Prop := ∃ p xs, x = .ref p ∧ ((T = "list" ∧ SqL K H p xs) ∨ (T = "tuple" ∧ SqN K H p xs))
theorem tySq_is {pins : List (Addr × Obj)} {σ : L2.St} {H : Hp} {s : Shared} {T : String} {x : V} {v : Value} (I : Inv X pins σ H s) (r : RelV x v) (ty : tySq X.K T x H) :
    s.TypeIs v T ∧ ∀ a, v = .ref a → ∃ ob, s.heap.get? a = some ob ∧ ob.dict = none := by
  obtain ⟨p, xs, rfl, h⟩ := ty
  cases r
  rcases h with ⟨rfl, h⟩ | ⟨rfl, ⟨ob, h, hd⟩ | ⟨ob, its, n, h1, h2, h3, _⟩⟩
  · obtain ⟨its, _, pl, _⟩ := I.list h
    refine ⟨pl.isList.typeIs, fun a e => ?_⟩
    cases e
    obtain ⟨o, n, e, c, hd, _⟩ := pl
    exact ⟨o, e, hd⟩
  · obtain ⟨e, _, its, _, o2, e2, c2, _⟩ := (show ObjOk X.prog X.w H s.heap p (.frz ob (.tup xs)) from I.hok p _ h)
    rw [e] at e2
    cases e2
    refine ⟨⟨ob, e, c2⟩, fun a ea => ?_⟩
    cases ea
    exact ⟨ob, e, hd⟩
  · have e := I.kIn p ob h1
    refine ⟨⟨ob, e, h2⟩, fun a ea => ?_⟩
    cases ea
    exact ⟨ob, e, h3⟩
def tBMD (X : Cx) (name : Str) (to : TE) (t : TA) : TE := fun σ H Q => to σ H fun x H1 => ∃ T id r, MethOk X name T id r ∧ tySq X.K T x H1 ∧ t σ H1 fun xs H2 => r x xs H2 Q
theorem pe_bmD {o : Expr} {name : Str} {apos cpos : Pos} {to : TE} {as : List CE} (ho : PE X o to) (ha : PA X es (tEs X.K c as)) (hbase : attributeBase o name X.env (eval o X.env) = eval o X.env) (hp : plainL es = true) (hl : es.length < 29) (hn : es = [] → as = [])
    (hline : (apos.endLine == cpos.line) = true) : PE X (.Call (.Attribute o name apos) es [] cpos) (tBMD X name to (tEs X.K c as)) := by
  refine ⟨fun pins s σ H Q I h => ?_⟩
  refine wpAny_Call_method_late hbase (few_ok hp hl) hline rfl (thn (ho.run pins s σ H _ I h) fun v s1 ⟨x, H1, I1, r1, T, id, r, mk, ty, q1⟩ => ?_)
  obtain ⟨h1, h2⟩ := tySq_is I1 r1 ty
  refine ⟨T, id, mk.pa, mk.slot, mk.hty, h1, h2, ?_⟩
  cases es with
  | nil =>
    cases hn rfl
    obtain ⟨lm, σD, M, sm, p⟩ := q1
    unfold evEs at p
    exact Calls.callWith_builtin rfl (PySem.evalArgs_none (mk.hm pins s1 σ H1 x [] v [] Q I1 r1 .nil (p [] lm H1 (.refl _ _) sm.m trivial)))
  | cons e es =>
    have hA := ha.run cpos pins s1 σ H1 _ I1 q1
    obtain ⟨n1, n2⟩ := plain_cons hp
    have hpl : (backTo cpos (starEach (e :: es) X.env)).any (·.1) = false := back_any hp
    rw [star_ne n1] at hA hpl ⊢
    refine Calls.callWith_builtin hpl (Calls.evalArgs_plain ?_)
    exact thn hA fun us s2 ⟨vs, H2, I2, r2, q2⟩ => mk.hm pins s2 σ H2 x vs v us Q I2 r1 r2 q2
/-- how a method of the core is served, its receiver a value -/
theorem base_ok {o : Expr} {n : Str} (h : baseB o = true) : attributeBase o n X.env (eval o X.env) = eval o X.env := by
  cases o <;> first | rfl | cases h
theorem tySqL {K : PySem.W.Frag} {H : Hp} {a : Addr} {xs : List V} (h : SqL K H a xs) : tySq K "list" (.ref a) H := ⟨a, xs, rfl, .inl ⟨rfl, h⟩⟩
/-- a list of the memory: its object -/
theorem loc_at {T : Ti} {fs lm : List Addr} {K : PySem.W.Frag} {H : Hp} {M : Mem} {n : Nat} {v : V} {xs : List PyData} (m : St K T lm H M) (r : Rep K lm fs H (.loc n) v) (e : M[n]? = some xs) : ∃ a vs, lm[n]? = some a ∧ v = .ref a ∧ H a = some (.lst vs) ∧ DvAll K (Hx lm H) vs xs := by
  obtain ⟨a, e1, rfl, hk⟩ := r
  obtain ⟨vs, e2, h⟩ := (m.m.at_ n a xs e1 e).isL hk
  exact ⟨a, vs, e1, rfl, e2, h⟩
/-- a list of the memory stays a list -/
theorem loc_is {K : PySem.W.Frag} {T : Ti} {fs lm : List Addr} {H : Hp} {M : Mem} {n : Nat} {v : V} (m : St K T lm H M) (r : Rep K lm fs H (.loc n) v) : tySq K "list" v H := by
  have hl := loc_lt m r n rfl
  obtain ⟨a, vs, _, rfl, e, _⟩ := loc_at m r (List.getElem?_eq_getElem hl)
  exact tySqL (.of e)
theorem mk_append : MethOk X "append" "list" "list.append" rAppend := ⟨F.plainAttrs_list, F.slot_list_append, F.type_list_append, mt_append⟩
theorem mk_extend : MethOk X "extend" "list" "list.extend" rExtend := ⟨F.plainAttrs_list, F.slot_list_extend, F.type_list_extend, mt_extend⟩
theorem mk_pop : MethOk X "pop" "list" "list.pop" rPop := ⟨F.plainAttrs_list, F.slot_list_pop, F.type_list_pop, mt_pop⟩
theorem mk_countT (hu : X.A.units + 64 < cLine) : MethOk X "count" "tuple" "tuple.count" (rCountT X.K) := ⟨F.plainAttrs_tuple, F.slot_tuple_count, F.type_tuple_count, mt_countT hu⟩
theorem mk_countL (hu : X.A.units + 64 < cLine) : MethOk X "count" "list" "list.count" (rCountL X.K) := ⟨F.plainAttrs_list, F.slot_list_count, F.type_list_count, mt_countL hu⟩
/-! index -/
theorem dataPl_from {d : PyData} : ∀ {xs : List PyData} {k i : Nat}, dataPl d xs k = some i → ∃ z, k ≤ i ∧ xs[i - k]? = some z ∧ PyData.eqv z d = true ∧ ∀ m y, m < i - k → xs[m]? = some y → PyData.eqv y d = false
  | [], _, _, h => by cases h
  | x :: xs, k, i, h => by
    unfold dataPl at h
    split at h
    · rename_i hx
      cases h
      exact ⟨x, Nat.le_refl _, by rw [Nat.sub_self]; rfl, hx, fun m y hm _ => by omega⟩
    · rename_i hx
      obtain ⟨z, h1, h2, h3, h4⟩ := dataPl_from h
      have e : i - k = (i - (k + 1)) + 1 := by omega
      refine ⟨z, by omega, by rw [e]; exact h2, h3, fun m y hm hy => ?_⟩
      cases m with
      | zero =>
        cases hy
        simpa using hx
      | succ m => exact h4 m y (by omega) hy
theorem dataPl_at {d : PyData} {xs : List PyData} {i : Nat} (h : dataPl d xs 0 = some i) : ∃ z, xs[i]? = some z ∧ PyData.eqv z d = true ∧ ∀ m y, m < i → xs[m]? = some y → PyData.eqv y d = false := by
  obtain ⟨z, _, h2, h3, h4⟩ := dataPl_from h
  exact ⟨z, h2, h3, h4⟩
theorem flat_mem {xs : List PyData} {i : Nat} {z : PyData} (h : xs.all flatP = true) (e : xs[i]? = some z) : flatP z = true := List.all_eq_true.mp h _ (List.mem_of_getElem? e)
def rIndexT (K : PySem.W.Frag) : V → List V → Hp → VK → Prop := fun x xs H Q => ∃ (a : Addr) (ys : List V) (y : V) (j : Nat) (z : V), x = V.ref a ∧ xs = [y] ∧ SqT K H a ys ∧ flatV y = true ∧ ys.all flatV = true ∧ ys[j]? = some z ∧ eqV z y = true ∧ (∀ (m : Nat) (z' : V), m < j → ys[m]? = some z' → eqV z' y = false) ∧ Q (.int (j : Nat)) H
theorem mt_indexT : MtR X "tuple.index" (rIndexT X.K) := by
  intro pins s σ H x xs v us Q I rx rxs h
  obtain ⟨a, ys, y, j, z, rfl, rfl, hs, fy, fys, hz, hzj, hno, q⟩ := h
  cases rx
  obtain ⟨uy, rfl, ry⟩ := vals1 rxs
  obtain ⟨its, rv, pl, hlen⟩ := I.tuple hs
  obtain ⟨⟨cls, dd, dt, sl⟩, ho, hc, n, hd⟩ := pl
  simp only at hc hd
  subst hc
  subst hd
  obtain ⟨u, hu, ru⟩ := rv.get hz
  obtain ⟨hjl, hje⟩ := List.getElem?_eq_some_iff.mp hu
  have hj : j < its.toArray.size := by simpa using hjl
  refine call_meets PySem.F.slot_tuple_index ⟨_, ho, rfl⟩ PySem.F.entry_tuple_index (PySem.F.args_tuple_index_2 _ _) (TI.tuple_indexAt a its.toArray n dd sl uy (eqU y) j hj ?_ ?_)
    ⟨ho, fun w hw => mem_eqAt ry fy rv fys w (by simpa using hw), ⟨.int (j : Nat), H, I.tok _, ⟨_, rfl⟩, q⟩⟩
  · have e1 : its.toArray[j] = u := by simpa using hje
    have fz : flatV z = true := List.all_eq_true.mp fys _ (List.mem_of_getElem? hz)
    rw [e1, eqU_of ru fz]
    exact hzj
  · intro m hm hmj
    have hml : m < its.length := by simpa using hm
    have hmy : m < ys.length := by rw [rv.length]; exact hml
    obtain ⟨u', hu', ru'⟩ := rv.get (List.getElem?_eq_getElem hmy)
    obtain ⟨_, hue⟩ := List.getElem?_eq_some_iff.mp hu'
    have e1 : its.toArray[m] = u' := by simpa using hue
    have fz : flatV ys[m] = true := List.all_eq_true.mp fys _ (List.getElem_mem hmy)
    rw [e1, eqU_of ru' fz]
    exact hno m _ hmj (List.getElem?_eq_getElem hmy)
theorem mk_indexT : MethOk X "index" "tuple" "tuple.index" (rIndexT X.K) := ⟨F.plainAttrs_tuple, F.slot_tuple_index, F.type_tuple_index, mt_indexT⟩
theorem mk_indexL : MethOk X "index" "list" "list.index" (rIndex X.K) := ⟨F.plainAttrs_list, F.slot_list_index, F.type_list_index, mt_index⟩
/-- a list of the memory is written -/
theorem Post.set {K : PySem.W.Frag} {c : Cv} {σ : L2.St} {Q : VK} {lm : List Addr} {H : Hp} {M : Mem} {n : Nat} {a : Addr} {vs ws : List V} {xs : List PyData} {d : D} {u : V} (p : Post K c σ Q lm H (.ok d (M.set n xs))) (m : St K c.T lm H M) (e : lm[n]? = some a) (eH : H a = some (.lst ws)) (h : DvAll K (Hx lm H) vs xs)
    (r : Rep K lm c.fs (upd H a (.lst vs)) d u) : Q u (upd H a (.lst vs)) :=
  p u lm _ (ext_set (List.mem_of_getElem? e) (.lst ws vs eH)) (m.set e eH h) r
theorem me_val {σ : L2.St} {Q : VK} {lm : List Addr} {H : Hp} {M : Mem} {k : Me} {x : D} {ds : List D} (p : Post X.K c σ Q lm H (match opMe M k x ds with | some (d, M3) => .ok d M3 | none => .bad)) : ∃ d M3, opMe M k x ds = some (d, M3) ∧ Post X.K c σ Q lm H (.ok d M3) := by
  cases q : opMe M k x ds with
  | none =>
    rw [q] at p
    exact p.elim
  | some y =>
    rw [q] at p
    obtain ⟨d, M3⟩ := y
    exact ⟨d, M3, rfl, p⟩
theorem bind_some {α β : Type} {o : Option α} {f : α → Option β} {y : β} (h : o.bind f = some y) : ∃ a, o = some a ∧ f a = some y := by
  cases o with
  | none => cases h
  | some a => exact ⟨a, rfl, h⟩
theorem map_some {α β : Type} {o : Option α} {f : α → β} {y : β} (h : o.map f = some y) : ∃ a, o = some a ∧ f a = y := by
  cases o with
  | none => cases h
  | some a => exact ⟨a, rfl, Option.some.inj h⟩
theorem s_me (hu : X.A.units + 64 < cLine) {k : Me} {o : Expr} {name : Str} {apos cpos : Pos} (hk : meB k name = true) (ho : PE X o (tE X.K c a)) (ha : PA X es (tEs X.K c as)) (hbase : baseB o = true) (hp : plainL es = true) (hl : es.length < 29) (hn : es = [] → as = [])
    (hline : (apos.endLine == cpos.line) = true) : PE X (.Call (.Attribute o name apos) es [] cpos) (tE X.K c (.me k a as)) := by
  refine (pe_bmD ho ha (base_ok hbase) hp hl hn hline).imp fun σ H Q h => ?_
  obtain ⟨lm, σD, M, s, p⟩ := h
  unfold evE at p
  refine ev1 s p fun v H1 x M1 lm1 g p1 => ?_
  split at p1
  case isFalse => exact p1.elim
  rename_i hok
  have next : ∀ {R : List V → Hp → Prop}, (∀ vs H2 ds M2 lm2, GotL X.K c lm1 H1 lm2 H2 ds M2 vs → (∃ d M3, opMe M2 k x ds = some (d, M3) ∧ Post X.K c σ Q lm2 H2 (.ok d M3)) → R vs H2) → tEs X.K c as σ H1 R := fun h => evL (s.ext g.x g.m) p1 fun vs H2 ds M2 lm2 g2 p2 => h vs H2 ds M2 lm2 g2 (me_val p2)
  cases k with
  | append =>
    cases of_decide_eq_true hk
    cases x with
    | loc n =>
      refine ⟨_, _, _, mk_append, loc_is g.m g.r, next fun vs H2 ds M2 lm2 g2 ⟨d, M3, q, p2⟩ => ?_⟩
      have r := g2.x.rep g.r
      cases ds with
      | nil => cases q
      | cons d1 dr =>
        cases dr with
        | cons _ _ => cases d1 <;> cases q
        | nil =>
          cases d1 with
          | p d1 =>
            obtain ⟨u, rfl, r1⟩ := reps1 g2.r
            obtain ⟨xs, e1, q⟩ := bind_some q
            split at q
            · rename_i hz
              cases q
              obtain ⟨b, ws, e2, rfl, e3, hv⟩ := loc_at g2.m r e1
              exact ⟨b, ws, u, rfl, rfl, e3, by rw [hv.len]; exact hz, p2.set g2.m e2 e3 (hv.app (.one r1)) .non⟩
            · cases q
          | _ => cases q
    | _ => cases hok
  | extend =>
    cases of_decide_eq_true hk
    cases x with
    | loc n =>
      refine ⟨_, _, _, mk_extend, loc_is g.m g.r, next fun vs H2 ds M2 lm2 g2 ⟨d, M3, q, p2⟩ => ?_⟩
      have r := g2.x.rep g.r
      cases ds with
      | nil => cases q
      | cons d1 dr =>
        cases dr with
        | cons _ _ =>
          cases d1 with
          | p d1 => cases d1 <;> cases q
          | _ => cases q
        | nil =>
          cases d1 with
          | p d1 =>
            obtain ⟨u, rfl, r1⟩ := reps1 g2.r
            have r1 : Dv X.K (Hx lm2 H2) u d1 := r1
            cases r1 with
            | lst hs ha =>
              obtain ⟨xs, e1, q⟩ := bind_some q
              split at q
              · rename_i hz
                cases q
                obtain ⟨b, ws, e2, rfl, e3, hv⟩ := loc_at g2.m r e1
                exact ⟨b, _, ws, _, rfl, rfl, e3, (Hx_some.mp hs).2, by rw [hv.len, ha.len]; exact hz, p2.set g2.m e2 e3 (hv.app ha) .non⟩
              · cases q
            | _ => cases q
          | _ => cases q
    | _ => cases hok
  | pop =>
    cases of_decide_eq_true hk
    cases x with
    | loc n =>
      refine ⟨_, _, _, mk_pop, loc_is g.m g.r, next fun vs H2 ds M2 lm2 g2 ⟨d, M3, q, p2⟩ => ?_⟩
      have r := g2.x.rep g.r
      cases ds with
      | cons _ _ => cases q
      | nil =>
        have hvs : vs = [] := by
          cases vs with
          | nil => rfl
          | cons _ _ => exact g2.r.elim
        subst hvs
        obtain ⟨xs, e1, q⟩ := bind_some q
        obtain ⟨y, e4, q⟩ := map_some q
        cases q
        obtain ⟨b, ws, e2, rfl, e3, hv⟩ := loc_at g2.m r e1
        obtain ⟨w, e5, h5⟩ := hv.get e4
        refine ⟨b, ws, w, rfl, rfl, e3, by rw [hv.len]; exact e5, p2.set g2.m e2 e3 hv.dropLast ?_⟩
        exact (ext_set (lm := lm2) (List.mem_of_getElem? e2) (.lst ws _ e3)).up.dv _ _ h5
    | _ => cases hok
  | count =>
    cases of_decide_eq_true hk
    have hok : (itemsR M1 x).isSome = true := hok
    cases hi : itemsR M1 x with
    | none =>
      rw [hi] at hok
      cases hok
    | some xs1 =>
      have args : ∀ {vs H2 ds M2 lm2}, GotL X.K c lm1 H1 lm2 H2 ds M2 vs → (∃ d M3, opMe M2 .count x ds = some (d, M3) ∧ Post X.K c σ Q lm2 H2 (.ok d M3)) → ∃ u e xs, vs = [u] ∧ Dv X.K (Hx lm2 H2) u e ∧ itemsR M2 x = some xs ∧ (e.plain && (PyData.plainAll xs && decide (PyData.depthAll xs ≤ 60))) = true ∧ Q (.int (xs.countP fun y => PyData.eqv y e : Nat)) H2 := by
        intro vs H2 ds M2 lm2 g2 ⟨d, M3, q, p2⟩
        cases ds with
        | nil => cases x <;> cases q
        | cons d1 dr =>
          cases dr with
          | cons _ _ => cases x <;> cases d1 <;> cases q
          | nil =>
            cases d1 with
            | p d1 =>
              have q : ((itemsR M2 x).bind fun xs => if d1.plain && (PyData.plainAll xs && decide (PyData.depthAll xs ≤ 60)) then some (D.p (.int (xs.countP fun y => PyData.eqv y d1 : Nat)), M2) else none) = some (d, M3) := by
                cases x <;> exact q
              obtain ⟨u, rfl, r1⟩ := reps1 g2.r
              obtain ⟨xs, e1, q⟩ := bind_some q
              split at q
              · rename_i hz
                cases q
                exact ⟨u, d1, xs, rfl, r1, e1, hz, p2.here g2.m (.int _)⟩
              · cases q
            | _ => cases x <;> cases q
      obtain ⟨b, ws, rfl, hsq, hv⟩ := items_sq g.m.m g.r hi
      have plains : ∀ {e : PyData} {xs : List PyData}, (e.plain && (PyData.plainAll xs && decide (PyData.depthAll xs ≤ 60))) = true → PyData.plainAll xs = true ∧ e.plain = true ∧ PyData.depthAll xs ≤ 60 := fun h => by
        simp only [Bool.and_eq_true, decide_eq_true_eq] at h
        exact ⟨h.2.1, h.1, h.2.2⟩
      have dp : ∀ {H : Hp} {lm : List Addr} {u : V} {e : PyData}, Dv X.K (Hx lm H) u e → Dp X.K H u e := fun h => Dv.dp _ _ ((up_Hx _ _).dv _ _ h)
      have dpa : ∀ {H : Hp} {lm : List Addr} {u : List V} {e : List PyData}, DvAll X.K (Hx lm H) u e → DpAll X.K H u e := fun h => DvAll.dp _ _ ((up_Hx _ _).dvAll _ _ h)
      -- tuple or list
      by_cases ht : ∃ ts, x = .p (.tuple ts)
      · obtain ⟨ts, rfl⟩ := ht
        have r : Dv X.K (Hx lm1 H1) (.ref b) (.tuple ts) := g.r
        cases r with
        | tup hs ha =>
          refine ⟨_, _, _, mk_countT hu, ⟨b, _, rfl, .inr ⟨rfl, (up_Hx _ _).sqN hs⟩⟩, next fun vs H2 ds M2 lm2 g2 h2 => ?_⟩
          obtain ⟨u, e, xs, rfl, h3, h4, h5, h6⟩ := args g2 h2
          cases h4
          have hs2 := ((up_Hx lm2 H2).sqN (g2.x.up.sqN hs)).sqT
          obtain ⟨z1, z2, z3⟩ := plains h5
          exact ⟨b, u, _, e, _, rfl, rfl, hs2, dpa (g2.x.up.dvAll _ _ ha), dp h3, z1, z2, z3, h6⟩
      · have isL : ∀ {lm : List Addr} {H : Hp} {M : Mem} {xs : List PyData}, St X.K c.T lm H M → Rep X.K lm c.fs H x (.ref b) → itemsR M x = some xs → ∃ us, SqL X.K H b us ∧ DvAll X.K (Hx lm H) us xs := by
          intro lm H M xs m r e
          have e' : itemsL M x = some xs := by
            cases x with
            | p d => cases d <;> first | exact e | exact absurd ⟨_, rfl⟩ ht
            | _ => exact e
          obtain ⟨a2, us, ea, h1, h2⟩ := items_sqL m.m r e'
          cases ea
          exact ⟨us, h1, h2⟩
        obtain ⟨us, h1, h2⟩ := isL g.m g.r hi
        refine ⟨_, _, _, mk_countL hu, tySqL h1, next fun vs H2 ds M2 lm2 g2 h3 => ?_⟩
        obtain ⟨u, e, xs, rfl, h3, h4, h5, h6⟩ := args g2 h3
        obtain ⟨us2, h7, h8⟩ := isL g2.m (g2.x.rep g.r) h4
        obtain ⟨z1, z2, z3⟩ := plains h5
        exact ⟨b, u, us2, e, xs, rfl, rfl, h7, dpa h8, dp h3, z1, z2, z3, h6⟩
  | index =>
    cases of_decide_eq_true hk
    have hok : (itemsR M1 x).isSome = true := hok
    cases hi : itemsR M1 x with
    | none =>
      rw [hi] at hok
      cases hok
    | some xs1 =>
      have args : ∀ {vs H2 ds M2 lm2}, GotL X.K c lm1 H1 lm2 H2 ds M2 vs → (∃ d M3, opMe M2 .index x ds = some (d, M3) ∧ Post X.K c σ Q lm2 H2 (.ok d M3)) → ∃ u e xs i, vs = [u] ∧ Dv X.K (Hx lm2 H2) u e ∧ itemsR M2 x = some xs ∧ flatP e = true ∧ xs.all flatP = true ∧ dataPl e xs 0 = some i ∧ Q (.int (i : Nat)) H2 := by
        intro vs H2 ds M2 lm2 g2 ⟨d, M3, q, p2⟩
        cases ds with
        | nil => cases x <;> cases q
        | cons d1 dr =>
          cases dr with
          | cons _ _ => cases x <;> cases d1 <;> cases q
          | nil =>
            cases d1 with
            | p d1 =>
              have q : ((itemsR M2 x).bind fun xs => if flatP d1 && xs.all flatP then (dataPl d1 xs 0).map fun i => (D.p (.int (i : Nat)), M2) else none) = some (d, M3) := by
                cases x <;> exact q
              obtain ⟨u, rfl, r1⟩ := reps1 g2.r
              obtain ⟨xs, e1, q⟩ := bind_some q
              split at q
              · rename_i hz
                obtain ⟨i, e2, q⟩ := map_some q
                cases q
                rw [Bool.and_eq_true] at hz
                exact ⟨u, d1, xs, i, rfl, r1, e1, hz.1, hz.2, e2, p2.here g2.m (.int _)⟩
              · cases q
            | _ => cases x <;> cases q
      obtain ⟨b, ws, rfl, hsq, hv⟩ := items_sq g.m.m g.r hi
      -- tuple or list
      by_cases ht : ∃ ts, x = .p (.tuple ts)
      · obtain ⟨ts, rfl⟩ := ht
        have r : Dv X.K (Hx lm1 H1) (.ref b) (.tuple ts) := g.r
        cases r with
        | tup hs ha =>
          refine ⟨_, _, _, mk_indexT, ⟨b, _, rfl, .inr ⟨rfl, (up_Hx _ _).sqN hs⟩⟩, next fun vs H2 ds M2 lm2 g2 h2 => ?_⟩
          obtain ⟨u, e, xs, i, rfl, h3, h4, h5, h6, h7, h8⟩ := args g2 h2
          cases h4
          have hs2 := ((up_Hx lm2 H2).sqN (g2.x.up.sqN hs)).sqT
          have ha2 := g2.x.up.dvAll _ _ ha
          obtain ⟨z, z1, z2, z3⟩ := dataPl_at h7
          obtain ⟨w, w1, w2⟩ := ha2.get z1
          refine ⟨b, _, u, i, w, rfl, rfl, hs2, flat_dv h3 h5, flats_dv ha2 h6, w1, ?_, fun m y hm hy => ?_, h8⟩
          · rw [eqv_dv w2 h3 (flat_mem h6 z1) h5]
            exact z2
          · have hlt : m < ts.length := by have := (List.getElem?_eq_some_iff.mp z1).1; omega
            obtain ⟨w', v1, v2⟩ := ha2.get (List.getElem?_eq_getElem hlt)
            rw [hy] at v1
            cases v1
            rw [eqv_dv v2 h3 (flat_mem h6 (List.getElem?_eq_getElem hlt)) h5]
            exact z3 m _ hm (List.getElem?_eq_getElem hlt)
      · have isL : ∀ {lm : List Addr} {H : Hp} {M : Mem} {xs : List PyData}, St X.K c.T lm H M → Rep X.K lm c.fs H x (.ref b) → itemsR M x = some xs → ∃ us, SqL X.K H b us ∧ DvAll X.K (Hx lm H) us xs := by
          intro lm H M xs m r e
          have e' : itemsL M x = some xs := by
            cases x with
            | p d => cases d <;> first | exact e | exact absurd ⟨_, rfl⟩ ht
            | _ => exact e
          obtain ⟨a2, us, ea, h1, h2⟩ := items_sqL m.m r e'
          cases ea
          exact ⟨us, h1, h2⟩
        obtain ⟨us, h1, h2⟩ := isL g.m g.r hi
        refine ⟨_, _, _, mk_indexL, tySqL h1, next fun vs H2 ds M2 lm2 g2 h3 => ?_⟩
        obtain ⟨u, e, xs, i, rfl, h3, h4, h5, h6, h7, h8⟩ := args g2 h3
        obtain ⟨us2, hq, ha2⟩ := isL g2.m (g2.x.rep g.r) h4
        obtain ⟨z, z1, z2, z3⟩ := dataPl_at h7
        obtain ⟨w, w1, w2⟩ := ha2.get z1
        refine ⟨b, us2, u, i, w, rfl, rfl, hq, flat_dv h3 h5, flats_dv ha2 h6, w1, ?_, fun m y hm hy => ?_, h8⟩
        · rw [eqv_dv w2 h3 (flat_mem h6 z1) h5]
          exact z2
        · have hlt : m < xs.length := by have := (List.getElem?_eq_some_iff.mp z1).1; omega
          obtain ⟨w', v1, v2⟩ := ha2.get (List.getElem?_eq_getElem hlt)
          rw [hy] at v1
          cases v1
          rw [eqv_dv v2 h3 (flat_mem h6 (List.getElem?_eq_getElem hlt)) h5]
          exact z3 m _ hm (List.getElem?_eq_getElem hlt)
end
end Ev

end

/-! ## Ev8 -/
section
set_option Elab.async false
set_option linter.all false
set_option maxRecDepth 100000
set_option maxHeartbeats 1000000
/-! Iterables, targets, comprehensions. -/
namespace Ev
open PySem PySem.Spec PyProof.Rows L2
/-! ### what an iterable gives -/
def isMany : Tg → Bool
  | .one _ => false
  | .many _ => true
def Yv (t : Bool) (K : PySem.W.Frag) (H : Hp) (v : V) (d : PyData) : Prop := Dv K H v d ∨ (t = true ∧ ∃ p xs ds, v = .ref p ∧ d = .tuple ds ∧ SqT K H p xs ∧ DvAll K H xs ds)
/-- the iterator's items are ds, whatever the body does with the memory -/
def ItOk (t : Bool) (K : PySem.W.Frag) (T : Ti) (J : L2.It) (lm : List Addr) (H : Hp) (ds : List PyData) : Prop :=
  ∀ lm' H' M', Ext lm H lm' H' → St K T lm' H' M' → ∀ i : Nat, (ds.length ≤ i → J.stop i H') ∧
    ∀ d, ds[i]? = some d → J.go i H' ∧ ∀ x H2, J.yld i H' x H2 → Ext lm' H' lm' H2 ∧ St K T lm' H2 M' ∧ Yv t K (Hx lm' H2) x d
def PostI (t : Bool) (K : PySem.W.Frag) (c : Cv) (σ : L2.St) (Q : L2.It → Hp → Prop) (lm : List Addr) (H : Hp) : R (List PyData) → Prop
  | .ok ds M => ∀ J lm' H', Ext lm H lm' H' → St K c.T lm' H' M → ItOk t K c.T J lm' H' ds → Q J H'
  | .exc x M => ∀ cls dd lm' H', Ext lm H lm' H' → St K c.T lm' H' M → c.er x cls dd H' → c.W cls dd σ H'
  | .bad => False
def evI (g : G) (it : Ev.It) (args : List CE) (σ : Sg) (M : Mem) : R (List PyData) := (evEs g args σ M).bind fun ds M1 => R.opt M1 (itemsI M1 it ds)
def tI (t : Bool) (K : PySem.W.Frag) (c : Cv) (it : Ev.It) (args : List CE) : TI := fun σ H Q => ∃ lm σD M, Sim K c lm H σ σD M ∧ PostI t K c σ Q lm H (evI c.g it args σD M)
section
variable {K : PySem.W.Frag} {c : Cv} {σ : L2.St} {Q : L2.It → Hp → Prop} {lm lm' : List Addr} {H H' : Hp} {σD : Sg} {M : Mem} {t : Bool}
theorem PostI.ext {r : R (List PyData)} (p : PostI t K c σ Q lm H r) (x : Ext lm H lm' H') : PostI t K c σ Q lm' H' r := by
  cases r with
  | ok d M => exact fun J l2 H2 x2 m r => p J l2 H2 (x.trans x2) m r
  | exc y M => exact fun cls dd l2 H2 x2 m e => p cls dd l2 H2 (x.trans x2) m e
  | bad => exact p
theorem len1 {as : List CE} {g : G} {σ : Sg} {M M1 : Mem} {ds : List D} (h : evEs g as σ M = .ok ds M1) : ds.length = as.length := by
  induction as generalizing M M1 ds with
  | nil =>
    unfold evEs at h
    cases h
    rfl
  | cons a as ih =>
    unfold evEs at h
    cases e : evE g a σ M with
    | ok d M2 =>
      rw [e] at h
      simp only [R.bind] at h
      cases e2 : evEs g as σ M2 with
      | ok ds2 M3 =>
        rw [e2] at h
        cases h
        rw [List.length_cons, List.length_cons, ih e2]
      | exc _ _ => rw [e2] at h; cases h
      | bad => rw [e2] at h; cases h
    | exc _ _ => rw [e] at h; cases h
    | bad => rw [e] at h; cases h
theorem evIL {es : List CE} {k : List D → Mem → R (List PyData)} (s : Sim K c lm H σ σD M) (p : PostI t K c σ Q lm H ((evEs c.g es σD M).bind k)) {R : List V → Hp → Prop} (h : ∀ vs H1 ds M1 lm1, GotL K c lm H lm1 H1 ds M1 vs → ds.length = es.length → PostI t K c σ Q lm1 H1 (k ds M1) → R vs H1) : tEs K c es σ H R := by
  refine ⟨lm, σD, M, s, ?_⟩
  cases e : evEs c.g es σD M with
  | ok d M1 =>
    rw [e] at p
    exact fun v l1 H1 x m r => h v H1 d M1 l1 ⟨x, m, r⟩ (len1 e) (PostI.ext p x)
  | exc y M1 =>
    rw [e] at p
    exact p
  | bad =>
    rw [e] at p
    exact p
end
theorem _root_.L2.PI.imp {X : Cx} {tg e : Expr} {t t' : TI} (h : PI X tg e t) (w : ∀ σ H Q, t' σ H Q → t σ H Q) : PI X tg e t' := ⟨fun pins s σ H Q I hq => h.run pins s σ H Q I (w σ H Q hq)⟩
section
variable {K : PySem.W.Frag} {T : Ti} {lm : List Addr} {H : Hp} {t : Bool}
theorem sqL_get {K : PySem.W.Frag} {H : Hp} {a : Addr} {vs : List V} {ds : List PyData} (h : H a = some (.lst vs)) (hd : DvAll K H vs ds) {i : Nat} {d : PyData} (e : ds[i]? = some d) : ∃ v, vs[i]? = some v ∧ Dv K H v d := hd.get e
/-- over a list that is data -/
theorem it_lst {a : Addr} {vs : List V} {ds : List PyData} (hs : Hx lm H a = some (.lst vs)) (hd : DvAll K (Hx lm H) vs ds) : ItOk t K T (Itl K a) lm H ds := by
  intro lm' H' M' x m i
  have hs' := x.hx hs (fun ps z => by cases z)
  have hd' := x.up.dvAll _ _ hd
  have hq : SqL K H' a vs := .of (Hx_some.mp hs').2
  refine ⟨fun hi => ⟨vs, hq, by rw [hd.len]; exact hi⟩, fun d e => ?_⟩
  obtain ⟨v, e1, h1⟩ := hd'.get e
  refine ⟨⟨vs, v, hq, e1⟩, fun y H2 hy => ?_⟩
  obtain ⟨rfl, hy⟩ := hy
  have := hy vs hq
  rw [e1] at this
  cases this
  exact ⟨.refl _ _, m, .inl h1⟩
theorem it_tup {a : Addr} {vs : List V} {ds : List PyData} (hs : SqN K (Hx lm H) a vs) (hd : DvAll K (Hx lm H) vs ds) : ItOk t K T (Itt K a) lm H ds := by
  intro lm' H' M' x m i
  have hq : SqT K H' a vs := ((up_Hx lm' H').sqN (x.up.sqN hs)).sqT
  have hd' := x.up.dvAll _ _ hd
  refine ⟨fun hi => ⟨vs, hq, by rw [hd.len]; exact hi⟩, fun d e => ?_⟩
  obtain ⟨v, e1, h1⟩ := hd'.get e
  refine ⟨⟨vs, v, hq, e1⟩, fun y H2 hy => ?_⟩
  obtain ⟨rfl, hy⟩ := hy
  have := hy vs hq
  rw [e1] at this
  cases this
  exact ⟨.refl _ _, m, .inl h1⟩
theorem rng_get {lo : Int} {n i : Nat} {d : PyData} (e : (rng lo n)[i]? = some d) : i < n ∧ d = .int (lo + (i : Nat)) := by
  unfold rng at e
  rw [List.getElem?_map] at e
  by_cases hi : i < n
  · rw [List.getElem?_range hi] at e
    cases e
    exact ⟨hi, rfl⟩
  · rw [List.getElem?_eq_none (by rw [List.length_range]; omega)] at e
    cases e
theorem rng_len {lo : Int} {n : Nat} : (rng lo n).length = n := by
  unfold rng
  rw [List.length_map, List.length_range]
theorem it_rng {lo : Int} {n : Nat} : ItOk t K T (Itr lo n) lm H (rng lo n) := by
  intro lm' H' M' x m i
  refine ⟨fun hi => by rw [rng_len] at hi; exact hi, fun d e => ?_⟩
  obtain ⟨hi, rfl⟩ := rng_get e
  refine ⟨hi, fun y H2 hy => ?_⟩
  obtain ⟨rfl, rfl⟩ := hy
  exact ⟨.refl _ _, m, .inl (.int _)⟩
theorem it_down {lo : Int} {n : Nat} : ItOk t K T (Itc lo (-1) n) lm H ((List.range n).map fun (m : Nat) => .int (lo - m)) := by
  intro lm' H' M' x m i
  refine ⟨fun hi => by rw [List.length_map, List.length_range] at hi; exact hi, fun d e => ?_⟩
  rw [List.getElem?_map] at e
  by_cases hi : i < n
  · rw [List.getElem?_range hi] at e
    cases e
    refine ⟨hi, fun y H2 hy => ?_⟩
    obtain ⟨rfl, rfl⟩ := hy
    refine ⟨.refl _ _, m, .inl ?_⟩
    have e : lo + ((i : Nat) : Int) * (-1) = lo - (i : Nat) := by omega
    rw [e]
    exact .int _
  · rw [List.getElem?_eq_none (by rw [List.length_range]; omega)] at e
    cases e
theorem pairs_get {xs ys : List PyData} {i : Nat} : ∀ {d : PyData}, (pairs xs ys)[i]? = some d → ∃ a b, xs[i]? = some a ∧ ys[i]? = some b ∧ d = .tuple [a, b] := by
  induction xs generalizing ys i with
  | nil => intro d e; simp [pairs] at e
  | cons x xs ih =>
    cases ys with
    | nil => intro d e; simp [pairs] at e
    | cons y ys =>
      intro d e
      cases i with
      | zero =>
        simp [pairs] at e
        exact ⟨x, y, rfl, rfl, e.symm⟩
      | succ i =>
        obtain ⟨a, b, h⟩ := ih (ys := ys) (i := i) (d := d) (by simpa [pairs] using e)
        exact ⟨a, b, by simpa using h⟩
theorem pairs_len : ∀ (xs ys : List PyData), (pairs xs ys).length = min xs.length ys.length
  | [], ys => by simp [pairs]
  | x :: xs, [] => by simp [pairs]
  | x :: xs, y :: ys => by
    show (pairs xs ys).length + 1 = min (xs.length + 1) (ys.length + 1)
    rw [pairs_len xs ys]
    omega
theorem dv_pair {v u : V} {a b : PyData} {H : Hp} {lm : List Addr} {M : Mem} (m : St K T lm H M) {p : Addr} (n : H p = none) (h1 : Dv K (Hx lm H) v a) (h2 : Dv K (Hx lm H) u b) : Yv true K (Hx lm (upd H p (.tup [v, u]))) (.ref p) (.tuple [a, b]) :=
  .inr ⟨rfl, p, [v, u], [a, b], rfl, rfl, .of (Hx_some.mpr ⟨notin_lm m.m n, upd_same⟩), (ext_new n).up.dvAll _ _ (.cons h1 (.cons h2 .nil))⟩
theorem it_zipL {a b : Addr} {vs us : List V} {xs ys : List PyData} (h1 : Hx lm H a = some (.lst vs)) (h2 : Hx lm H b = some (.lst us)) (d1 : DvAll K (Hx lm H) vs xs) (d2 : DvAll K (Hx lm H) us ys) : ItOk true K T (Itz K a b) lm H (pairs xs ys) := by
  intro lm' H' M' x m i
  have q1 : SqL K H' a vs := .of (Hx_some.mp (x.hx h1 (fun ps z => by cases z))).2
  have q2 : SqL K H' b us := .of (Hx_some.mp (x.hx h2 (fun ps z => by cases z))).2
  refine ⟨fun hi => ⟨vs, us, q1, q2, ?_⟩, fun d e => ?_⟩
  · rw [pairs_len, ← d1.len, ← d2.len] at hi
    omega
  · obtain ⟨a1, b1, e1, e2, rfl⟩ := pairs_get e
    obtain ⟨v, f1, g1⟩ := (x.up.dvAll _ _ d1).get e1
    obtain ⟨u, f2, g2⟩ := (x.up.dvAll _ _ d2).get e2
    refine ⟨⟨vs, us, v, u, q1, q2, f1, f2⟩, fun y H2 hy => ?_⟩
    obtain ⟨p, v', u', rfl, n, rfl, k1, k2⟩ := hy
    have k1 := k1 vs q1
    have k2 := k2 us q2
    rw [f1] at k1
    rw [f2] at k2
    cases k1
    cases k2
    exact ⟨ext_new n, m.new n, dv_pair m n g1 g2⟩
theorem it_zipT {a b : Addr} {vs us : List V} {xs ys : List PyData} (h1 : SqN K (Hx lm H) a vs) (h2 : SqN K (Hx lm H) b us) (d1 : DvAll K (Hx lm H) vs xs) (d2 : DvAll K (Hx lm H) us ys) : ItOk true K T (RZ.ItzT K a b) lm H (pairs xs ys) := by
  intro lm' H' M' x m i
  have q1 : SqT K H' a vs := ((up_Hx lm' H').sqN (x.up.sqN h1)).sqT
  have q2 : SqT K H' b us := ((up_Hx lm' H').sqN (x.up.sqN h2)).sqT
  refine ⟨fun hi => ⟨vs, us, q1, q2, ?_⟩, fun d e => ?_⟩
  · rw [pairs_len, ← d1.len, ← d2.len] at hi
    omega
  · obtain ⟨a1, b1, e1, e2, rfl⟩ := pairs_get e
    obtain ⟨v, f1, g1⟩ := (x.up.dvAll _ _ d1).get e1
    obtain ⟨u, f2, g2⟩ := (x.up.dvAll _ _ d2).get e2
    refine ⟨⟨vs, us, v, u, q1, q2, f1, f2⟩, fun y H2 hy => ?_⟩
    obtain ⟨p, v', u', rfl, n, rfl, k1, k2⟩ := hy
    have k1 := k1 vs q1
    have k2 := k2 us q2
    rw [f1] at k1
    rw [f2] at k2
    cases k1
    cases k2
    exact ⟨ext_new n, m.new n, dv_pair m n g1 g2⟩
theorem enums_get {xs : List PyData} {i k : Nat} : ∀ {d : PyData}, (enums k xs)[i]? = some d → ∃ a, xs[i]? = some a ∧ d = .tuple [.int ((k + i : Nat) : Int), a] := by
  induction xs generalizing i k with
  | nil => intro d e; simp [enums] at e
  | cons x xs ih =>
    intro d e
    cases i with
    | zero =>
      simp [enums] at e
      exact ⟨x, rfl, e.symm⟩
    | succ i =>
      obtain ⟨a, h1, h2⟩ := ih (i := i) (k := k + 1) (d := d) (by simpa [enums] using e)
      exact ⟨a, by simpa using h1, by rw [h2]; congr 4; omega⟩
theorem enums_len : ∀ (xs : List PyData) (k : Nat), (enums k xs).length = xs.length
  | [], _ => rfl
  | x :: xs, k => by
    show (enums (k + 1) xs).length + 1 = xs.length + 1
    rw [enums_len xs (k + 1)]
theorem it_enum {a : Addr} {vs : List V} {xs : List PyData} (h1 : Hx lm H a = some (.lst vs)) (d1 : DvAll K (Hx lm H) vs xs) : ItOk true K T (Ite K a) lm H (enums 0 xs) := by
  intro lm' H' M' x m i
  have q1 : SqL K H' a vs := .of (Hx_some.mp (x.hx h1 (fun ps z => by cases z))).2
  refine ⟨fun hi => ⟨vs, q1, ?_⟩, fun d e => ?_⟩
  · rw [enums_len, ← d1.len] at hi
    exact hi
  · obtain ⟨a1, e1, rfl⟩ := enums_get e
    obtain ⟨v, f1, g1⟩ := (x.up.dvAll _ _ d1).get e1
    refine ⟨⟨vs, v, q1, f1⟩, fun y H2 hy => ?_⟩
    obtain ⟨p, v', rfl, n, rfl, k1⟩ := hy
    have k1 := k1 vs q1
    rw [f1] at k1
    cases k1
    refine ⟨ext_new n, m.new n, ?_⟩
    rw [Nat.zero_add]
    exact dv_pair m n (.int _) g1
end
/-! ### the iterables of the core -/
theorem optR {K : PySem.W.Frag} {c : Cv} {σ : L2.St} {Q : L2.It → Hp → Prop} {lm : List Addr} {H : Hp} {M : Mem} {t : Bool} {o : Option (List PyData)} (p : PostI t K c σ Q lm H (R.opt M o)) (m : St K c.T lm H M) : ∃ xs, o = some xs ∧ ∀ J, ItOk t K c.T J lm H xs → Q J H := by
  cases o with
  | none => exact p.elim
  | some xs => exact ⟨xs, rfl, fun J h => p J lm H (.refl _ _) m h⟩
theorem reps3 {K : PySem.W.Frag} {lm fs : List Addr} {H : Hp} {d e f : D} {vs : List V} (r : Reps K lm fs H [d, e, f] vs) : ∃ v u w, vs = [v, u, w] ∧ Rep K lm fs H d v ∧ Rep K lm fs H e u ∧ Rep K lm fs H f w := by
  cases vs with
  | nil => exact r.elim
  | cons v r2 =>
    obtain ⟨u, w, rfl, h1, h2⟩ := reps2 r.2
    exact ⟨v, u, w, rfl, r.1, h1, h2⟩
section
variable {X : Cx} {c : Cv} {tg e : Expr} {a : CE} {as : List CE} {es : List Expr} {pp pos : Pos} {t : Bool}
def iSeq (K : PySem.W.Frag) (tl : TE) : TI := fun σ H R => tl σ H fun x H1 => ∃ a, x = .ref a ∧ (((∃ xs, SqL K H1 a xs) ∧ R (Itl K a) H1) ∨ ((∃ xs, SqT K H1 a xs) ∧ R (Itt K a) H1))
theorem pi_seq {l : Expr} {tl : TE} (hl : PE X l tl) : PI X tg l (iSeq X.K tl) := by
  refine ⟨fun pins s σ H R I h => ?_⟩
  refine thn (hl.run pins s σ H _ I h) fun v s1 ⟨x, H1, I1, r1, q1⟩ => ?_
  obtain ⟨a, e, q1⟩ := q1
  subst e
  cases r1
  rcases q1 with ⟨⟨xs, hq⟩, q⟩ | ⟨⟨xs, hq⟩, q⟩
  · obtain ⟨its, rv, p, hz⟩ := I1.list hq
    refine wpAny_pyIter_list p.isList ?_
    refine ⟨s1.heap.objs.size, [s1.heap.objs.size], _, _, H1, rfl, I1.kept (t' := s1.toks) fun b o e => Heap.get?_push_of_some _ e, turn_list a _, ⟨_, Heap.get?_push_size _ rfl, rfl, rfl⟩, fun b hb => ?_, q⟩
    have e : b = s1.heap.objs.size := by simpa using hb
    subst e
    exact I1.fpOk (Nat.le_refl _) (I1.hok.fresh (Nat.le_refl _))
  · obtain ⟨its, rv, p, hz⟩ := I1.tuple hq
    refine wpAny_pyIter_tuple (show s1.heap.IsTuple a its.toArray from p) ?_
    refine ⟨s1.heap.objs.size, [s1.heap.objs.size], _, _, H1, rfl, I1.kept (t' := s1.toks) fun b o e => Heap.get?_push_of_some _ e, turn_tuple a _, ⟨_, Heap.get?_push_size _ rfl, rfl, rfl⟩, fun b hb => ?_, q⟩
    have e : b = s1.heap.objs.size := by simpa using hb
    subst e
    exact I1.fpOk (Nat.le_refl _) (I1.hok.fresh (Nat.le_refl _))
theorem evI1 {K : PySem.W.Frag} {c : Cv} {σ : L2.St} {Q : L2.It → Hp → Prop} {lm : List Addr} {H : Hp} {σD : Sg} {M : Mem} {t : Bool} {a : CE} {k : D → Mem → R (List PyData)} (s : Sim K c lm H σ σD M) (p : PostI t K c σ Q lm H ((evE c.g a σD M).bind k)) {R : VK} (h : ∀ v H1 d M1 lm1, Got K c lm H lm1 H1 d M1 v → PostI t K c σ Q lm1 H1 (k d M1) → R v H1) : tE K c a σ H R := by
  refine ⟨lm, σD, M, s, ?_⟩
  cases e : evE c.g a σD M with
  | ok d M1 =>
    rw [e] at p
    exact fun v l1 H1 x m r => h v H1 d M1 l1 ⟨x, m, r⟩ (PostI.ext p x)
  | exc y M1 =>
    rw [e] at p
    exact p
  | bad =>
    rw [e] at p
    exact p
theorem bind_assoc {α β γ : Type} (r : R α) (f : α → Mem → R β) (g : β → Mem → R γ) : (r.bind f).bind g = r.bind fun a M => (f a M).bind g := by
  cases r <;> rfl
theorem i_seq (ha : PE X e (tE X.K c a)) : PI X tg e (tI t X.K c .seq [a]) := by
  refine (pi_seq ha).imp fun σ H Q ⟨lm, σD, M, s, p⟩ => ?_
  unfold evI at p
  have e0 : evEs c.g [a] σD M = (evE c.g a σD M).bind fun d M1 => .ok [d] M1 := rfl
  rw [e0, bind_assoc] at p
  refine evI1 s p fun v H1 d M1 lm1 g p1 => ?_
  obtain ⟨xs, e1, q⟩ := optR p1 g.m
  cases d with
  | p d =>
    have r : Dv X.K (Hx lm1 H1) v d := g.r
    cases r with
    | lst hs ha =>
      cases e1
      exact ⟨_, rfl, .inl ⟨⟨_, .of (Hx_some.mp hs).2⟩, q _ (it_lst hs ha)⟩⟩
    | tup hs ha =>
      cases e1
      exact ⟨_, rfl, .inr ⟨⟨_, ((up_Hx _ _).sqN hs).sqT⟩, q _ (it_tup hs ha)⟩⟩
    | _ => cases e1
  | _ => cases e1
theorem two_len {vs : List V} {ds : List D} {K : PySem.W.Frag} {lm fs : List Addr} {H : Hp} (r : Reps K lm fs H ds vs) {n : Nat} (h : vs.length = n) : ds.length = n := by rw [r.len, h]
theorem small_of {i : Int} (h : small62 i = true) : -(2 ^ 62) ≤ i ∧ i < 2 ^ 62 := of_decide_eq_true h
theorem len_one {ds : List D} {a : CE} (h : ds.length = [a].length) : ∃ d, ds = [d] := by
  cases ds with
  | nil => cases h
  | cons d r =>
    cases r with
    | nil => exact ⟨d, rfl⟩
    | cons _ _ => simp at h
theorem len_two {ds : List D} {a b : CE} (h : ds.length = [a, b].length) : ∃ d e, ds = [d, e] := by
  cases ds with
  | nil => cases h
  | cons d r =>
    obtain ⟨e, rfl⟩ := len_one (a := b) (ds := r) (by simpa using h)
    exact ⟨d, e, rfl⟩
theorem len_three {ds : List D} {a b a2 : CE} (h : ds.length = [a, b, a2].length) : ∃ d e f, ds = [d, e, f] := by
  cases ds with
  | nil => cases h
  | cons d r =>
    obtain ⟨e, f, rfl⟩ := len_two (a := b) (b := a2) (ds := r) (by simpa using h)
    exact ⟨d, e, f, rfl⟩
theorem dInt {K : PySem.W.Frag} {lm fs : List Addr} {H : Hp} {v : V} {i : Int} (r : Rep K lm fs H (.p (.int i)) v) : v = .int i := int_of r rfl
theorem i_rng1 {a1 : CE} (hg : Gl X "range") (hm : X.mg "range" = none) (ha : PA X [e] (tEs X.K c [a1])) (hs : starB e = false) : PI X tg (.Call (.Name "range" pp) [e] [] pos) (tI t X.K c .range [a1]) := by
  refine (pi_range1 hg hm ha (star_ne hs)).imp fun σ H Q ⟨lm, σD, M, s, p⟩ => ?_
  unfold evI at p
  refine evIL s p fun vs H1 ds M1 lm1 g hl p1 => ?_
  obtain ⟨d, rfl⟩ := len_one hl
  obtain ⟨v, rfl, r⟩ := reps1 g.r
  obtain ⟨xs, e1, q⟩ := optR p1 g.m
  cases d with
  | p d =>
    cases d with
    | int j =>
      have e1 : (if small62 j then some (rng 0 j.toNat) else none) = some xs := e1
      split at e1
      · rename_i hz
        cases e1
        rw [dInt r]
        exact ⟨j, rfl, (small_of hz).1, (small_of hz).2, q _ it_rng⟩
      · cases e1
    | _ => cases e1
  | _ => cases e1
theorem i_rng2 {a1 a2 : CE} {e2 : Expr} (hg : Gl X "range") (hm : X.mg "range" = none) (ha : PA X [e, e2] (tEs X.K c [a1, a2])) (hs : starB e = false) (hs2 : starB e2 = false) : PI X tg (.Call (.Name "range" pp) [e, e2] [] pos) (tI t X.K c .range [a1, a2]) := by
  refine (pi_range2 hg hm ha (by rw [star_ne hs, star_ne hs2]; rfl) (by rw [star_ne hs2]; rfl)).imp fun σ H Q ⟨lm, σD, M, s, p⟩ => ?_
  unfold evI at p
  refine evIL s p fun vs H1 ds M1 lm1 g hl p1 => ?_
  obtain ⟨d, d2, rfl⟩ := len_two hl
  obtain ⟨v, u, rfl, r, r2⟩ := reps2 g.r
  obtain ⟨xs, e1, q⟩ := optR p1 g.m
  cases d with
  | p d =>
    cases d with
    | int i =>
      cases d2 with
      | p d2 =>
        cases d2 with
        | int j =>
          have e1 : (if (small62 i && small62 j) = true then some (rng i (j - i).toNat) else none) = some xs := e1
          split at e1
          · rename_i hz
            cases e1
            simp only [Bool.and_eq_true] at hz
            rw [dInt r, dInt r2]
            exact ⟨i, j, rfl, ⟨(small_of hz.1).1, (small_of hz.1).2, (small_of hz.2).1, (small_of hz.2).2⟩, q _ it_rng⟩
          · cases e1
        | _ => cases e1
      | _ => cases e1
    | _ => cases d2 <;> cases e1
  | _ => cases e1
theorem i_rng3 {a1 a2 a3 : CE} {e2 e3 : Expr} (hg : Gl X "range") (hm : X.mg "range" = none) (ha : PA X [e, e2, e3] (tEs X.K c [a1, a2, a3])) (hp : plainL [e, e2, e3] = true) : PI X tg (.Call (.Name "range" pp) [e, e2, e3] [] pos) (tI t X.K c .range [a1, a2, a3]) := by
  obtain ⟨hs, hp2⟩ := plain_cons hp
  refine (pi_range3 hg hm ha (star_ne hs) (back_any hp2)).imp fun σ H Q ⟨lm, σD, M, s, p⟩ => ?_
  unfold evI at p
  refine evIL s p fun vs H1 ds M1 lm1 g hl p1 => ?_
  obtain ⟨d, d2, d3, rfl⟩ := len_three hl
  obtain ⟨v, u, w, rfl, r, r2, r3⟩ := reps3 g.r
  obtain ⟨xs, e1, q⟩ := optR p1 g.m
  cases d with
  | p d =>
    cases d with
    | int i =>
      cases d2 with
      | p d2 =>
        cases d2 with
        | int j =>
          cases d3 with
          | p d3 =>
            cases d3 with
            | int k =>
              have e1 : (if (small62 i && small62 j && decide (k = -1)) = true then some ((List.range (i - j).toNat).map fun (m : Nat) => PyData.int (i - m)) else none) = some xs := e1
              split at e1
              · rename_i hz
                cases e1
                simp only [Bool.and_eq_true, decide_eq_true_eq] at hz
                obtain ⟨⟨h1, h2⟩, rfl⟩ := hz
                rw [dInt r, dInt r2, dInt r3]
                exact ⟨i, j, -1, (i - j).toNat, rfl, .neg (small_of h1).1 (small_of h1).2 (small_of h2).1 (small_of h2).2, q _ it_down⟩
              · cases e1
            | _ => cases e1
          | _ => cases e1
        | _ => cases e1
      | _ => cases e1
    | _ => cases e1
  | _ => cases e1
theorem i_zip {a1 a2 : CE} {e2 : Expr} {elts : List Expr} {kk : Nat} {tpos : Pos} (hg : Gl X "zip") (hm : X.mg "zip" = none) (ha : PA X [e, e2] (tEs X.K c [a1, a2])) (hs : starB e = false) (hs2 : starB e2 = false) : PI X (.Tuple elts kk tpos) (.Call (.Name "zip" pp) [e, e2] [] pos) (tI true X.K c .zip [a1, a2]) := by
  refine (RZ.pi_zipA hg hm ha (star_ne hs) (back_any (es := [e2]) (by unfold plainL; rw [hs2]; rfl))).imp fun σ H Q ⟨lm, σD, M, s, p⟩ => ?_
  unfold evI at p
  refine evIL s p fun vs H1 ds M1 lm1 g hl p1 => ?_
  obtain ⟨d, d2, rfl⟩ := len_two hl
  obtain ⟨v, u, rfl, r, r2⟩ := reps2 g.r
  obtain ⟨xs, e1, q⟩ := optR p1 g.m
  cases d with
  | p d =>
    cases d2 with
    | p d2 =>
      have r : Dv X.K (Hx lm1 H1) v d := r
      have r2 : Dv X.K (Hx lm1 H1) u d2 := r2
      cases r with
      | lst h1 g1 =>
        cases r2 with
        | lst h2 g2 =>
          cases e1
          exact ⟨_, _, _, _, rfl, .inl ⟨.of (Hx_some.mp h1).2, .of (Hx_some.mp h2).2, q _ (it_zipL h1 h2 g1 g2)⟩⟩
        | _ => cases e1
      | tup h1 g1 =>
        cases r2 with
        | tup h2 g2 =>
          cases e1
          exact ⟨_, _, _, _, rfl, .inr ⟨((up_Hx _ _).sqN h1).sqT, ((up_Hx _ _).sqN h2).sqT, q _ (it_zipT h1 h2 g1 g2)⟩⟩
        | _ => cases e1
      | _ => cases e1
    | _ => cases d <;> cases e1
  | _ => cases e1
theorem i_enum {a1 : CE} {elts : List Expr} {kk : Nat} {tpos : Pos} (hg : Gl X "enumerate") (hm : X.mg "enumerate" = none) (ha : PA X [e] (tEs X.K c [a1])) (hs : starB e = false) : PI X (.Tuple elts kk tpos) (.Call (.Name "enumerate" pp) [e] [] pos) (tI true X.K c .enum [a1]) := by
  refine (pi_enum hg hm ha (star_ne hs)).imp fun σ H Q ⟨lm, σD, M, s, p⟩ => ?_
  unfold evI at p
  refine evIL s p fun vs H1 ds M1 lm1 g hl p1 => ?_
  obtain ⟨d, rfl⟩ := len_one hl
  obtain ⟨v, rfl, r⟩ := reps1 g.r
  obtain ⟨xs, e1, q⟩ := optR p1 g.m
  cases d with
  | p d =>
    have r : Dv X.K (Hx lm1 H1) v d := r
    cases r with
    | lst h1 g1 =>
      cases e1
      exact ⟨_, _, rfl, .of (Hx_some.mp h1).2, q _ (it_enum h1 g1)⟩
    | _ => cases e1
  | _ => cases e1
end
end Ev

end

/-! ## Ev9 -/
section
set_option Elab.async false
set_option linter.all false
set_option maxRecDepth 100000
set_option maxHeartbeats 1000000
/-! Targets, comprehensions. -/
namespace Ev
open PySem PySem.Spec PyProof.Rows L2
structure Fit (X : Cx) (t : Tc) : Prop where
  N : X.N = t.N
  nd : X.N.Nodup
  sc : X.env.scope = t.sc
  calm : X.calm = true
  units : X.A.units + 64 < cLine
  fr : ∀ x ∈ t.free, X.mg x = none
  nums : ∀ x i, t.nums.lookup x = some i → ∃ tk, X.mg x = some (.int i tk)
  top : t.cs = none → t.top = true → ∀ x, t.sc.names.lookup x = some .cell → X.fn x = true
  own : ∀ s, t.cs = some s → ∀ x, s.names.lookup x = some .cell → X.fn x = true
theorem Fit.gl {X : Cx} {t : Tc} (F : Fit X t) {x : Str} (h : t.sc.names.lookup x = some .globalImplicit) : Gl X x := by
  show X.env.scope.names.lookup x = _
  rw [F.sc]
  exact h
theorem Fit.glob {X : Cx} {t : Tc} (F : Fit X t) : GlOk X t := ⟨fun x h => F.gl h, F.fr⟩
theorem Fit.w {X : Cx} {t : Tc} (F : Fit X t) {i : Nat} {x : Str} (h : chkW t i x = true) : X.N[i]? = some x ∧ Loc X.env.scope x ∧ (X.fn x = true ∨ X.env.scope.names.lookup x = some .local) := by
  unfold chkW at h
  simp only [Bool.and_eq_true, Bool.or_eq_true, decide_eq_true_eq] at h
  rw [F.N, F.sc]
  refine ⟨h.1, ?_⟩
  rcases h.2 with h2 | ⟨h2, h3⟩
  · exact ⟨.inl h2, .inr h2⟩
  · refine ⟨.inr h2, .inl ?_⟩
    split at h3
    · rename_i e
      exact F.top e h3 x h2
    · rename_i s e
      exact F.own s e x (of_decide_eq_true h3)
/-! ### targets -/
section
variable {K : PySem.W.Frag} {lm fs : List Addr} {H : Hp}
theorem RelS.set {σ : L2.St} {σD : Sg} (r : RelS K lm fs H σ σD) {i : Nat} {d : D} {v : V} (h : Rep K lm fs H d v) : RelS K lm fs H (σ.set i (some v)) (σD.set i (some d)) := by
  refine ⟨by rw [List.length_set, List.length_set]; exact r.1, fun j e hj => ?_⟩
  by_cases hi : i = j
  · subst hi
    by_cases hl : i < σD.length
    · rw [List.getElem?_set_self hl] at hj
      cases hj
      exact ⟨v, by rw [List.getElem?_set_self (by rw [r.1]; exact hl)], h⟩
    · rw [List.getElem?_eq_none (by rw [List.length_set]; omega)] at hj
      cases hj
  · rw [List.getElem?_set_ne hi] at hj ⊢
    exact r.2 j e hj
def setV : List Nat → List V → L2.St → L2.St
  | i :: is, v :: vs, σ => setV is vs (σ.set i (some v))
  | _, _, σ => σ
theorem setV_keep {j : Nat} : ∀ {is : List Nat} {vs : List V} {σ : L2.St}, j ∉ is → (setV is vs σ)[j]? = σ[j]?
  | [], _, _, _ => rfl
  | i :: is, [], _, _ => rfl
  | i :: is, v :: vs, σ, h => by
    have h1 : j ≠ i ∧ j ∉ is := by simpa using h
    show (setV is vs (σ.set i (some v)))[j]? = _
    rw [setV_keep h1.2, List.getElem?_set_ne (Ne.symm h1.1)]
theorem setV_len : ∀ {is : List Nat} {vs : List V} {σ : L2.St}, (setV is vs σ).length = σ.length
  | [], _, _ => rfl
  | i :: is, [], _ => rfl
  | i :: is, v :: vs, σ => by
    show (setV is vs (σ.set i (some v))).length = _
    rw [setV_len, List.length_set]
theorem relS_setAll : ∀ {is : List Nat} {vs : List V} {ds : List PyData} {σ : L2.St} {σD σD' : Sg}, RelS K lm fs H σ σD → DvAll K (Hx lm H) vs ds → setAll is ds σD = some σD' → RelS K lm fs H (setV is vs σ) σD' ∧ vs.length = is.length
  | [], vs, [], σ, σD, σD', r, h, e => by
    cases e
    cases h
    exact ⟨r, rfl⟩
  | i :: is, vs, d :: ds, σ, σD, σD', r, h, e => by
    cases h with
    | cons h1 h2 =>
      obtain ⟨r2, l2⟩ := relS_setAll (is := is) (r.set (i := i) (d := .p d) h1) h2 e
      exact ⟨r2, by rw [List.length_cons, List.length_cons, l2]⟩
  | [], _, _ :: _, _, _, _, _, _, e => by cases e
  | _ :: _, _, [], _, _, _, _, _, e => by cases e
end
/-- a target of the core -/
def gT (K : PySem.W.Frag) (c : Cv) (tg : Tg) : TG := fun v σ H Q => ∃ lm σD M d σD', Sim K c lm H σ σD M ∧ Yv (isMany tg) K (Hx lm H) v d ∧ bindT tg d σD = some σD' ∧
  ∀ σ', RelS K lm c.fs H σ' σD' → (∀ j, j ∉ tg.slots → σ'[j]? = σ[j]?) → σ'.length = σ.length → Q σ' H
def gNs (is : List Nat) : TGs := fun vs σ H Q => vs.length = is.length ∧ Q (setV is vs σ) H
theorem _root_.L2.PG.imp {X : Cx} {e : Expr} {t t' : TG} (h : PG X e t) (w : ∀ v σ H Q, t' v σ H Q → t v σ H Q) : PG X e t' := ⟨fun pins s σ H v u Q I r hq => h.run pins s σ H v u Q I r (w v σ H Q hq)⟩
theorem _root_.L2.PGs.imp {X : Cx} {e : List Expr} {t t' : TGs} (h : PGs X e t) (w : ∀ v σ H Q, t' v σ H Q → t v σ H Q) : PGs X e t' := ⟨fun pins s σ H v u Q I r hq => h.run pins s σ H v u Q I r (w v σ H Q hq)⟩
theorem pgs_names {X : Cx} {t : Tc} (F : Fit X t) : ∀ {is : List Nat} {es : List Expr}, chkNames t is es = true → PGs X es (gNs is) ∧ (assignEach es X.env).length = is.length ∧ (assignEach es X.env).findIdx? (·.1) = none
  | [], [], _ => by
    refine ⟨pgs_nil.imp fun vs σ H Q h => ?_, rfl, rfl⟩
    cases vs with
    | nil => exact ⟨rfl, h.2⟩
    | cons _ _ =>
      have := h.1
      cases this
  | i :: is, e :: es, h => by
    cases e with
    | Name x p =>
      unfold chkNames at h
      simp only [Bool.and_eq_true] at h
      obtain ⟨h1, h2, h3⟩ := F.w h.1
      obtain ⟨i1, i2, i3⟩ := pgs_names F h.2
      refine ⟨(pgs_cons (pg_name F.nd h1 h2 h3) i1 rfl).imp fun vs σ H Q h => ?_, ?_, ?_⟩
      · cases vs with
        | nil =>
          have := h.1
          cases this
        | cons v vs => exact ⟨v, vs, rfl, by simpa using h.1, h.2⟩
      · show (assignEach es X.env).length + 1 = is.length + 1
        rw [i2]
      · show List.findIdx? (fun x => x.1) ((false, assign (.Name x p) X.env) :: assignEach es X.env) = none
        rw [List.findIdx?_cons]
        simp only [Bool.false_eq_true, if_false]
        rw [i3]
        rfl
    | _ => cases h
  | [], _ :: _, h => by cases h
  | _ :: _, [], h => by cases h
theorem pg_of {X : Cx} {t : Tc} {c : Cv} (F : Fit X t) {tg : Tg} {e : Expr} (h : chkTg t tg e = true) : PG X e (gT X.K c tg) := by
  cases tg with
  | one i =>
    cases e with
    | Name x p =>
      obtain ⟨h1, h2, h3⟩ := F.w (show chkW t i x = true from h)
      refine (pg_name F.nd h1 h2 h3).imp fun v σ H Q ⟨lm, σD, M, d, σD', s, y, b, q⟩ => ?_
      cases b
      refine q _ (s.s.set ?_) (fun j hj => ?_) (List.length_set)
      · rcases y with y | ⟨y, _⟩
        · exact y
        · cases y
      · have hj : j ≠ i := by simpa [Tg.slots] using hj
        exact List.getElem?_set_ne (Ne.symm hj)
    | _ => cases h
  | many is =>
    cases e with
    | Tuple es k p =>
      obtain ⟨i1, i2, i3⟩ := pgs_names F (show chkNames t is es = true from h)
      refine (pg_tup F.calm i1 i2 i3).imp fun v σ H Q ⟨lm, σD, M, d, σD', s, y, b, q⟩ => ?_
      have hy : ∃ p xs ds, v = .ref p ∧ d = .tuple ds ∧ SqT X.K H p xs ∧ DvAll X.K (Hx lm H) xs ds := by
        rcases y with y | ⟨_, p, xs, ds, e1, e2, h1, h2⟩
        · cases y with
          | tup hs ha => exact ⟨_, _, _, rfl, rfl, ((up_Hx _ _).sqN hs).sqT, ha⟩
          | _ => cases b
        · exact ⟨p, xs, ds, e1, e2, (up_Hx _ _).sqT h1, h2⟩
      obtain ⟨p, xs, ds, rfl, rfl, h1, h2⟩ := hy
      obtain ⟨r1, l1⟩ := relS_setAll s.s h2 (show setAll is ds σD = some σD' from b)
      exact ⟨p, xs, rfl, h1, l1, l1, q _ r1 (fun j hj => setV_keep hj) setV_len⟩
    | _ => cases h
/-! ### the block of a comprehension -/
abbrev Cv.quiet (c : Cv) : Cv := { c with W := fun _ _ _ _ => False }
theorem fit_blk {X : Cx} {t : Tc} (F : Fit X t) {scope : Scope} {s : Shared} {H : Hp} {C : Addr} {cl : List (Str × Addr)} {fp : List Addr} : Fit (X.blk s H scope (compEnvC scope cl C X.env) fp) (inBlk t scope) := by
  refine ⟨F.N, F.nd, ?_, F.calm, F.units, F.fr, F.nums, fun e => (by cases e), fun s e x h => ?_⟩
  · show relS scope X.env.scope = relS scope t.sc
    rw [F.sc]
  · cases e
    show (scope.names.lookup x == some .cell) = true
    rw [h]
    rfl
def turnE (g : G) (tg : Tg) (own : List Nat) (conds : List CE) (elt : CE) (σ : Sg) : PyData → Mem → R (Option PyData) := fun x M2 => match bindT tg x (Ev.wipe σ own) with
  | some σ' => (evEs g conds σ' M2).bind fun ks M3 => match ks with
    | [] => (evE g elt σ' M3).bind fun d M4 => match d with
      | .p y => .ok (some y) M4
      | _ => .bad
    | [.p (.bool true)] => (evE g elt σ' M3).bind fun d M4 => match d with
      | .p y => .ok (some y) M4
      | _ => .bad
    | [.p (.bool false)] => .ok none M3
    | _ => .bad
  | none => .bad
theorem evE_comp (g : G) (tg : Tg) (it : Ev.It) (args conds : List CE) (own : List Nat) (elt : CE) (σ : Sg) (M : Mem) : evE g (.comp tg it args conds own elt) σ M = (evEs g args σ M).bind fun ds M1 => match itemsI M1 it ds with
    | some xs => compL M1.length (turnE g tg own conds elt σ) xs (M1 ++ [[]])
    | none => .bad := by
  unfold evE
  rfl
section
variable {K : PySem.W.Frag} {lm fs : List Addr} {H : Hp} {T : Ti}
theorem relS_wipe {σ : L2.St} {σD : Sg} (r : RelS K lm fs H σ σD) : ∀ vs : List Nat, RelS K lm fs H (L2.wipe σ vs) (Ev.wipe σD vs)
  | [] => r
  | v :: vs => by
    have ih := relS_wipe r vs
    show RelS K lm fs H ((L2.wipe σ vs).set v none) ((Ev.wipe σD vs).set v none)
    refine ⟨by rw [List.length_set, List.length_set]; exact ih.1, fun j e hj => ?_⟩
    by_cases hi : v = j
    · subst hi
      by_cases hl : v < (Ev.wipe σD vs).length
      · rw [List.getElem?_set_self hl] at hj
        cases hj
      · rw [List.getElem?_eq_none (by rw [List.length_set]; omega)] at hj
        cases hj
    · rw [List.getElem?_set_ne hi] at hj ⊢
      exact ih.2 j e hj
theorem wipe_not {σ : L2.St} {i : Nat} : ∀ {vs : List Nat}, i ∉ vs → (L2.wipe σ vs)[i]? = σ[i]?
  | [], _ => rfl
  | v :: vs, h => by
    have h1 : i ≠ v ∧ i ∉ vs := by simpa using h
    show ((L2.wipe σ vs).set v none)[i]? = _
    rw [List.getElem?_set_ne (Ne.symm h1.1), wipe_not h1.2]
theorem wipe_in {σ : L2.St} {i : Nat} : ∀ {vs : List Nat}, i ∈ vs → i < σ.length → (L2.wipe σ vs)[i]? = some none
  | v :: vs, h, hl => by
    show ((L2.wipe σ vs).set v none)[i]? = _
    by_cases hi : v = i
    · subst hi
      rw [List.getElem?_set_self (by rw [L2.wipe_length]; exact hl)]
    · rw [List.getElem?_set_ne hi]
      exact wipe_in ((List.mem_cons.mp h).resolve_left (fun e => hi e.symm)) hl
/-- what only the block's own slots tell apart is alike when they are forgotten -/
theorem wipe_alike {σ σ' : L2.St} {vs : List Nat} (hl : σ'.length = σ.length) (h : ∀ j, j ∉ vs → σ'[j]? = (L2.wipe σ vs)[j]?) : L2.wipe σ' vs = L2.wipe σ vs := by
  apply List.ext_getElem?
  intro j
  by_cases hj : j ∈ vs
  · by_cases hlt : j < σ.length
    · rw [wipe_in hj (by rw [hl]; exact hlt), wipe_in hj hlt]
    · rw [List.getElem?_eq_none (by rw [L2.wipe_length, hl]; omega), List.getElem?_eq_none (by rw [L2.wipe_length]; omega)]
  · rw [wipe_not hj, h j hj]
theorem hx_drop {l r : List Addr} : Up (Hx (l ++ r) H) (Hx l H) := fun a o e _ => by
  obtain ⟨n, e⟩ := Hx_some.mp e
  exact Hx_some.mpr ⟨fun h => n (List.mem_append_left _ h), e⟩
theorem relM_drop {l r : List Addr} {M : Mem} {w : World} (m : RelM K w (l ++ r) H M) : RelM K w l H (M.take l.length) := by
  have hl := m.len
  rw [List.length_append] at hl
  refine ⟨by rw [List.length_take]; omega, (List.nodup_append.mp m.nd).1, fun i a xs e1 e2 => ?_⟩
  have hi := (List.getElem?_eq_some_iff.mp e1).1
  rw [List.getElem?_take_of_lt hi] at e2
  exact hx_drop.cell (m.at_ i a xs (by rw [List.getElem?_append_left hi]; exact e1) e2)
theorem St.drop {l0 l r : List Addr} {M M0 : Mem} {H0 : Hp} (m : St K T (l ++ r) H M) (x : Ext l0 H0 l H) (m0 : St K T l0 H0 M0) : St K T l H (M.take l.length) := ⟨relM_drop m.m, m.t, T.mono _ _ _ _ x m0.j⟩
theorem Ext.drop {l0 l r : List Addr} {H0 : Hp} (x : Ext l0 H0 (l ++ r) H) (hp : ∃ more, l = l0 ++ more) : Ext l0 H0 l H :=
  ⟨hp, x.kind, fun a o n e t => let ⟨h1, h2⟩ := x.old a o n e t; ⟨fun h => h1 (List.mem_append_left _ h), h2⟩⟩
end
/-! ### comprehensions -/
def tCs (K : PySem.W.Frag) (c : Cv) : List CE → TT
  | [] => tYes
  | [k] => tT K c k
  | _ => fun _ _ _ => False
theorem take_set {M : Mem} {n : Nat} {acc acc' : List PyData} (e : M[n]? = some acc) : (M.take (n + 1)).set n acc' = M.take n ++ [acc'] := by
  have hn := (List.getElem?_eq_some_iff.mp e).1
  have h1 : M.take (n + 1) = M.take n ++ [acc] := by
    rw [List.take_succ, e]
    rfl
  rw [h1, List.set_append]
  have hl : (M.take n).length = n := by rw [List.length_take]; omega
  rw [if_neg (by omega), hl, Nat.sub_self]
  rfl
theorem take_keep {M : Mem} {n : Nat} {acc : List PyData} (e : M[n]? = some acc) : M.take (n + 1) = M.take n ++ [acc] := by
  rw [List.take_succ, e]
  rfl
theorem s_comp {X : Cx} {t : Tc} {c : Cv} {tg : Tg} {it : Ev.It} {args conds : List CE} {own : List Nat} {elt : CE} {tge iter elte : Expr} {ifs : List Expr} {scope : Scope} {own' : List (Str × Nat)} {pos : Pos} (F : Fit X t)
    (hi : PI X tge iter (tI (isMany tg) X.K c it args)) (ok : BlkOk X.N X.env.scope scope own') (ho : own'.map (·.2) = own)
    (hg : ∀ (s : Shared) (H : Hp) (C : Addr) (cl : List (Str × Addr)) (fp : List Addr), PG (X.blk s H scope (compEnvC scope cl C X.env) fp) tge (gT X.K c.quiet tg))
    (ht : ∀ (s : Shared) (H : Hp) (C : Addr) (cl : List (Str × Addr)) (fp : List Addr), PTs (X.blk s H scope (compEnvC scope cl C X.env) fp) ifs (tCs X.K c.quiet conds))
    (he : ∀ (s : Shared) (H : Hp) (C : Addr) (cl : List (Str × Addr)) (fp : List Addr), PE (X.blk s H scope (compEnvC scope cl C X.env) fp) elte (tE X.K c.quiet elt))
    (hsub : ∀ j ∈ tg.slots, j ∈ own) (hs : ∀ x, foldedSetIterable iter X.env x = pure x) (hcl : conds.length ≤ 1) :
    ∀ σ H Q, tE X.K c (.comp tg it args conds own elt) σ H Q → tLc (tI (isMany tg) X.K c it args) (gT X.K c.quiet tg) (tCs X.K c.quiet conds) (tE X.K c.quiet elt) (own'.map (·.2)) σ H Q := by
  intro σ H Q ⟨lm, σD, M, s, p⟩
  rw [evE_comp] at p
  rw [ho]
  refine ⟨lm, σD, M, s, ?_⟩
  unfold evI
  cases e0 : evEs c.g args σD M with
  | bad =>
    rw [e0] at p
    exact p.elim
  | exc y M1 =>
    rw [e0] at p
    exact p
  | ok ds M1 =>
    rw [e0] at p
    simp only [R.bind] at p ⊢
    cases e1 : itemsI M1 it ds with
    | none =>
      rw [e1] at p
      exact p.elim
    | some xs =>
      rw [e1] at p
      simp only at p
      intro J lm1 H1 x1 m1 iok D hD
      have p := Post.ext p x1
      have s1 := s.ext x1 m1
      have xD := ext_lm (o := .lst []) m1.m hD
      have mD := m1.mk_ hD (vs := []) (xs := []) .nil
      have ln : lm1.length = M1.length := m1.m.len
      -- the turns
      let Wb : Nat → Hp → Prop := fun i H' => Ext lm1 H1 (lm1 ++ [D]) H' ∧ IsLO (H' D) ∧ ∃ Mi, St X.K c.T (lm1 ++ [D]) H' Mi ∧ Post X.K c σ Q lm1 H1 (compL M1.length (turnE c.g tg own conds elt σD) (xs.drop i) Mi)
      refine ⟨fun i m H' => m = xs.length - i ∧ i ≤ xs.length ∧ Wb i H', ⟨xs.length, by simp, Nat.zero_le _, xD, ⟨_, upd_same⟩, _, mD, p⟩, ?_⟩
      rintro i m H' ⟨rfl, hi, xi, kD, Mi, mi, pi⟩
      obtain ⟨i1, i2⟩ := iok (lm1 ++ [D]) H' Mi xi mi i
      have lD : (lm1 ++ [D])[M1.length]? = some D := by rw [← ln, List.getElem?_append_right (Nat.le_refl _), Nat.sub_self]; rfl
      by_cases hlt : i < xs.length
      · have ex : xs[i]? = some xs[i] := List.getElem?_eq_getElem hlt
        obtain ⟨go, yl⟩ := i2 _ ex
        refine .inr ⟨go, Wb (i + 1), fun H3 h3 => ⟨xs.length - (i + 1), by omega, rfl, hlt, h3⟩, fun x H3 hy => ?_⟩
        obtain ⟨x3, m3, y3⟩ := yl x H3 hy
        have xi3 := xi.trans x3
        have kD3 := (x3.kind D (List.mem_of_getElem? lD)).l kD
        rw [List.drop_eq_getElem_cons hlt] at pi
        unfold compL at pi
        -- the target
        cases eb : bindT tg xs[i] (Ev.wipe σD own) with
        | none =>
          have : turnE c.g tg own conds elt σD xs[i] Mi = .bad := by unfold turnE; rw [eb]
          rw [this] at pi
          exact pi.elim
        | some σt =>
          have st : Sim X.K c.quiet (lm1 ++ [D]) H3 (L2.wipe σ own) (Ev.wipe σD own) Mi := ⟨relS_wipe (xi3.relS s1.s) own, m3⟩
          refine ⟨_, _, _, _, σt, st, y3, eb, fun σ2 r2 k2 l2 => ⟨?_, ?_⟩⟩
          · rw [L2.wipe_length] at l2
            exact wipe_alike l2 fun j hj => k2 j fun h => hj (hsub j h)
          have s2 : Sim X.K c.quiet (lm1 ++ [D]) H3 σ2 σt Mi := ⟨r2, m3⟩
          -- an item appended
          have app : ∀ {lm4 : List Addr} {H4 : Hp} {M4 : Mem} {v : V} {y : PyData}, Ext (lm1 ++ [D]) H3 lm4 H4 → St X.K c.T lm4 H4 M4 → Dv X.K (Hx lm4 H4) v y →
              Post X.K c σ Q lm1 H1 (match (R.ok (some y) M4 : R (Option PyData)) with
                | .ok o M' => (match M'[M1.length]? with
                  | some acc => (match o with
                    | some y => if acc.length < sizeLine then compL M1.length (turnE c.g tg own conds elt σD) (xs.drop (i + 1)) (M'.take M1.length ++ [acc ++ [y]]) else .bad
                    | none => compL M1.length (turnE c.g tg own conds elt σD) (xs.drop (i + 1)) (M'.take M1.length ++ [acc]))
                  | none => .bad)
                | _ => .bad) → ∃ acc, H4 D = some (.lst acc) ∧ acc.length < sizeLine ∧ Wb (i + 1) (upd H4 D (.lst (acc ++ [v]))) := by
            intro lm4 H4 M4 v y x4 m4 hv p4
            simp only at p4
            have lD4 := x4.get lD
            cases ea : M4[M1.length]? with
            | none =>
              rw [ea] at p4
              exact p4.elim
            | some acc =>
              rw [ea] at p4
              simp only at p4
              split at p4
              · rename_i hz
                obtain ⟨vs, e5, h5⟩ := (m4.m.at_ _ D acc lD4 ea).isL ((x4.kind D (List.mem_of_getElem? lD)).l kD3)
                obtain ⟨more, rfl⟩ := x4.more
                have m5 := m4.drop ((xi3.trans x4).drop ⟨[D], rfl⟩) m1
                have ll : (lm1 ++ [D]).length = M1.length + 1 := by rw [List.length_append, ln]; rfl
                rw [ll] at m5
                have m6 := m5.set lD e5 ((hx_drop.dvAll _ _ h5).app (.one (hx_drop.dv _ _ hv)))
                rw [take_set ea] at m6
                refine ⟨vs, e5, by rw [h5.len]; exact hz, (((xi3.trans x4).drop ⟨[D], rfl⟩).trans (ext_set (List.mem_of_getElem? lD) (.lst vs _ e5))), ⟨_, upd_same⟩, _, m6, p4⟩
              · exact p4.elim
          -- no item
          have skip : ∀ {lm4 : List Addr} {H4 : Hp} {M4 : Mem}, Ext (lm1 ++ [D]) H3 lm4 H4 → St X.K c.T lm4 H4 M4 →
              Post X.K c σ Q lm1 H1 (match (R.ok none M4 : R (Option PyData)) with
                | .ok o M' => (match M'[M1.length]? with
                  | some acc => (match o with
                    | some y => if acc.length < sizeLine then compL M1.length (turnE c.g tg own conds elt σD) (xs.drop (i + 1)) (M'.take M1.length ++ [acc ++ [y]]) else .bad
                    | none => compL M1.length (turnE c.g tg own conds elt σD) (xs.drop (i + 1)) (M'.take M1.length ++ [acc]))
                  | none => .bad)
                | _ => .bad) → Wb (i + 1) H4 := by
            intro lm4 H4 M4 x4 m4 p4
            simp only at p4
            cases ea : M4[M1.length]? with
            | none =>
              rw [ea] at p4
              exact p4.elim
            | some acc =>
              rw [ea] at p4
              obtain ⟨more, rfl⟩ := x4.more
              have m5 := m4.drop ((xi3.trans x4).drop ⟨[D], rfl⟩) m1
              have ll : (lm1 ++ [D]).length = M1.length + 1 := by rw [List.length_append, ln]; rfl
              rw [ll, take_keep ea] at m5
              exact ⟨(xi3.trans x4).drop ⟨[D], rfl⟩, (x4.kind D (List.mem_of_getElem? lD)).l kD3, _, m5, p4⟩
          -- the element, the tests done
          have elem : ∀ {lm4 : List Addr} {H4 : Hp} {M4 : Mem}, Ext (lm1 ++ [D]) H3 lm4 H4 → St X.K c.T lm4 H4 M4 →
              Post X.K c σ Q lm1 H1 (match (evE c.g elt σt M4).bind (fun d M4 => match d with | .p y => .ok (some y) M4 | _ => .bad) with
                | .ok o M' => (match M'[M1.length]? with
                  | some acc => (match o with
                    | some y => if acc.length < sizeLine then compL M1.length (turnE c.g tg own conds elt σD) (xs.drop (i + 1)) (M'.take M1.length ++ [acc ++ [y]]) else .bad
                    | none => compL M1.length (turnE c.g tg own conds elt σD) (xs.drop (i + 1)) (M'.take M1.length ++ [acc]))
                  | none => .bad)
                | _ => .bad) → tE X.K c.quiet elt σ2 H4 fun y H5 => ∃ acc, H5 D = some (.lst acc) ∧ acc.length < sizeLine ∧ Wb (i + 1) (upd H5 D (.lst (acc ++ [y]))) := by
            intro lm4 H4 M4 x4 m4 p4
            refine ⟨lm4, σt, M4, s2.ext x4 m4, ?_⟩
            cases ee : evE c.g elt σt M4 with
            | bad =>
              rw [ee] at p4
              exact p4.elim
            | exc y5 M5 =>
              rw [ee] at p4
              exact p4.elim
            | ok d M5 =>
              rw [ee] at p4
              intro v lm5 H5 x5 m5 r5
              cases d with
              | p y => exact app (x4.trans x5) m5 r5 p4
              | _ => exact p4.elim
          cases conds with
          | nil =>
            show (if true = true then (tE X.K c.quiet elt σ2 H3 fun y H5 => ∃ acc, H5 D = some (.lst acc) ∧ acc.length < sizeLine ∧ Wb (i + 1) (upd H5 D (.lst (acc ++ [y])))) else Wb (i + 1) H3)
            rw [if_pos rfl]
            have et : turnE c.g tg own [] elt σD xs[i] Mi = (evE c.g elt σt Mi).bind (fun d M4 => match d with | .p y => .ok (some y) M4 | _ => .bad) := by
              unfold turnE
              rw [eb]
              rfl
            rw [et] at pi
            exact elem (.refl _ _) m3 pi
          | cons k kr =>
            cases kr with
            | cons _ _ => simp at hcl
            | nil =>
              have et : turnE c.g tg own [k] elt σD xs[i] Mi = (evE c.g k σt Mi).bind (fun d M3 => match d with
                  | .p (.bool true) => (evE c.g elt σt M3).bind fun d M4 => match d with
                    | .p y => .ok (some y) M4
                    | _ => .bad
                  | .p (.bool false) => .ok none M3
                  | _ => .bad) := by
                unfold turnE
                rw [eb]
                simp only [evEs]
                cases evE c.g k σt Mi with
                | ok d M3 =>
                  cases d with
                  | p d =>
                    cases d with
                    | bool b => cases b <;> rfl
                    | _ => rfl
                  | _ => rfl
                | exc _ _ => rfl
                | bad => rfl
              rw [et] at pi
              refine ⟨_, σt, Mi, s2, ?_⟩
              cases ee : evE c.g k σt Mi with
              | bad =>
                rw [ee] at pi
                exact pi.elim
              | exc y5 M5 =>
                rw [ee] at pi
                exact pi.elim
              | ok d M5 =>
                rw [ee] at pi
                intro v lm5 H5 x5 m5 r5
                cases d with
                | p d =>
                  have r5 : Dv X.K (Hx lm5 H5) v d := r5
                  cases r5 with
                  | bl b =>
                    refine ⟨b, rfl, ?_⟩
                    cases b with
                    | true =>
                      refine (if_pos rfl).mpr ?_
                      exact elem x5 m5 pi
                    | false =>
                      refine (if_neg Bool.false_ne_true).mpr ?_
                      exact skip x5 m5 pi
                  | _ => exact pi.elim
                | _ => exact pi.elim
      · have hi2 : xs.length ≤ i := by omega
        refine .inl ⟨i1 hi2, ?_⟩
        rw [List.drop_eq_nil_of_le hi2] at pi
        unfold compL at pi
        cases ea : Mi[M1.length]? with
        | none =>
          rw [ea] at pi
          exact pi.elim
        | some acc =>
          rw [ea] at pi
          obtain ⟨vs, e5, h5⟩ := (mi.m.at_ _ D acc lD ea).isL kD
          have m6 := mi.drop (l := lm1) (r := [D]) (xi.drop ⟨[], by simp⟩) m1
          rw [ln] at m6
          refine pi (.ref D) lm1 H' (xi.drop ⟨[], by simp⟩) m6 (.lst (Hx_some.mpr ⟨notin_lm m1.m hD, e5⟩) (hx_drop.dvAll _ _ h5))
end Ev

end

/-! ## EvC -/
section
set_option Elab.async false
set_option linter.all false
set_option maxRecDepth 100000
set_option maxHeartbeats 2000000
/-! Closures with cells of their own: a lambda whose parameter a comprehension within it reads. -/
namespace Ev
open PySem PySem.Spec PyProof.Rows L2
/-- a closure's scope: its parameters are locals or cells, no other cell -/
structure MScope (N ps fr : List Str) (sc : Scope) : Prop where
  kind : sc.kind = .function
  co : sc.isCoroutine = false
  gen : sc.isGenerator = false
  nd : N.Nodup
  pre : N.take (ps.length + fr.length) = ps ++ fr
  par : ∀ x ∈ ps, sc.names.lookup x = some .local ∨ sc.names.lookup x = some .cell
  cel : ∀ y ∈ sc.names, y.2 = .cell → y.1 ∈ ps
  free : ∀ y ∈ sc.names, y.2 = .free → y.1 ∈ fr
  frk : ∀ x ∈ fr, sc.names.lookup x = some .free
theorem mscope_by {N ps fr : List Str} {sc : Scope} (h : mscB N ps fr sc = true) : MScope N ps fr sc := by
  unfold mscB at h
  simp only [Bool.and_eq_true, Bool.or_eq_true, Bool.not_eq_true', decide_eq_true_eq, decide_eq_false_iff_not, List.all_eq_true] at h
  obtain ⟨⟨h1, h2, h3⟩, ⟨h4, h5⟩, h6, h7, h8, h9⟩ := h
  exact ⟨h1, h2, h3, h4, h5, h6, fun y hy e => (h7 y hy).resolve_left fun z => z e, fun y hy e => (h8 y hy).resolve_left fun z => z e, h9⟩
/-! ### the frame -/
theorem cellsFrom_app : ∀ (names : List (Str × NameKind)) (n : Nat) (acc cl : List (Str × Addr)), cellsFrom n names (acc ++ cl) = cellsFrom n names acc ++ cl
  | [], _, _, _ => rfl
  | (y, k) :: r, n, acc, cl => by
    unfold cellsFrom
    split
    · exact cellsFrom_app r (n + 1) ((y, n) :: acc) cl
    · exact cellsFrom_app r n acc cl
theorem cellsFrom_mem : ∀ {names : List (Str × NameKind)} {n : Nat} {acc : List (Str × Addr)} {y : Str} {c : Addr}, (y, c) ∈ cellsFrom n names acc → (y, c) ∈ acc ∨ (y, NameKind.cell) ∈ names
  | [], _, _, _, _, h => .inl h
  | (z, k) :: r, n, acc, y, c, h => by
    unfold cellsFrom at h
    split at h
    · rename_i hk
      rcases cellsFrom_mem h with h | h
      · rcases List.mem_cons.mp h with e | h
        · injection e with e1 _
          subst e1
          have hk : k = .cell := by simpa using hk
          subst hk
          exact .inr List.mem_cons_self
        · exact .inl h
      · exact .inr (List.mem_cons_of_mem _ h)
    · rcases cellsFrom_mem h with h | h
      · exact .inl h
      · exact .inr (List.mem_cons_of_mem _ h)
theorem store_same {env : Env} {cs : List (Str × Addr)} {n : Str} {v : Value} (h : env.kindOf n = some .local ∨ (env.kindOf n = some .cell ∧ env.cells.lookup n = cs.lookup n)) : storeName env n v = storeName { env with cells := cs } n v := by
  have kk : Env.kindOf { env with cells := cs } n = env.kindOf n := rfl
  rcases h with h | ⟨h, h2⟩
  · unfold storeName
    rw [kk, h]
    rfl
  · unfold storeName PySem.cellOf
    rw [kk, h]
    show (if (env.scope.kind == .class && (some NameKind.cell == some .cell)) = true then _ else _) = _
    simp only [h2]
    rfl
theorem forIn_same {env : Env} {cs : List (Str × Addr)} {f g : Str × Value → PUnit → Sem (ForInStep PUnit)} (hf : ∀ n v u, f (n, v) u = (do storeName env n v; pure (.yield ⟨⟩))) (hg : ∀ n v u, g (n, v) u = (do storeName { env with cells := cs } n v; pure (.yield ⟨⟩))) :
    ∀ (binds : List (Str × Value)) (u : PUnit), (∀ x ∈ binds, storeName env x.1 x.2 = storeName { env with cells := cs } x.1 x.2) → (forIn binds u f : Sem PUnit) = forIn binds u g
  | [], _, _ => rfl
  | (n, v) :: r, u, h => by
    rw [List.forIn_cons, List.forIn_cons, hf, hg, h (n, v) List.mem_cons_self]
    have ih := fun u => forIn_same hf hg r u fun x hx => h x (List.mem_cons_of_mem _ hx)
    simp only [ih]
section
variable {Mo : Model} {A : Around} {E : Value → Shared → Prop} {s : Shared}
theorem newEnv_mix {scope : Scope} {cl : List (Str × Addr)} {binds : List (Str × Value)} {qual : Str} {f : Addr} {code : Value} {Q : Env → Shared → Prop} (hk : scope.kind = .function)
    (hkind : ∀ x ∈ binds, scope.names.lookup x.1 = some .local ∨ scope.names.lookup x.1 = some .cell)
    (hQ : ∀ s', InCallC s s.heap.objs.size (bindL (fun x => scope.names.lookup x) binds fun _ => none) (cellsFrom (s.heap.objs.size + 1) scope.names []) (bindC (fun x => scope.names.lookup x) binds fun _ => none) s' →
      Q (PySem.W.envX qual scope s.heap.objs.size f code (cellsFrom (s.heap.objs.size + 1) scope.names [] ++ cl)) s') :
    wpAny Mo A (newFunctionEnv scope mainGlobals cl binds (qual ++ ".<locals>.") (some f) code none builtinsNs) Q E s := by
  simp only [newFunctionEnv, Option.isSome_none, Bool.false_eq_true, if_false]
  refine wpAny_bind (wpAny_alloc ?_)
  refine wpAny_bind (wpAny_layCells _ (fun name kind cells => by cases hkc : kind == NameKind.cell <;> simp [hkc]) _ _ _ _ ?_)
  have sz : (({ s with heap := s.heap.push { cls := .type "frame", data := .dict #[] } } : Shared).heap.objs.size) = s.heap.objs.size + 1 := Heap.size_push ..
  rw [sz]
  have own := cellsFrom_ok scope.names (s.heap.push { cls := .type "frame", data := .dict #[] }) (s.heap.objs.size + 1) [] ⟨fun _ _ z => (nomatch z), List.Pairwise.nil⟩ (by rw [Heap.size_push]; exact Nat.le_refl _)
  rw [Heap.size_push] at own
  have app : cellsFrom (s.heap.objs.size + 1) scope.names cl = cellsFrom (s.heap.objs.size + 1) scope.names [] ++ cl := cellsFrom_app scope.names _ [] cl
  rw [app]
  have base : InCallC s s.heap.objs.size (fun _ => none) (cellsFrom (s.heap.objs.size + 1) scope.names []) (fun _ => none) { s with heap := pushCells (s.heap.push { cls := .type "frame", data := .dict #[] }) scope.names } :=
    ⟨⟨⟨_, _, rfl⟩, (Heap.Ns.new s.heap (.type "frame")).keeps (pushCells_keeps _ _), fun b o e => pushCells_keeps _ _ b o (Heap.get?_push_of_some _ e), Nat.le_refl _⟩, fun n c z => (own.empty n c (mem_of_lookup z)).1, own.apart, fun n c z => (own.empty n c z).2⟩
  have look : ∀ x ∈ binds, scope.names.lookup x.1 = some .cell → ∃ c, (cellsFrom (s.heap.objs.size + 1) scope.names []).lookup x.1 = some c := fun x _ z => Option.isSome_iff_exists.mp (PySem.W.cellsFrom_some _ _ _ (.inl z))
  have same : ∀ x ∈ binds, storeName (PySem.W.envX qual scope s.heap.objs.size f code (cellsFrom (s.heap.objs.size + 1) scope.names [] ++ cl)) x.1 x.2 = storeName { PySem.W.envX qual scope s.heap.objs.size f code (cellsFrom (s.heap.objs.size + 1) scope.names [] ++ cl) with cells := cellsFrom (s.heap.objs.size + 1) scope.names [] } x.1 x.2 := fun x hx => by
    refine store_same ?_
    rcases hkind x hx with z | z
    · exact .inl z
    · obtain ⟨c, hc⟩ := look x hx z
      refine .inr ⟨z, ?_⟩
      show (cellsFrom (s.heap.objs.size + 1) scope.names [] ++ cl).lookup x.1 = _
      rw [List.lookup_append, hc]
      rfl
  refine wpAny_bind ?_
  have key := wpAny_bindParams (M := Mo) (A := A) (E := E) (s₀ := s) (env := PySem.W.envX qual scope s.heap.objs.size f code (cellsFrom (s.heap.objs.size + 1) scope.names [])) (fun x _ => do storeName (PySem.W.envX qual scope s.heap.objs.size f code (cellsFrom (s.heap.objs.size + 1) scope.names [])) x.1 x.2; pure (.yield ⟨⟩))
    (fun _ _ _ => rfl) hk binds (fun _ => none) (fun _ => none) _ (fun _ s' => wpAny Mo A (pure (PySem.W.envX qual scope s.heap.objs.size f code (cellsFrom (s.heap.objs.size + 1) scope.names [] ++ cl))) Q E s') base (fun x hx => by
      rcases hkind x hx with z | z
      · exact .inl z
      · obtain ⟨c, hc⟩ := look x hx z
        exact .inr ⟨z, by show ((cellsFrom (s.heap.objs.size + 1) scope.names []).lookup x.1).isSome = true; rw [hc]; rfl⟩) (fun s' z => wpAny_pure (hQ s' z))
  have eq := forIn_same (env := PySem.W.envX qual scope s.heap.objs.size f code (cellsFrom (s.heap.objs.size + 1) scope.names [] ++ cl)) (cs := cellsFrom (s.heap.objs.size + 1) scope.names [])
    (f := fun x _ => do storeName (PySem.W.envX qual scope s.heap.objs.size f code (cellsFrom (s.heap.objs.size + 1) scope.names [] ++ cl)) x.1 x.2; pure (.yield ⟨⟩))
    (g := fun x _ => do storeName (PySem.W.envX qual scope s.heap.objs.size f code (cellsFrom (s.heap.objs.size + 1) scope.names [])) x.1 x.2; pure (.yield ⟨⟩)) (fun _ _ _ => rfl) (fun _ _ _ => rfl) binds ⟨⟩ same
  rw [← eq] at key
  exact key
end
/-! ### the context of a closure's body -/
section
variable {CX : CXT} {P : Program} {w : World} {K : PySem.W.Frag} {mg : Str → Option Value} {base : Heap} {N ps fr : List Str} {F : NdefX.NF} {f : Addr} {A : Around} {outer : List Env} {s s1 : Shared} {H : Hp} {E : XK} {us : List Value} {vs : List V} {ws : List (Option V)}
abbrev envM (F : NdefX.NF) (f L : Addr) : Env := PySem.W.envX F.qual F.scope L f (.ref F.c) (cellsFrom (L + 1) F.scope.names [] ++ F.cl)
def mcx (CX : CXT) (P : Program) (w : World) (K : PySem.W.Frag) (mg : Str → Option Value) (base : Heap) (N : List Str) (F : NdefX.NF) (f : Addr) (A : Around) (outer : List Env) (s : Shared) (H : Hp) (E : XK) : Cx :=
  { NdefX.ncx CX P w K mg base N F f A outer s H E with
    A := A.deeper (envM F f s.heap.objs.size)
    env := envM F f s.heap.objs.size
    stack := envM F f s.heap.objs.size :: outer
    xe := fun e s' => wpAny (model P w) (A.deeper (envM F f s.heap.objs.size)) (leaving (envM F f s.heap.objs.size) e) (fun _ s'' => CX outer H s E e s'') (fun e' s'' => CX outer H s E e' s'') s' }
theorem inv_startM (S : MScope N ps fr F.scope) (hd : A.handled = none) (e0 : Env0 P w K mg base A outer s H) (hl : vs.length = ps.length) (r : Vals vs us) (C : NdefX.CellsAt F.cl fr ws s.heap H)
    (x : InCallC s s.heap.objs.size (bindL (fun x => F.scope.names.lookup x) (ps.zip us) fun _ => none) (cellsFrom (s.heap.objs.size + 1) F.scope.names []) (bindC (fun x => F.scope.names.lookup x) (ps.zip us) fun _ => none) s1) :
    Inv (mcx CX P w K mg base N F f A outer s H E) [] (NdefX.startF N vs ws) H s1 := by
  obtain ⟨h1, tk, rfl, kp⟩ := x.done
  have hpl : ps.length + fr.length ≤ N.length := by
    have q := congrArg List.length S.pre
    rw [List.length_take, List.length_append] at q
    omega
  have nd2 : (ps ++ fr).Nodup := by rw [← S.pre]; exact S.nd.sublist (List.take_sublist _ _)
  obtain ⟨ndP, ndF, apartPF⟩ := List.nodup_append.mp nd2
  have look : ∀ y, (cellsFrom (s.heap.objs.size + 1) F.scope.names [] ++ F.cl).lookup y = ((cellsFrom (s.heap.objs.size + 1) F.scope.names []).lookup y).or (F.cl.lookup y) := fun y => List.lookup_append
  have cases2 : ∀ {y : Str} {c : Addr}, (cellsFrom (s.heap.objs.size + 1) F.scope.names [] ++ F.cl).lookup y = some c → (cellsFrom (s.heap.objs.size + 1) F.scope.names []).lookup y = some c ∨ F.cl.lookup y = some c := fun {y c} e => by
    rw [look y] at e
    cases q : (cellsFrom (s.heap.objs.size + 1) F.scope.names []).lookup y with
    | some d => rw [q] at e; exact .inl e
    | none => rw [q] at e; exact .inr e
  have ownUp : ∀ {y : Str} {c : Addr}, (cellsFrom (s.heap.objs.size + 1) F.scope.names []).lookup y = some c → s.heap.objs.size < c := fun {y c} e => x.above y c (PySem.mem_of_lookup e)
  have clDn : ∀ {y : Str} {c : Addr}, F.cl.lookup y = some c → c < s.heap.objs.size := fun {y c} e => by
    obtain ⟨_, v, o, ho, _⟩ := C.all y c e
    exact Heap.lt_size ho
  have cellK : ∀ {c : Addr} {v : Option Value}, s.heap.IsCell c v → h1.IsCell c v := fun {c v} ⟨o, ho, z⟩ => ⟨o, kp _ _ ho, z⟩
  have notOwn : ∀ {y : Str}, y ∈ fr → (cellsFrom (s.heap.objs.size + 1) F.scope.names []).lookup y = none := fun {y} hy => by
    cases q : (cellsFrom (s.heap.objs.size + 1) F.scope.names []).lookup y with
    | none => rfl
    | some c =>
      rcases cellsFrom_mem (PySem.mem_of_lookup q) with z | z
      · cases z
      · exact absurd rfl (apartPF y (S.cel _ z rfl) y hy)
  have noA : ∀ b : Addr, b ∉ (mcx CX P w K mg base N F f A outer s H E).ex := fun b z => absurd (show b ∈ ([] : List Addr) from z) (by simp)
  have ok : (mcx CX P w K mg base N F f A outer s H E).Ok := {
    mod := e0.mod
    kind := S.kind
    glob := rfl
    blt := rfl
    above := Nat.le_refl _
    inj := fun a b c ha hb => by
      rcases cases2 ha with ha | ha <;> rcases cases2 hb with hb | hb
      · exact name_of_addr x.apart (PySem.mem_of_lookup ha) (PySem.mem_of_lookup hb)
      · exact absurd (ownUp ha) (Nat.lt_asymm (clDn hb))
      · exact absurd (ownUp hb) (Nat.lt_asymm (clDn ha))
      · exact C.inj a b c ha hb
    has := fun y hy => by
      have hy : F.scope.names.lookup y = some .cell ∨ F.scope.names.lookup y = some .free := hy
      show ∃ c, (cellsFrom (s.heap.objs.size + 1) F.scope.names [] ++ F.cl).lookup y = some c
      rw [look y]
      rcases hy with hy | hy
      · obtain ⟨c, e⟩ := cell_has (n := s.heap.objs.size + 1) hy
        exact ⟨c, by rw [e]; rfl⟩
      · obtain ⟨i, hi⟩ := List.mem_iff_getElem?.mp (S.free _ (PySem.mem_of_lookup hy) rfl)
        obtain ⟨c, hc, _⟩ := C.has i y hi
        exact ⟨c, by rw [notOwn (List.mem_of_getElem? hi), hc]; rfl⟩
    cab := fun y c z _ => by cases (show false = true from z)
    hd := fun _ => hd
    frames := Around.frames_deeper e0.frames
    stk := .inr ⟨rfl, rfl⟩
    exf := fun b z => absurd z (noA b)
    bs := e0.bs
    bsz := e0.bsz
    noex := fun b _ _ => noA b
    exfs := fun b z => absurd z (noA b)
    funs := e0.funs
    frf := e0.frf }
  have parAt : ∀ {i : Nat} {y : Str} {v : V}, ps[i]? = some y → vs[i]? = some v → ∃ u, L2.RelV v u ∧ L2.Look (envM F f s.heap.objs.size) h1 (bindL (fun x => F.scope.names.lookup x) (ps.zip us) fun _ => none) y u := fun {i y v} hp ha => by
    obtain ⟨u, hu, rv⟩ := r.get ha
    refine ⟨u, rv, ?_⟩
    rcases S.par y (List.mem_of_getElem? hp) with k | k
    · exact .inl ⟨k, bindL_get ndP hp hu k⟩
    · obtain ⟨c, e⟩ := cell_has (n := s.heap.objs.size + 1) k
      refine .inr ⟨.inl k, c, ?_, ?_⟩
      · show (cellsFrom (s.heap.objs.size + 1) F.scope.names [] ++ F.cl).lookup y = some c
        rw [look y, e]
        rfl
      · have q := x.cell y c e
        rw [bindC_get ndP hp hu (by show F.scope.names.lookup y ≠ _; rw [k]; decide)] at q
        exact q
  exact {
    ok := ok
    os := rfl
    bare := e0.bare
    base := Un.kept kp
    loc := ⟨_, x.toInCall.ns, fun i y v a1 a2 a3 => by
      have a1 : N[i]? = some y := a1
      have clen := C.len
      unfold NdefX.startF at a2
      by_cases b1 : i < ps.length
      · have hq : (ps ++ fr)[i]? = some y := by rw [← S.pre, List.getElem?_take_of_lt (by omega)]; exact a1
        rw [List.getElem?_append_left b1] at hq
        rw [List.getElem?_append_left (by rw [List.length_map]; omega), List.getElem?_map] at a2
        cases e : vs[i]? with
        | none => rw [e] at a2; cases a2
        | some v0 =>
          rw [e] at a2
          have a2 : some (some v0) = some (some v) := a2
          injection a2 with a2
          injection a2 with a2
          subst a2
          exact parAt hq e
      · rw [List.getElem?_append_right (by rw [List.length_map]; omega), List.length_map] at a2
        by_cases b2 : i < ps.length + fr.length
        · have hq : (ps ++ fr)[i]? = some y := by rw [← S.pre, List.getElem?_take_of_lt (by omega)]; exact a1
          rw [List.getElem?_append_right (by omega)] at hq
          rw [List.getElem?_append_left (by omega), hl] at a2
          obtain ⟨c, hc, hv⟩ := C.has (i - ps.length) y hq
          obtain ⟨u, ru, hu⟩ := hv v a2
          refine ⟨u, ru, .inr ⟨.inr (S.frk y (List.mem_of_getElem? hq)), c, ?_, cellK hu⟩⟩
          show (cellsFrom (s.heap.objs.size + 1) F.scope.names [] ++ F.cl).lookup y = some c
          rw [look y, notOwn (List.mem_of_getElem? hq), hc]
          rfl
        · rw [List.getElem?_append_right (by omega), List.getElem?_replicate] at a2
          split at a2 <;> cases a2⟩
    cell := fun y c e => by
      rcases cases2 e with e | e
      · exact ⟨_, x.cell y c e⟩
      · obtain ⟨v, z⟩ := (C.all y c e).2
        exact ⟨v, cellK z⟩
    free := e0.hok.fresh (Nat.le_refl _)
    freeC := fun y c e => by
      rcases cases2 e with e | e
      · exact e0.hok.fresh (Nat.le_of_lt (ownUp e))
      · exact (C.all y c e).1
    pin := fun q hq => absurd (show q ∈ ([] : List (Addr × Obj)) ++ [] from hq) (by simp)
    hok := e0.hok.kept kp
    len := by
      have clen := C.len
      unfold NdefX.startF
      show _ = N.length
      rw [List.length_append, List.length_append, List.length_map, List.length_replicate]
      omega }
end
end Ev

end

/-! ## EvE -/
section
set_option Elab.async false
set_option linter.all false
set_option maxRecDepth 100000
set_option maxHeartbeats 2000000
/-! Own exceptions: made without arguments, made by an __init__ that stores its argument; what the written part says of their classes. -/
namespace L2
open PySem PySem.Spec PyProof.Rows
theorem pmk_own0 {X : Cx} {C : Addr} {bmB : List Value} {B newId initId : String} {x : Str} {p pos : Pos} (F : ExcBaseFacts B newId initId bmB) (q : PySem.W.excIn X.K C bmB newId = true) (gC : X.mg x = some (.ref C)) (kC : PySem.W.keepIn X.K (.ref C) = true) (r : Raises X (.ref C)) (hg : Gl X x)
    (hdb : (x == ("__debug__" : Str)) = false) : PMk X (.Call (.Name x p) [] [] pos) fun _ H Q => Q (.ref C) none H := fun pins s σ H Q I h => by
  refine wpAny_Call_Name_kw (ld_glob I hg gC (PySem.W.callWith_K0 I.kIn kC ?_) hdb)
  obtain ⟨bm, N, nm, qn, bs, hdct, sn, sub, ab, col, dd, k0, k1, k2, k3, k5, mN, hC, hN, hni, T⟩ := exc_obj I.kIn q
  exact wpAny_call_exc_subT F T hC hN hni (fun h' e hm => mk_of I hm r h (HOk.gone I.hok hm.new)) (Nat.zero_le _)
/-- the promise of an __init__ that stores its argument -/
def sp1 (K : PySem.W.Frag) (f : Str) : Sp := fun vs H Q _ => ∃ a C v, vs = [.ref a, v] ∧ OexC K C ∧ PySem.W.findIn K (.ref C) f = some none ∧ H a = some (exo a C none) ∧ ∀ dx, H dx = none → dx ≠ a → Q .non (upd (upd H dx (exd dx [(f, v)])) a (exo a C (some dx)))
theorem init1_ok {CX : CXT} {P : Program} {w : World} {K : PySem.W.Frag} {mg : Str → Option Value} {base : Heap} {k : Nat} {fI : Addr} {name qual : Str} {params : Arguments} {scope : Scope} {dV kV doc pm cdv ct oc : Value} {an od : Option Addr} {osl : Array (Option Value)} {s m f : Str} {p1 p2 p3 p4 : Pos}
    (lk : K.lookup fI = some { cls := oc, dict := od, data := .func (PySem.W.fnOf name qual params [.Assign [.Attribute (.Name s p1) f p2] (.Name m p3) p4] scope dV kV doc pm an cdv ct), slots := osl }) (hcd : PySem.W.codeIn K cdv qual = true) (S : FnScope [s, m] [s, m] scope)
    (hs : scope.names.lookup s = some .local) (hm : scope.names.lookup m = some .local) (d1 : (s == ("__debug__" : Str)) = false) (d2 : (s == ("__classdict__" : Str)) = false) (d3 : (m == ("__debug__" : Str)) = false) (d4 : (m == ("__classdict__" : Str)) = false) :
    FnOk P w K mg base CX (k + 1) fI (PySem.W.fnOf name qual params [.Assign [.Attribute (.Name s p1) f p2] (.Name m p3) p4] scope dV kV doc pm an cdv ct) [s, m] (sp1 K f) :=
  fn_of lk hcd S (fun vs H Q E h => by obtain ⟨a, C, v, rfl, _⟩ := h; rfl) fun A outer s0 H vs Q E hr h => by
    obtain ⟨a, C, v, rfl, hO, hf, hH, q⟩ := h
    refine ⟨_, pss_cons (ps_ost (pe_var (i := 0) rfl (.inl hs) d1 d2) (pe_var (i := 1) rfl (.inl hm) d3 d4)) pss_nil, ?_⟩
    exact ⟨v, rfl, .ref a, rfl, a, C, rfl, hO, hf, .inl ⟨hH, fun dx h1 h2 => q dx h1 h2⟩⟩
theorem mk1 {K : PySem.W.Frag} {f : Str} {C : Addr} {vs : List V} {H1 : Hp} {Q : XK} (hO : OexC K C) (hf : PySem.W.findIn K (.ref C) f = some none) (hl : vs.length = 1) (h : ∀ d H2, (∀ b o, H1 b = some o → H2 b = some o) → Q (.ref C) (some d) H2) :
    vs.length ≤ 1000 ∧ ∀ a, H1 a = none → sp1 K f (.ref a :: (vs ++ [])) (upd H1 a (exo a C none)) (fun v H2 => v = .non ∧ ∃ d fs, H2 a = some (exo a C (some d)) ∧ H2 d = some (exd d fs) ∧ H1 d = none ∧ Q (.ref C) (some d) (upd (del H2 a) d (.xd fs))) fun _ _ _ => False := by
  refine ⟨by omega, fun a ha => ?_⟩
  match vs, hl with
  | [v], _ =>
    refine ⟨a, C, v, rfl, hO, hf, upd_same, fun dx h1 h2 => ?_⟩
    have n1 : H1 dx = none := by rwa [upd_ne h2] at h1
    refine ⟨rfl, dx, [(f, v)], upd_same, ?_, n1, h _ _ fun b o e => ?_⟩
    · rw [upd_ne h2, upd_same]
    · have b1 : b ≠ a := fun z => by rw [z, ha] at e; cases e
      have b2 : b ≠ dx := fun z => by rw [z, n1] at e; cases e
      rw [upd_ne b2, del_ne b1, upd_ne b1, upd_ne b2, upd_ne b1]
      exact e
end L2

end

/-! ## Ev10 -/
section
set_option Elab.async false
set_option linter.all false
set_option maxRecDepth 100000
set_option maxHeartbeats 1000000
/-! Closures, calls. -/
namespace Ev
open PySem PySem.Spec PyProof.Rows L2 LamX
/-- the program, as the proof sees it -/
structure Zp where
  P : Program
  w : World
  K : PySem.W.Frag
  mg : Str → Option Value
  pr : Pr
  fuel : Nat
  T : List (Addr × Str)
  cs : List (Addr × Addr)
  t : Tc
  fn : Nat → Addr
  fd : Nat → FuncData
  ps : Nat → List Str
  ca : Nat → Addr
  fi : Nat → Addr
  fid : Nat → FuncData
  fip : Nat → List Str
  er : Xc → Value → Option Addr → Hp → Prop
/-- the same globals are known -/
structure SameT (t u : Tc) : Prop where
  defs : t.defs = u.defs
  nums : t.nums = u.nums
  free : t.free = u.free
  cls : t.cls = u.cls
  subs : t.subs = u.subs
  kits : t.kits = u.kits
  inis : t.inis = u.inis
  cons : t.cons = u.cons
  wds : t.wds = u.wds
/-- the closure's function object stands in the base -/
def CloAt (Z : Zp) (base : Heap) (fs : List Addr) (lm : List Addr) (H : Hp) (f : Addr) (c : Clo) : Prop :=
  ∃ (t : Tc) (ps fr : List Str) (qual : Str) (params : Arguments) (body : Expr) (scope : Scope) (cl : List (Str × Addr)) (pm ctv : Value) (c' : Addr) (vs : List V),
    base.get? f = some (PySem.W.kla_obj "<lambda>" qual params body scope cl pm c' ctv) ∧ Hx lm H c' = some (CodeO c' qual) ∧ SameT t Z.t ∧ t.sc = scope ∧ t.cs = none ∧ t.top = false ∧ t.lm = false ∧ MScope t.N ps fr scope ∧
    (∀ us : List Value, us.length = ps.length → bindArgs (PySem.W.kla_fn "<lambda>" qual params body scope cl pm (.ref c') ctv) ⟨us, []⟩ = pure (ps.zip us)) ∧
    chkE t c.body body = true ∧ c.ps = ps.length ∧ c.nN = t.N.length ∧ vs.length = fr.length ∧ Reps Z.K lm fs H c.caps vs ∧
    (∀ y a, cl.lookup y = some a → ∃ v, base.IsCell a v) ∧ (∀ x y a, cl.lookup x = some a → cl.lookup y = some a → x = y) ∧
    ∀ (i : Nat) y, fr[i]? = some y → ∃ a, cl.lookup y = some a ∧ ∀ v, vs[i]? = some v → ∃ u, L2.RelV v u ∧ base.IsCell a (some u)
theorem CloAt.ext {Z : Zp} {base : Heap} {fs lm lm' : List Addr} {H H' : Hp} {f : Addr} {c : Clo} (h : CloAt Z base fs lm H f c) (x : Ext lm H lm' H') : CloAt Z base fs lm' H' f c := by
  obtain ⟨t, ps, fr, qual, params, body, scope, cl, pm, ctv, c', vs, h1, h2, h3⟩ := h
  obtain ⟨a1, a2, a3, a4, a5, a6, a7, a8, a9, a10, a11, a12, a13, a14, a15⟩ := h3
  exact ⟨t, ps, fr, qual, params, body, scope, cl, pm, ctv, c', vs, h1, x.hx h2 codeO_ne, a1, a2, a3, a4, a5, a6, a7, a8, a9, a10, a11, x.reps a12, a13, a14, a15⟩
theorem rep_fs {K : PySem.W.Frag} {lm fs : List Addr} {H : Hp} {d : D} {v : V} (h : Rep K lm fs H d v) (more : List Addr) : Rep K lm (fs ++ more) H d v := by
  cases d with
  | clo n =>
    obtain ⟨f, e, r⟩ := h
    exact ⟨f, by rw [List.getElem?_append_left (List.getElem?_eq_some_iff.mp e).1]; exact e, r⟩
  | _ => exact h
theorem reps_fs {K : PySem.W.Frag} {lm fs : List Addr} {H : Hp} : ∀ {ds : List D} {vs : List V}, Reps K lm fs H ds vs → ∀ more, Reps K lm (fs ++ more) H ds vs
  | [], [], _, _ => trivial
  | d :: ds, v :: vs, h, more => ⟨rep_fs h.1 more, reps_fs h.2 more⟩
  | [], _ :: _, h, _ => h.elim
  | _ :: _, [], h, _ => h.elim
theorem CloAt.more {Z : Zp} {base base' : Heap} {fs lm : List Addr} {H : Hp} {f : Addr} {c : Clo} (h : CloAt Z base fs lm H f c) (hb : ∀ b o, base.get? b = some o → base'.get? b = some o) (m : List Addr) : CloAt Z base' (fs ++ m) lm H f c := by
  obtain ⟨t, ps, fr, qual, params, body, scope, cl, pm, ctv, c', vs, h1, h2, h3⟩ := h
  obtain ⟨a1, a2, a3, a4, a5, a6, a7, a8, a9, a10, a11, a12, a13, a14, a15⟩ := h3
  have ck : ∀ a v, base.IsCell a v → base'.IsCell a v := fun a v ⟨o, e, d⟩ => ⟨o, hb _ _ e, d⟩
  refine ⟨t, ps, fr, qual, params, body, scope, cl, pm, ctv, c', vs, hb _ _ h1, h2, a1, a2, a3, a4, a5, a6, a7, a8, a9, a10, a11, reps_fs a12 m, fun y a e => ?_, a14, fun i y e => ?_⟩
  · obtain ⟨v, z⟩ := a13 y a e
    exact ⟨v, ck _ _ z⟩
  · obtain ⟨a, e1, e2⟩ := a15 i y e
    refine ⟨a, e1, fun v ev => ?_⟩
    obtain ⟨u, r, z⟩ := e2 v ev
    exact ⟨u, r, ck _ _ z⟩
def tiOf (Z : Zp) (base : Heap) (C : List Clo) (fs : List Addr) : Ti where
  T := Z.T
  w := Z.w
  J := fun lm H => C.length = fs.length ∧ ∀ (n : Nat) c, C[n]? = some c → ∃ f, fs[n]? = some f ∧ CloAt Z base fs lm H f c
  mono := fun lm H lm' H' x ⟨l, h⟩ => ⟨l, fun n c e => let ⟨f, e1, e2⟩ := h n c e; ⟨f, e1, e2.ext x⟩⟩
/-! ### what a call leaves -/
theorem hx_of {lm : List Addr} {H : Hp} {a : Addr} {o : HO} (n : a ∉ lm) (e : H a = some o) : Hx lm H a = some o := Hx_some.mpr ⟨n, e⟩
theorem take_len {lm : List Addr} {K : PySem.W.Frag} {H : Hp} {M : Mem} {w : World} (m : RelM K w lm H M) : M.length = lm.length := m.len.symm
/-- the callee's own lists are forgotten: the value is the caller's, or data, or one list that is handed out -/
theorem fin_post {K : PySem.W.Frag} {c : Cv} {σ : L2.St} {Q : VK} {lm lm' : List Addr} {H H' : Hp} {M M' : Mem} {r : Bool} {d : D} {v : V} (m : St K c.T lm H M) (p : Post K c σ Q lm H (fin M.length r d M')) (x : Ext lm H lm' H') (m' : St K c.T lm' H' M') (h : Rep K lm' c.fs H' d v) : Q v H' := by
  obtain ⟨more, rfl⟩ := x.more
  have x0 : Ext lm H lm H' := x.drop ⟨[], by simp⟩
  have m0 : St K c.T lm H' (M'.take M.length) := by
    rw [← m.m.len]
    exact m'.drop x0 m
  -- one object that is handed out
  have out : ∀ {j : Nat} {a : Addr} {xs : List PyData}, lm.length ≤ j → (lm ++ more)[j]? = some a → M'[j]? = some xs → a ∉ lm ∧ Ext lm H (lm ++ [a]) H' ∧ St K c.T (lm ++ [a]) H' (M'.take M.length ++ [xs]) ∧ (lm ++ [a])[M.length]? = some a := by
    intro j a xs hj e q
    have hc := m'.m.at_ j a xs e q
    have em : more[j - lm.length]? = some a := by
      rw [List.getElem?_append_right hj] at e
      exact e
    have nlm : a ∉ lm := fun z => (List.nodup_append.mp m'.m.nd).2.2 a z a (List.mem_of_getElem? em) rfl
    have x1 : Ext lm H (lm ++ [a]) H' := ⟨⟨[a], rfl⟩, x.kind, fun b o n e t => by
      obtain ⟨h1, h2⟩ := x.old b o n e t
      refine ⟨fun z => h1 ?_, h2⟩
      rcases List.mem_append.mp z with z | z
      · exact List.mem_append_left _ z
      · rw [List.mem_singleton.mp z]
        exact List.mem_append_right _ (List.mem_of_getElem? em)⟩
    have up1 : Up (Hx (lm ++ more) H') (Hx (lm ++ [a]) H') := fun b o e _ => by
      obtain ⟨n, e⟩ := Hx_some.mp e
      refine hx_of (fun z => n ?_) e
      rcases List.mem_append.mp z with z | z
      · exact List.mem_append_left _ z
      · rw [List.mem_singleton.mp z]
        exact List.mem_append_right _ (List.mem_of_getElem? em)
    have lt : (M'.take M.length).length = lm.length := m0.m.len.symm
    refine ⟨nlm, x1, ⟨⟨by rw [List.length_append, List.length_append, lt]; rfl, ?_, fun i b ys e1 e3 => ?_⟩, m'.t, c.T.mono _ _ _ _ x1 m.j⟩, ?_⟩
    · rw [List.nodup_append]
      exact ⟨m.m.nd, by simp, fun b hb c hc z => nlm (by rw [List.mem_singleton.mp hc] at z; rw [← z]; exact hb)⟩
    · by_cases hi : i < lm.length
      · rw [List.getElem?_append_left hi] at e1
        rw [List.getElem?_append_left (by rw [lt]; exact hi), List.getElem?_take_of_lt (by rw [← m.m.len]; exact hi)] at e3
        exact up1.cell (m'.m.at_ i b ys (by rw [List.getElem?_append_left hi]; exact e1) e3)
      · have hi2 : i = lm.length := by
          have := (List.getElem?_eq_some_iff.mp e1).1
          rw [List.length_append] at this
          simp at this
          omega
        subst hi2
        rw [List.getElem?_append_right (Nat.le_refl _), Nat.sub_self] at e1
        rw [List.getElem?_append_right (by rw [lt]; exact Nat.le_refl _), lt, Nat.sub_self] at e3
        simp at e1 e3
        subst e1 e3
        exact up1.cell hc
    · rw [← m.m.len, List.getElem?_append_right (Nat.le_refl _), Nat.sub_self]
      rfl
  cases d with
  | p d => exact p v lm H' x0 m0 (hx_drop.dv _ _ h)
  | clo n => exact p.elim
  | scr xs => exact p.elim
  | loc j =>
    have p : Post K c σ Q lm H (if j < M.length then .ok (.loc j) (M'.take M.length) else match M'[j]? with
      | some xs => if r then .ok (.loc M.length) (M'.take M.length ++ [xs]) else .ok (.p (.list xs)) (M'.take M.length)
      | none => .bad) := p
    obtain ⟨a, e, rfl, hk⟩ := h
    split at p
    · rename_i hj
      refine p _ lm H' x0 m0 ⟨a, ?_, rfl, hk⟩
      rw [List.getElem?_append_left (by rw [m.m.len]; exact hj)] at e
      exact e
    · rename_i hj
      have hj : lm.length ≤ j := by rw [m.m.len]; omega
      cases q : M'[j]? with
      | none =>
        rw [q] at p
        exact p.elim
      | some xs =>
        rw [q] at p
        obtain ⟨vs, e2, h2⟩ := (m'.m.at_ j a xs e q).isL hk
        obtain ⟨nlm, x1, m1, e3⟩ := out hj e q
        cases r with
        | false => exact p _ lm H' x0 m0 (.lst (hx_of nlm e2) (hx_drop.dvAll _ _ h2))
        | true => exact p _ (lm ++ [a]) H' x1 m1 ⟨a, e3, rfl, hk⟩
  | dic t j =>
    have p : Post K c σ Q lm H (if j < M.length then .ok (.dic t j) (M'.take M.length) else match M'[j]? with
      | some xs => if r then .ok (.dic t M.length) (M'.take M.length ++ [xs]) else .bad
      | none => .bad) := p
    obtain ⟨a, e, rfl, hk⟩ := h
    split at p
    · rename_i hj
      refine p _ lm H' x0 m0 ⟨a, ?_, rfl, hk⟩
      rw [List.getElem?_append_left (by rw [m.m.len]; exact hj)] at e
      exact e
    · rename_i hj
      have hj : lm.length ≤ j := by rw [m.m.len]; omega
      cases q : M'[j]? with
      | none =>
        rw [q] at p
        exact p.elim
      | some xs =>
        rw [q] at p
        obtain ⟨nlm, x1, m1, e3⟩ := out hj e q
        cases r with
        | false => exact p.elim
        | true => exact p _ (lm ++ [a]) H' x1 m1 ⟨a, e3, rfl, hk⟩
theorem run_len {pr : Pr} {fuel k : Nat} {C : List Clo} {g : Nat} {ds : List D} {M : Mem} (h : run pr fuel k C (.fn g) ds M ≠ .bad) : ∃ d, pr[g]? = some d ∧ ds.length = d.ps := by
  cases k with
  | zero => exact absurd rfl h
  | succ k =>
    unfold run at h
    simp only at h
    split at h
    · rename_i d e
      split at h
      · rename_i hl
        exact ⟨d, e, hl⟩
      · exact absurd rfl h
    · exact absurd rfl h
def noClo : R D → Prop
  | .ok (.clo _) _ => False
  | _ => True
theorem fin_noclo (n : Nat) (r : Bool) (d : D) (M : Mem) : noClo (fin n r d M) := by
  cases d with
  | loc j =>
    show noClo (if j < n then .ok (.loc j) (M.take n) else match M[j]? with
      | some xs => if r then .ok (.loc n) (M.take n ++ [xs]) else .ok (.p (.list xs)) (M.take n)
      | none => .bad)
    split
    · trivial
    · split
      · split <;> trivial
      · trivial
  | dic t j =>
    show noClo (if j < n then .ok (.dic t j) (M.take n) else match M[j]? with
      | some xs => if r then .ok (.dic t n) (M.take n ++ [xs]) else .bad
      | none => .bad)
    split
    · trivial
    · split
      · split <;> trivial
      · trivial
  | _ => trivial
theorem finE_noclo (n : Nat) (r : R D) : noClo (finE n r) := by
  cases r with
  | ok d M => exact fin_noclo n false d M
  | _ => trivial
theorem finF_noclo (n : Nat) (b : Bool) (r : R Fl) : noClo (finF n b r) := by
  cases r with
  | ok f M =>
    cases f with
    | ret d => exact fin_noclo n b d M
    | _ => trivial
  | _ => trivial
theorem run_noclo (pr : Pr) (fuel k : Nat) (C : List Clo) (c : Cal) (ds : List D) (M : Mem) : noClo (run pr fuel k C c ds M) := by
  cases k with
  | zero => trivial
  | succ k =>
    unfold run
    simp only
    cases c with
    | fn g =>
      simp only
      split
      · split
        · exact finF_noclo _ _ _
        · trivial
      · trivial
    | clo n =>
      simp only
      split
      · split
        · exact finE_noclo _ _
        · trivial
      · trivial
end Ev

end

/-! ## Ev11 -/
section
set_option Elab.async false
set_option linter.all false
set_option maxRecDepth 100000
set_option maxHeartbeats 1000000
/-! Calls. -/
namespace Ev
open PySem PySem.Spec PyProof.Rows L2 LamX
/-- what is wanted of a call's result -/
def PostF (K : PySem.W.Frag) (T : Ti) (er : Xc → Value → Option Addr → Hp → Prop) (fs : List Addr) (Q : VK) (E : XK) (lm : List Addr) (H : Hp) : R D → Prop
  | .ok d M => ∀ v lm' H', Ext lm H lm' H' → St K T lm' H' M → Rep K lm' fs H' d v → Q v H'
  | .exc x M => ∀ cls dd lm' H', Ext lm H lm' H' → St K T lm' H' M → er x cls dd H' → E cls dd H'
  | .bad => False
/-- the promise of the def g at level k -/
def spF (Z : Zp) (k : Nat) (base : Heap) (g : Nat) : Sp := fun vs H Q E => ∃ C fs lm M ds, vs.length = (Z.ps g).length ∧ St Z.K (tiOf Z base C fs) lm H M ∧ Reps Z.K lm fs H ds vs ∧ PostF Z.K (tiOf Z base C fs) Z.er fs Q E lm H (run Z.pr Z.fuel k C (.fn g) ds M)
/-- the defs keep their promises at level k, whatever the base -/
def FSound (Z : Zp) (k : Nat) : Prop := ∀ (base : Heap), Mod Z.K Z.mg base → (∀ p ∈ Z.cs, TabB base Z.mg p.1 p.2) → ∀ g d, Z.pr[g]? = some d → FnOk Z.P Z.w Z.K Z.mg base (L2.CX Z.P Z.w) (k + 2) (Z.fn g) (Z.fd g) (Z.ps g) (spF Z k base g)
/-- what is known of the exceptions' classes -/
structure Zcl (Z : Zp) : Prop where
  nm : ∀ x c, Z.t.cls.lookup x = some c → Z.mg x = some (.ref (Z.ca c)) ∧ c < Z.t.inis.length
  raise0 : ∀ c, Z.t.inis[c]? = some none → PySem.W.excIn Z.K (Z.ca c) [.type "ValueError", .type "Exception", .type "BaseException", .type "object"] "ValueError.__new__" = true
  keep : ∀ c, c < Z.t.inis.length → PySem.W.keepIn Z.K (.ref (Z.ca c)) = true ∧ PySem.W.subIn Z.K (.ref (Z.ca c)) (.type "BaseException") = some true ∧ PySem.W.typeIn Z.K (.ref (Z.ca c)) = some (.type "type")
  raise1 : ∀ c f, Z.t.inis[c]? = some (some f) → OexC Z.K (Z.ca c) ∧ PySem.W.findIn Z.K (.ref (Z.ca c)) f = some none ∧ PySem.W.findIn Z.K (.ref (Z.ca c)) "__init__" = some (some (.ref (Z.fi c))) ∧ PySem.W.typeIn Z.K (.ref (Z.fi c)) = some (.type "function") ∧
    (∀ base, FnOk Z.P Z.w Z.K Z.mg base (L2.CX Z.P Z.w) 1 (Z.fi c) (Z.fid c) (Z.fip c) (sp1 Z.K f)) ∧ Binds Z.K (Z.fid c) (Z.fip c) []
  exm : ∀ c d ids, Z.t.subs[d]? = some (some ids) → c < Z.t.inis.length → PySem.W.exmOne Z.K (.ref (Z.ca c)) (.ref (Z.ca d)) = some (ids.contains c)
  kit : ∀ c d ids, Z.t.kits[d]? = some (some ids) → c < Z.t.inis.length → PySem.W.kitOne Z.K (.ref (Z.ca c)) (.ref (Z.ca d)) = some (ids.contains c) ∧ ExcC Z.K (Z.ca c)
structure Zok (Z : Zp) : Prop where
  cl : Zcl Z
  er : Z.er = fun x cls dd _ => cls = .ref (Z.ca x.cls) ∧ x.cls < Z.t.inis.length ∧ (Z.t.inis[x.cls]? = some none → dd = none)
  free : ∀ x ∈ Z.t.free, Z.mg x = none
  nums : ∀ x i, Z.t.nums.lookup x = some i → ∃ tk, Z.mg x = some (.int i tk)
  cons : ∀ x d, Z.t.cons.lookup x = some d → ∃ v u, Z.mg x = some u ∧ RelV v u ∧ ∀ H, Dv Z.K H v d
  wds : ∀ x kvs, Z.t.wds.lookup x = some kvs → ∃ a es n, Z.mg x = some (.ref a) ∧ KDict Z.K Z.w a es n ∧ ∀ k : Str, (∀ d, kvs.lookup k = some d → ∃ v u, PySem.W.nsIn Z.K a k = some (some u) ∧ RelV v u ∧ ∀ H, Dv Z.K H v d) ∧ (kvs.lookup k = none → PySem.W.nsIn Z.K a k = some none)
  defs : ∀ x g, Z.t.defs.lookup x = some g → Z.mg x = some (.ref (Z.fn g)) ∧ PySem.W.keepIn Z.K (.ref (Z.fn g)) = true ∧ Binds Z.K (Z.fd g) (Z.ps g) [] ∧ (x == ("__debug__" : Str)) = false
  lens : ∀ g d, Z.pr[g]? = some d → d.ps = (Z.ps g).length
  tabs : ∀ p ∈ Z.T, ∀ q ∈ Z.T, p.1 = q.1 → p.2 = q.2
/-- the context of a body of the program, at level k -/
structure Cll (Z : Zp) (X : Cx) (t : Tc) (c : Cv) (k : Nat) : Prop where
  P : X.prog = Z.P
  w : X.w = Z.w
  K : X.K = Z.K
  mg : X.mg = Z.mg
  T : c.T = tiOf Z X.base c.C c.fs
  g : c.g = gOf Z.pr Z.fuel k c.C
  er : c.er = Z.er
  same : SameT t Z.t
  tab : ∀ p ∈ Z.cs, TabB X.base Z.mg p.1 p.2
  room : Room (k + 2) X.A
  takes : Takes X c.W
  lam : t.lm = true → (∀ x, X.fn x = true) ∧ ∃ c P, X.env.code = .ref c ∧ (c, P) ∈ Z.cs ∧ (P, X.env.qual ++ "<lambda>") ∈ Z.T
section
variable {Z : Zp} {X : Cx} {t : Tc} {c : Cv} {k : Nat} {x : Str} {p pos : Pos} {e : Expr} {es : List Expr} {as : List CE}
/-- the run behind the arguments -/
theorem run_fnW {f : Addr} {fd : FuncData} {ps : List Str} {sp : Sp} {pins : List (Addr × Obj)} {σ : L2.St} {H : Hp} {s : Shared} {Q : VK} {us : List Value} {vs : List V} {W : WX} (F : FnOk X.prog X.w X.K X.mg X.base (L2.CX X.prog X.w) k f fd ps sp) (hr : Room k X.A) (hb : Binds X.K fd ps [])
    (tk : Takes X W) (I : Inv X pins σ H s) (r : Vals vs us) (h : sp vs H Q fun cls d H' => W cls d σ H') : wpAny (model X.prog X.w) X.A (call (.ref f) us) (EP X pins σ Q) X.xe s := by
  have hl : (us ++ []).length = ps.length := by rw [List.append_nil, ← r.length]; exact F.len _ _ _ _ h
  have hb2 := hb s us I.kIn hl
  rw [List.append_nil] at hb2
  refine wpAny_call (codeAny_mono (F.run X.A X.stack s H ⟨us, []⟩ us vs Q _ hr I.env0 hb2 r h) fun r s' hq => ?_)
  cases r with
  | error e => exact tk e s' (XE.of_call I (fun cls d H' h => h) hq)
  | ok fl =>
    cases fl with
    | ret u => exact I.after hq
    | next => exact False.elim hq
    | brk => exact False.elim hq
    | cont => exact False.elim hq
theorem post_f {K : PySem.W.Frag} {σ : L2.St} {Q : VK} {lm : List Addr} {H : Hp} {r : R D} {er : Xc → Value → Option Addr → Hp → Prop} (he : c.er = er) {T : Ti} (hT : c.T = T) (p : Post K c σ Q lm H r) : PostF K T er c.fs Q (fun cls d H' => c.W cls d σ H') lm H r := by
  subst he hT
  cases r <;> exact p
theorem s_call (Zk : Zok Z) (F : Fit X t) (L : Cll Z X t c k) (S : FSound Z k) {g : Nat} (hx : glo t x = true) (hd : t.defs.lookup x = some g) (hm : Mod X.K X.mg X.base) (ha : PA X (e :: es) (tEs X.K c as)) (hp : plainL (e :: es) = true) : PE X (.Call (.Name x p) (e :: es) [] pos) (tE X.K c (.call g as)) := by
  obtain ⟨x1, x2, _, _⟩ := glo_of hx
  obtain ⟨z1, z2, z3, z4⟩ := Zk.defs x g (by rw [← L.same.defs]; exact hd)
  obtain ⟨n1, n2⟩ := plain_cons hp
  refine ⟨fun pins s σ H Q I h => ?_⟩
  obtain ⟨lm, σD, M, sm, p0⟩ := h
  unfold evE at p0
  refine wpAny_Call_Name_kw (ld_glob I (F.gl x1) (by rw [L.mg]; exact z1) ?_ x2)
  refine PySem.W.callWith_K (h₀ := X.base) I.ok.mod.kin (by rw [L.K]; exact z2) (thn (ha.run _ pins s σ H _ I (evL (R := fun vs H1 => spF Z k X.base g vs H1 Q fun cls d H' => c.W cls d σ H') sm p0 fun vs H1 ds M1 lm1 g1 p1 => ?_)) fun us s1 ⟨vs, H1, I1, r, q⟩ => ⟨I1.kIn, ?_⟩) (star_ne n1) (back_any n2)
  · rw [L.g] at p1
    have p2 := post_f L.er L.T p1
    rw [L.K] at p2
    have hne : run Z.pr Z.fuel k c.C (.fn g) ds M1 ≠ .bad := fun z => by
      have p3 : PostF Z.K (tiOf Z X.base c.C c.fs) Z.er c.fs Q (fun cls d H' => c.W cls d σ H') lm1 H1 (run Z.pr Z.fuel k c.C (.fn g) ds M1) := p2
      rw [z] at p3
      exact p3.elim
    obtain ⟨d, e1, e2⟩ := run_len hne
    have g2 := g1.m
    rw [L.T, L.K] at g2
    refine ⟨c.C, c.fs, lm1, M1, ds, ?_, g2, by rw [← L.K]; exact g1.r, p2⟩
    rw [← g1.r.len, e2, Zk.lens g d e1]
  · have hdf : ∃ d, Z.pr[g]? = some d := by
      obtain ⟨C, fs, lm, M, ds, h1, h2, h3, h4⟩ := q
      have hne : run Z.pr Z.fuel k C (.fn g) ds M ≠ .bad := fun z => by
        rw [z] at h4
        exact h4.elim
      obtain ⟨d, e1, _⟩ := run_len hne
      exact ⟨d, e1⟩
    obtain ⟨d, e1⟩ := hdf
    have Fk := S X.base (by rw [← L.K, ← L.mg]; exact hm) L.tab g d e1
    rw [← L.P, ← L.w, ← L.K, ← L.mg] at Fk
    exact run_fnW Fk L.room (by rw [L.K]; exact z3) L.takes I1 r q
/-! ### the body of a closure -/
abbrev nfOf (qual : Str) (params : Arguments) (scope : Scope) (cl : List (Str × Addr)) (c' : Addr) : NdefX.NF := ⟨"<lambda>", qual, params, [], scope, cl, c'⟩
theorem relS_startF {K : PySem.W.Frag} {lm fs : List Addr} {H : Hp} {ds cs : List D} {vs ws : List V} {N : List Str} (h1 : Reps K lm fs H ds vs) (h2 : Reps K lm fs H cs ws) (hn : vs.length + ws.length ≤ N.length) : RelS K lm fs H (NdefX.startF N vs (ws.map some)) (Ev.start N.length (ds ++ cs)) := by
  have l1 := h1.len
  have l2 := h2.len
  unfold NdefX.startF Ev.start
  refine ⟨by simp only [List.length_append, List.length_map, List.length_replicate]; omega, fun i d e => ?_⟩
  have hr := h1.app h2
  have e1 : (vs.map some ++ (ws.map some ++ List.replicate (N.length - vs.length - (ws.map some).length) none)) = (vs ++ ws).map some ++ List.replicate (N.length - (ds ++ cs).length) none := by
    rw [List.map_append, List.append_assoc, List.length_map, List.length_append, l1, l2, Nat.sub_sub]
  rw [e1]
  by_cases hi : i < (ds ++ cs).length
  · rw [List.getElem?_append_left (by rw [List.length_map]; exact hi), List.getElem?_map] at e
    have e2 : (ds ++ cs)[i]? = some d := by
      cases q : (ds ++ cs)[i]? with
      | none => rw [q] at e; cases e
      | some a => rw [q] at e; cases e; rfl
    obtain ⟨v, f1, f2⟩ := hr.get e2
    refine ⟨v, ?_, f2⟩
    rw [List.getElem?_append_left (by rw [List.length_map, ← hr.len]; exact hi), List.getElem?_map, f1]
    rfl
  · rw [List.getElem?_append_right (by rw [List.length_map]; omega), List.getElem?_replicate] at e
    split at e <;> cases e
/-- expressions hold at level k -/
def ESound (Z : Zp) (k : Nat) : Prop := ∀ (X : Cx) (t : Tc) (c : Cv), Fit X t → Cll Z X t c k → Mod X.K X.mg X.base → ∀ (ce : CE) (e : Expr), chkE t ce e = true → PE X e (tE X.K c ce) ∧ PT X e (tT X.K c ce)
theorem chkR_of {i : Nat} (h : chkR t i x = true) : t.N[i]? = some x ∧ Vis t.sc x ∧ (x == ("__debug__" : Str)) = false ∧ (x == ("__classdict__" : Str)) = false := by
  unfold chkR visB okName at h
  simp only [Bool.and_eq_true, Bool.or_eq_true, decide_eq_true_eq] at h
  exact ⟨h.1.1, h.1.2, h.2.1.1, h.2.1.2⟩
/-- a closure called: its body runs -/
theorem run_clo (Zk : Zok Z) (F : Fit X t) (L : Cll Z X t c k) (S : ∀ j, k = j + 1 → ESound Z j) (hm : Mod X.K X.mg X.base) {pins : List (Addr × Obj)} {σ : L2.St} {H : Hp} {s : Shared} {Q : VK} {us : List Value} {vs : List V} {f : Addr} {n : Nat} {ds : List D} {M : Mem} {lm : List Addr} (I : Inv X pins σ H s) (r : Vals vs us)
    (m : St X.K c.T lm H M) (hv : Reps X.K lm c.fs H ds vs) (hf : c.fs[n]? = some f) (p : Post X.K c σ Q lm H (c.g.cl n ds M)) : wpAny (model X.prog X.w) X.A (call (.ref f) us) (EP X pins σ Q) X.xe s := by
  rw [L.g] at p
  have p : Post X.K c σ Q lm H (run Z.pr Z.fuel k c.C (.clo n) ds M) := p
  cases k with
  | zero => exact p.elim
  | succ j =>
    have j0 := m.j
    rw [L.T] at j0
    obtain ⟨l0, j0⟩ := j0
    cases eC : c.C[n]? with
    | none =>
      unfold run at p
      simp only [eC] at p
      exact p.elim
    | some cl0 =>
      unfold run at p
      simp only [eC] at p
      split at p
      case isFalse => exact p.elim
      rename_i hds
      obtain ⟨f', e1, t', ps, fr, qual, params, body, scope, cl, pm, ctv, c', ws, h1, h2, a1, a2, a3, a4, a5, a6, a7, a8, a9, a10, a11, a12, a13, a14, a15⟩ := j0 n cl0 eC
      rw [hf] at e1
      cases e1
      subst a2
      have of2 := I.bk _ _ h1
      have hr := L.room
      have hl : vs.length = ps.length := by rw [← hv.len, hds, a9]
      have hlu : us.length = ps.length := by rw [← r.length]; exact hl
      have CA : NdefX.CellsAt cl fr (ws.map some) s.heap H := by
        refine ⟨by rw [List.length_map]; exact a11, fun y a e => ?_, a14, fun i y e => ?_⟩
        · obtain ⟨v, o, ho, hd⟩ := a13 y a e
          obtain ⟨g1, g2⟩ := I.bs a o ho
          exact ⟨g2, v, o, g1, hd⟩
        · obtain ⟨a, e1, e2⟩ := a15 i y e
          refine ⟨a, e1, fun v ev => ?_⟩
          rw [List.getElem?_map] at ev
          cases q : ws[i]? with
          | none => rw [q] at ev; cases ev
          | some w0 =>
            rw [q] at ev
            cases ev
            obtain ⟨u, ru, o, ho, hd⟩ := e2 _ q
            exact ⟨u, ru, o, (I.bs a o ho).1, hd⟩
      have rc : codeAny (model X.prog X.w) X.A (.call (.ref f) ⟨us, []⟩) (CR (L2.CX X.prog X.w) X.stack X.prog X.w H s Q fun cls d H' => c.W cls d σ H') s := by
        refine PySem.W.kla_callFunE hr.depth of2 rfl a6.co a6.gen rfl (NdefX.codeO_at I.hok (Hx_some.mp h2).2) ?_
        rw [a7 us hlu]
        refine wpAny_pure (newEnv_mix a6.kind (fun ⟨n, _⟩ hy => a6.par n (List.of_mem_zip hy).1) fun s1 xc => ⟨I.nolimit.keeps xc.toInCall.keep, ?_⟩)
        show codeAny _ _ (.expr body (envM (nfOf qual params t'.sc cl c') f s.heap.objs.size)) _ _
        have J : Inv (mcx (L2.CX X.prog X.w) X.prog X.w X.K X.mg X.base t'.N (nfOf qual params t'.sc cl c') f X.A X.stack s H fun cls d H' => c.W cls d σ H') [] (NdefX.startF t'.N vs (ws.map some)) H s1 :=
          inv_startM a6 hr.hd I.env0 hl r CA xc
        have hr2 : Room (j + 2) (X.A.deeper (envM (nfOf qual params t'.sc cl c') f s.heap.objs.size)) := hr.deeper _
        have Ft : Fit (mcx (L2.CX X.prog X.w) X.prog X.w X.K X.mg X.base t'.N (nfOf qual params t'.sc cl c') f X.A X.stack s H fun cls d H' => c.W cls d σ H') t' := by
          refine ⟨rfl, a6.nd, rfl, rfl, ?_, fun x hx => ?_, fun x i hx => ?_, fun _ h => ?_, fun s h => ?_⟩
          · have := hr2.un
            show (X.A.deeper (envM (nfOf qual params t'.sc cl c') f s.heap.objs.size)).units + 64 < cLine
            omega
          · show X.mg x = none
            rw [L.mg]
            exact Zk.free x (by rw [← a1.free]; exact hx)
          · show ∃ tk, X.mg x = some (.int i tk)
            rw [L.mg]
            exact Zk.nums x i (by rw [← a1.nums]; exact hx)
          · rw [a4] at h
            cases h
          · rw [a3] at h
            cases h
        have Lt : Cll Z (mcx (L2.CX X.prog X.w) X.prog X.w X.K X.mg X.base t'.N (nfOf qual params t'.sc cl c') f X.A X.stack s H fun cls d H' => c.W cls d σ H') t' { C := c.C, fs := c.fs, g := gOf Z.pr Z.fuel j c.C, W := fun cls d _ H' => c.W cls d σ H', T := c.T, er := c.er } j :=
          ⟨L.P, L.w, L.K, L.mg, L.T, rfl, L.er, a1, L.tab, hr2, takes_of rfl rfl rfl rfl, fun h => by rw [a5] at h; cases h⟩
        have hb := (S j rfl _ t' _ Ft Lt hm cl0.body body a8).1
        have hsl : vs.length + ws.length ≤ t'.N.length := by
          have q := congrArg List.length a6.pre
          rw [List.length_take, List.length_append] at q
          rw [hl, a11]
          omega
        have sim : Sim X.K { C := c.C, fs := c.fs, g := gOf Z.pr Z.fuel j c.C, W := fun cls d _ H' => c.W cls d σ H', T := c.T, er := c.er } lm H (NdefX.startF t'.N vs (ws.map some)) (Ev.start cl0.nN (ds ++ cl0.caps)) M := by
          refine ⟨?_, m⟩
          rw [a10]
          exact relS_startF hv (by rw [L.K]; exact a12) hsl
        refine PySem.W.kla_codeExpr (wpAny_mono (hb.run [] _ _ H Q J ⟨lm, _, M, sim, ?_⟩) (fun v s' hq => ?_) fun e s' hq => hq)
        · have p : Post X.K c σ Q lm H (finE M.length (evE (gOf Z.pr Z.fuel j c.C) cl0.body (Ev.start cl0.nN (ds ++ cl0.caps)) M)) := p
          show Post X.K _ _ Q lm H (evE (gOf Z.pr Z.fuel j c.C) cl0.body (Ev.start cl0.nN (ds ++ cl0.caps)) M)
          cases er : evE (gOf Z.pr Z.fuel j c.C) cl0.body (Ev.start cl0.nN (ds ++ cl0.caps)) M with
          | ok d M' =>
            rw [er] at p
            exact fun v lm' H' x m' rr => fin_post m p x m' rr
          | exc y M' =>
            rw [er] at p
            intro cls dd lm' H' x m' he
            obtain ⟨more, rfl⟩ := x.more
            have x0 : Ext lm H lm H' := x.drop ⟨[], by simp⟩
            have m0 := m'.drop x0 m
            rw [m.m.len] at m0
            exact p cls dd lm H' x0 m0 he
          | bad =>
            rw [er] at p
            exact p
        · obtain ⟨w', H', J', rv, q⟩ := hq
          exact ⟨w', H', J'.os, J'.bare, J'.base, J'.hok, rv, q⟩
      refine wpAny_call (codeAny_mono rc fun r s' hq => ?_)
      cases r with
      | error e => exact L.takes e s' (XE.of_call I (fun cls d H' h => h) hq)
      | ok fl =>
        cases fl with
        | ret u => exact I.after hq
        | next => exact False.elim hq
        | brk => exact False.elim hq
        | cont => exact False.elim hq
theorem s_cl (Zk : Zok Z) (F : Fit X t) (L : Cll Z X t c k) (S : ∀ j, k = j + 1 → ESound Z j) (hm : Mod X.K X.mg X.base) {i : Nat} (hx : chkR t i x = true) (ha : PA X (e :: es) (tEs X.K c as)) (hp : plainL (e :: es) = true) : PE X (.Call (.Name x p) (e :: es) [] pos) (tE X.K c (.cl i as)) := by
  obtain ⟨c1, c2, c3, c4⟩ := chkR_of hx
  obtain ⟨n1, n2⟩ := plain_cons hp
  refine ⟨fun pins s σ H Q I h => ?_⟩
  obtain ⟨lm, σD, M, sm, p0⟩ := h
  unfold evE at p0
  cases e0 : σD[i]? with
  | none => rw [e0] at p0; exact p0.elim
  | some o =>
    rw [e0] at p0
    cases o with
    | none => exact p0.elim
    | some d =>
      cases d with
      | clo n =>
        obtain ⟨v, hs, f, hf, rfl⟩ := sm.s.2 i (.clo n) e0
        have j0 := sm.m.j
        rw [L.T] at j0
        obtain ⟨l0, j0⟩ := j0
        have hn : n < c.C.length := by rw [l0]; exact (List.getElem?_eq_some_iff.mp hf).1
        obtain ⟨f', e1, ca⟩ := j0 n _ (List.getElem?_eq_getElem hn)
        rw [hf] at e1
        cases e1
        have fa : ∀ {s1 : Shared} {H1 : Hp}, Inv X pins σ H1 s1 → PySem.W.FnAt f s1.heap := fun {s1 H1} I1 => by
          obtain ⟨_, _, _, _, _, _, _, _, _, _, _, _, h1, _⟩ := ca
          exact ⟨_, _, _, _, I1.bk _ _ h1⟩
        refine wpAny_Call_Name_kw (thn ((pe_var (pos := p) (by rw [F.N]; exact c1) (by rw [F.sc]; exact c2) c3 c4).run pins s σ H (fun v H1 => v = .ref f ∧ H1 = H) I ⟨.ref f, hs, rfl, rfl⟩) fun u s1 ⟨v, H1, I1, r1, q1⟩ => ?_)
        obtain ⟨ev, eH⟩ := q1
        subst ev
        rw [eH] at I1
        obtain rfl : u = Value.ref f := r1
        refine PySem.W.callWith_F (first := []) (fa I1) (thn (ha.run _ pins s1 σ H _ I1 (evL (R := fun vs H2 => ∃ ds M2 lm2, GotL X.K c lm H lm2 H2 ds M2 vs ∧ Post X.K c σ Q lm2 H2 (c.g.cl n ds M2)) sm p0 fun vs H2 ds M2 lm2 g2 p2 => ⟨ds, M2, lm2, g2, p2⟩)) fun us s2 ⟨vs, H2, I2, r, ds, M2, lm2, g2, p2⟩ => ⟨fa I2, ?_⟩) (star_ne n1) (back_any n2)
        show wpAny _ _ (call (.ref f) us) _ _ _
        exact run_clo Zk F L S hm I2 r g2.m g2.r hf p2
      | _ => exact p0.elim
end
end Ev

end

/-! ## Ev12 -/
section
set_option Elab.async false
set_option linter.all false
set_option maxRecDepth 100000
set_option maxHeartbeats 1000000
/-! A lambda handed to a def. -/
namespace Ev
open PySem PySem.Spec PyProof.Rows L2 LamX
section
variable {Z : Zp} {X : Cx} {t : Tc} {c : Cv} {k : Nat} {x : Str} {p pos : Pos} {e : Expr} {es : List Expr} {as : List CE}
def AllPE (X : Cx) (c : Cv) : List Expr → List CE → Prop
  | [], [] => True
  | e :: es, a :: as => (starB e = false ∧ PE X e (tE X.K c a)) ∧ AllPE X c es as
  | _, _ => False
theorem lam_spl {lamE : Expr} (hsl : starB lamE = false) : ∀ {init : List Expr} {as : List CE}, AllPE X c init as → ∀ {pins : List (Addr × Obj)} {s : Shared} {σ : L2.St} {H : Hp} {lm : List Addr} {σD : Sg} {M : Mem} {kk : List D → Mem → R D} {Q : VK} {R : List Value → Shared → Prop}, Inv X pins σ H s → Sim X.K c lm H σ σD M →
    Post X.K c σ Q lm H ((evEs c.g as σD M).bind kk) → (∀ vs us H1 s1 ds M1 lm1, Inv X pins σ H1 s1 → Vals vs us → GotL X.K c lm H lm1 H1 ds M1 vs → Post X.K c σ Q lm1 H1 (kk ds M1) → wpAny (model X.prog X.w) X.A (eval lamE X.env) (fun u s2 => R (us ++ [u]) s2) X.xe s1) →
    wpAny (model X.prog X.w) X.A (spliced (backTo pos (starEach (init ++ [lamE]) X.env))) R X.xe s
  | [], [], _, pins, s, σ, H, lm, σD, M, kk, Q, R, I, sm, p, fin => by
    have p : Post X.K c σ Q lm H (kk [] M) := p
    show wpAny _ _ (spliced (backTo pos (starEach [lamE] X.env))) R X.xe s
    rw [star_ne hsl]
    refine Calls.spliced_cons (wpAny_mono (fin [] [] H s [] M lm I .nil ⟨.refl _ _, sm.m, trivial⟩ p) (fun u s2 h => Calls.spliced_nil h) fun _ _ e => e)
  | e :: init, a :: as, h, pins, s, σ, H, lm, σD, M, kk, Q, R, I, sm, p, fin => by
    obtain ⟨⟨h1, h2⟩, h3⟩ := h
    show wpAny _ _ (spliced (backTo pos (starEach (e :: (init ++ [lamE])) X.env))) R X.xe s
    rw [star_ne h1]
    have e0 : evEs c.g (a :: as) σD M = (evE c.g a σD M).bind fun d M1 => (evEs c.g as σD M1).bind fun ds M2 => .ok (d :: ds) M2 := by
      conv => lhs; unfold evEs
    rw [e0, bind_assoc] at p
    refine Calls.spliced_cons (thn (h2.run pins s σ H _ I (ev1 (R := fun v H1 => ∃ d M1 lm1, Got X.K c lm H lm1 H1 d M1 v ∧ Post X.K c σ Q lm1 H1 (((evEs c.g as σD M1).bind fun ds M2 => .ok (d :: ds) M2).bind kk)) sm p fun v H1 d M1 lm1 g1 p1 => ⟨d, M1, lm1, g1, p1⟩)) fun u s1 ⟨v, H1, I1, r1, d, M1, lm1, g1, p1⟩ => ?_)
    rw [bind_assoc] at p1
    refine lam_spl hsl h3 I1 (sm.ext g1.x g1.m) p1 fun vs us H2 s2 ds M2 lm2 I2 r2 g2 p2 => ?_
    exact fin (v :: vs) (u :: us) H2 s2 (d :: ds) M2 lm2 I2 (.cons r1 r2) ⟨g1.x.trans g2.x, g2.m, ⟨g2.x.rep g1.r, g2.r⟩⟩ p2
  | [], _ :: _, h, _, _, _, _, _, _, _, _, _, _, _, _, _, _ => h.elim
  | _ :: _, [], h, _, _, _, _, _, _, _, _, _, _, _, _, _, _ => h.elim
theorem restrict_sz (h : Heap) (p : Addr → Prop) : ∃ G : Heap, (∀ b, p b → G.get? b = h.get? b) ∧ (∀ b, ¬ p b → G.get? b = none) ∧ G.objs.size = h.objs.size := by
  classical
  let l : List Addr := (List.range h.objs.size).filter fun b => !decide (p b)
  have m1 : ∀ b, b ∈ l → ¬ p b := fun b hb => by
    have z := (List.mem_filter.mp hb).2
    simpa using z
  have m2 : ∀ b, b < h.objs.size → ¬ p b → b ∈ l := fun b h1 h2 => List.mem_filter.mpr ⟨List.mem_range.mpr h1, by simp [h2]⟩
  refine ⟨PySem.W.hideAll h l, fun b hb => ?_, fun b hb => ?_, PySem.W.hideAll_size l h⟩
  · cases e : h.get? b with
    | none =>
      cases q : (PySem.W.hideAll h l).get? b with
      | none => rfl
      | some o =>
        have z := PySem.W.of_hideAll l q
        rw [e] at z; cases z
    | some o => exact PySem.W.hideAll_get l e fun hm => m1 b hm hb
  · cases q : (PySem.W.hideAll h l).get? b with
    | none => rfl
    | some o =>
      have z := PySem.W.of_hideAll l q
      rw [PySem.W.hideAll_none l (m2 b (Heap.lt_size z) hb)] at q; cases q
theorem caps_reps {K : PySem.W.Frag} {lm fs : List Addr} {H : Hp} {σ : L2.St} {σD : Sg} (r : RelS K lm fs H σ σD) : ∀ {js : List Nat} {cs : List D}, caps σD js = some cs → ∃ ws, Reps K lm fs H cs ws ∧ js.map (NdefX.slotAt σ) = ws.map some
  | [], cs, h => by
    cases h
    exact ⟨[], trivial, rfl⟩
  | j :: js, cs, h => by
    unfold caps at h
    cases e : σD[j]? with
    | none => rw [e] at h; cases h
    | some o =>
      rw [e] at h
      cases o with
      | none => cases h
      | some d =>
        simp only at h
        obtain ⟨cs2, e2, rfl⟩ := map_some h
        obtain ⟨ws, h1, h2⟩ := caps_reps r e2
        obtain ⟨v, e3, h3⟩ := r.2 j d e
        exact ⟨v :: ws, ⟨h3, h1⟩, by rw [List.map_cons, List.map_cons, h2, NdefX.slotAt_of e3]⟩
theorem bind_one {params : Arguments} {pn : List Str} (h : plainArgs params = some pn) (hl : pn ∈ lamP) {q : Str} {body : Expr} {sc : Scope} {cl : List (Str × Addr)} {pm cv ctv : Value} (us : List Value) (hu : us.length = pn.length) :
    bindArgs (PySem.W.kla_fn "<lambda>" q params body sc cl pm cv ctv) ⟨us, []⟩ = pure (pn.zip us) := by
  obtain ⟨a1, a2, a3, a4, a5, a6, a7⟩ := params
  cases a1 with
  | cons _ _ => cases h
  | nil =>
    cases a3 with
    | some _ => cases h
    | none =>
      cases a4 with
      | cons _ _ => cases h
      | nil =>
        cases a5 with
        | cons _ _ => cases h
        | nil =>
          cases a6 with
          | some _ => cases h
          | none =>
            cases a7 with
            | cons _ _ => cases h
            | nil =>
              cases h
              have two : ∃ nm : Str, a2.map (·.arg) = [nm] ∧ (nm = "n" ∨ nm = "more" ∨ nm = "m" ∨ nm = "net") := by
                simp only [lamP, List.mem_cons, List.not_mem_nil, or_false] at hl
                rcases hl with h | h | h | h
                · exact ⟨_, h, .inl rfl⟩
                · exact ⟨_, h, .inr (.inl rfl)⟩
                · exact ⟨_, h, .inr (.inr (.inl rfl))⟩
                · exact ⟨_, h, .inr (.inr (.inr rfl))⟩
              obtain ⟨nm, e, hnm⟩ := two
              cases a2 with
              | nil => cases e
              | cons a r =>
                cases r with
                | cons _ _ => cases e
                | nil =>
                  obtain ⟨an, aa, ap⟩ := a
                  cases us with
                  | nil => cases hu
                  | cons u r =>
                    cases r with
                    | cons _ _ => simp at hu
                    | nil =>
                      have e : an = nm := by
                        have := List.cons.inj e
                        exact this.1
                      subst e
                      rcases hnm with rfl | rfl | rfl | rfl <;> rfl
theorem plain_defaults {params : Arguments} {pn : List Str} (h : plainArgs params = some pn) (env : Env) : defaultsOf params env = ([], []) := by
  unfold plainArgs at h
  split at h
  · rfl
  · cases h
theorem split_last : ∀ {l : List Expr} {init : List Expr} {e : Expr}, splitLast l = some (init, e) → l = init ++ [e]
  | [], _, _, h => by cases h
  | [x], _, _, h => by cases h; rfl
  | x :: y :: r, init, e, h => by
    have h : (splitLast (y :: r)).map (fun p => (x :: p.1, p.2)) = some (init, e) := h
    obtain ⟨⟨i2, e2⟩, h2, h3⟩ := map_some h
    cases h3
    rw [split_last h2]
    rfl
theorem chkFr_map : ∀ {js : List Nat} {fr : List Str}, chkFr t js fr = true → js.map (fun j => t.N[j]?) = fr.map some
  | [], [], _ => rfl
  | j :: js, y :: fr, h => by
    unfold chkFr at h
    simp only [Bool.and_eq_true, decide_eq_true_eq] at h
    rw [List.map_cons, List.map_cons, h.1, chkFr_map h.2]
  | [], _ :: _, h => by cases h
  | _ :: _, [], h => by cases h
theorem freeOf_mem : ∀ {names : List (Str × NameKind)} {y : Str}, y ∈ freeOf names → (y, NameKind.free) ∈ names
  | [], _, h => by cases h
  | (z, k) :: r, y, h => by
    cases k with
    | free =>
      rcases List.mem_cons.mp h with rfl | h
      · exact List.mem_cons_self
      · exact List.mem_cons_of_mem _ (freeOf_mem h)
    | _ => exact List.mem_cons_of_mem _ (freeOf_mem h)
theorem s_lam (Zk : Zok Z) (F : Fit X t) (L : Cll Z X t c k) (S : FSound Z k) (hm : Mod X.K X.mg X.base) {g : Nat} {args init : List Expr} {params : Arguments} {body : Expr} {sc : Scope} {lp : Pos} {pn : List Str} {js : List Nat} {lb : CE} {nps nN : Nat}
    (hx : glo t x = true) (hd : t.defs.lookup x = some g) (hlm : t.lm = true) (hargs : args = init ++ [.Lambda params body sc lp]) (hA : AllPE X c init as) (hp : plainL args = true) (hpa : plainArgs params = some pn) (hp1 : pn ∈ lamP)
    (hN : mscB (lamN t pn (freeOf sc.names)) pn (freeOf sc.names) sc = true) (hnd : NdefX.ndefB t.sc sc (freeOf sc.names) = true) (hfr : chkFr t js (freeOf sc.names) = true) (hb : chkE (inLam t pn (freeOf sc.names) sc) lb body = true) (hps : nps = pn.length) (hnN : nN = (lamN t pn (freeOf sc.names)).length) :
    PE X (.Call (.Name x p) args [] pos) (tE X.K c (.lam g as nps nN js lb)) := by
  obtain ⟨x1, x2, _, _⟩ := glo_of hx
  obtain ⟨z1, z2, z3, z4⟩ := Zk.defs x g (by rw [← L.same.defs]; exact hd)
  obtain ⟨fnA, cA, P, hcode, hcs, hT⟩ := L.lam hlm
  have NS := mscope_by hN
  have hfree1 : ∀ y ∈ sc.names, y.2 = .free → X.env.scope.names.lookup y.1 = some .cell ∨ X.env.scope.names.lookup y.1 = some .free := by
    unfold NdefX.ndefB at hnd
    simp only [Bool.and_eq_true, List.all_eq_true, Bool.or_eq_true, Bool.not_eq_true', decide_eq_true_eq, decide_eq_false_iff_not] at hnd
    intro y hy e
    rw [F.sc]
    rcases hnd.1 y hy with (z | z) | z
    · exact absurd e z
    · exact .inl z
    · exact .inr z
  obtain ⟨e0, rest, hcons⟩ : ∃ e0 rest, args = e0 :: rest := by
    rw [hargs]
    cases init with
    | nil => exact ⟨_, _, rfl⟩
    | cons a b => exact ⟨_, _, rfl⟩
  have hpc := hp
  rw [hcons] at hpc
  obtain ⟨n1, n2⟩ := plain_cons hpc
  refine ⟨fun pins s σ H Q I h => ?_⟩
  obtain ⟨lm, σD, M, sm, p0⟩ := h
  unfold evE at p0
  refine wpAny_Call_Name_kw (ld_glob I (F.gl x1) (by rw [L.mg]; exact z1) ?_ x2)
  rw [hcons]
  refine PySem.W.callWith_K (h₀ := X.base) I.ok.mod.kin (by rw [L.K]; exact z2) ?_ (star_ne n1) (back_any n2)
  rw [← hcons, hargs]
  refine lam_spl rfl hA I sm p0 fun vs us H1 s1 ds M1 lm1 I1 r g1 p1 => ?_
  cases ec : caps σD js with
  | none =>
    rw [ec] at p1
    exact p1.elim
  | some cvs =>
    rw [ec] at p1
    have hfree : ∀ y ∈ sc.names, y.2 = .free → ∃ c, X.env.cells.lookup y.1 = some c := fun y hy e => (hfree1 y hy e).elim (fun z => I1.ok.has _ (.inl z)) fun z => I1.ok.has _ (.inr z)
    have TB : TabB X.base X.mg cA P := by
      rw [L.mg]
      exact L.tab (cA, P) hcs
    have hT1 : Tabs Z.T H1 := by
      have := g1.m.t
      rw [L.T] at this
      exact this
    refine lam_make2 I1 TB hcode hT (fun q hq e => Zk.tabs q hq _ hT e) hT1 (plain_defaults hpa _) hfree fun f c' pm' ctv H2 s' I2 eN T2 hf hfn hfrm hco => ?_
    refine ⟨I2.kIn, ?_⟩
    show wpAny _ _ (call (.ref (Z.fn g)) (us ++ [.ref f])) _ _ _
    have x12 : Ext lm1 H1 lm1 H2 := ⟨⟨[], by simp⟩, fun a _ => .kept fun o e t => eN a o e t, fun a o n e t => ⟨n, eN a o e t⟩⟩
    have keep : ∀ a ∈ lm1, H2 a = H1 a := fun a ha => by
      obtain ⟨i, hi, e⟩ := List.getElem_of_mem ha
      have hM : i < M1.length := by rw [← g1.m.m.len]; exact hi
      obtain ⟨u, e2, hu⟩ := (g1.m.m.at_ i a M1[i] (by rw [List.getElem?_eq_getElem hi, e]) (List.getElem?_eq_getElem hM)).some
      rw [e2]
      exact eN a _ e2 hu
    have m2 : St X.K c.T lm1 H2 M1 := ⟨relM_ext g1.m.m x12 keep, by rw [L.T]; exact T2, c.T.mono _ _ _ _ x12 g1.m.j⟩
    have rs : RelS X.K lm1 c.fs H2 σ σD := x12.relS (g1.x.relS sm.s)
    obtain ⟨ws, w1, w2⟩ := caps_reps rs ec
    have CA := NdefX.cells_of I2 (NdefX.Caps.made (fr := freeOf sc.names) (js := js) I2.ok hfree1 (fun y hy => freeOf_mem hy) (by rw [F.N]; exact chkFr_map hfr))
    rw [w2] at CA
    -- the base of the callee
    obtain ⟨B, B1, B2, B3⟩ := restrict_sz s'.heap fun b => H2 b = none ∧ b ∉ frs X.stack
    have inB : ∀ b o, s'.heap.get? b = some o → H2 b = none → b ∉ frs X.stack → B.get? b = some o := fun b o e1 e2 e3 => by rw [B1 b ⟨e2, e3⟩]; exact e1
    have ofB : ∀ b o, B.get? b = some o → s'.heap.get? b = some o ∧ H2 b = none ∧ b ∉ frs X.stack := fun b o e => by
      by_cases hb : H2 b = none ∧ b ∉ frs X.stack
      · rw [B1 b hb] at e
        exact ⟨e, hb.1, hb.2⟩
      · rw [B2 b hb] at e
        cases e
    have keepB : ∀ b o, X.base.get? b = some o → B.get? b = some o := fun b o e => by
      obtain ⟨h1, h2⟩ := I2.bs b o e
      refine inB b o h1 h2 fun hb => ?_
      have := (I2.stack.mem hb).1
      rw [e] at this
      cases this
    have modB : Mod Z.K Z.mg B := by
      rw [← L.K, ← L.mg]
      exact ⟨hm.kin.keeps keepB, hm.glob.keeps keepB, let ⟨mb, h1, h2⟩ := hm.blt; ⟨mb, h1.keeps keepB, h2⟩, hm.nolimit.keeps keepB⟩
    have tabB' : ∀ p ∈ Z.cs, TabB B Z.mg p.1 p.2 := fun p hp => let h := L.tab p hp; ⟨h.code.keeps keepB, h.bm.keeps keepB, h.gP⟩
    have p2 := p1.ext x12
    rw [L.g] at p2
    have p2 : Post X.K c σ Q lm1 H2 (run Z.pr Z.fuel k (c.C ++ [⟨nps, nN, lb, cvs⟩]) (.fn g) (ds ++ [.clo c.C.length]) M1) := p2
    have hne : run Z.pr Z.fuel k (c.C ++ [⟨nps, nN, lb, cvs⟩]) (.fn g) (ds ++ [.clo c.C.length]) M1 ≠ .bad := fun z => by
      rw [z] at p2
      exact p2.elim
    obtain ⟨d, e1, e2⟩ := run_len hne
    have Fk := S B modB tabB' g d e1
    rw [← L.P, ← L.w, ← L.K, ← L.mg] at Fk
    have env0 : Env0 X.prog X.w X.K X.mg B X.A X.stack s' H2 := by
      refine ⟨I2.ok.frames, by rw [L.K, L.mg]; exact modB, fun b o e => let h := ofB b o e; ⟨h.1, h.2.1⟩, Nat.le_of_eq B3, funFrames_none I2.stack fun b hb => B2 b fun h => h.2 hb, I2.stkFree, I2.hok, I2.bare⟩
    have j0 := g1.m.j
    rw [L.T] at j0
    obtain ⟨l0, j0⟩ := j0
    have hlen : (vs ++ [V.ref f]).length = (Z.ps g).length := by
      have e3 := g1.r.len
      rw [List.length_append] at e2
      have e4 := Zk.lens g d e1
      rw [List.length_append]
      simp only [List.length_cons, List.length_nil] at e2 ⊢
      omega
    have spd : spF Z k B g (vs ++ [.ref f]) H2 Q fun cls d H' => c.W cls d σ H' := by
      refine ⟨c.C ++ [⟨nps, nN, lb, cvs⟩], c.fs ++ [f], lm1, M1, ds ++ [.clo c.C.length], hlen, ⟨by have := m2.m; rw [L.T] at this; rw [← L.K]; exact this, T2, by rw [List.length_append, List.length_append, l0]; rfl, fun n cn en => ?_⟩, ?_, ?_⟩
      · by_cases hn : n < c.C.length
        · rw [List.getElem?_append_left hn] at en
          obtain ⟨f', e3, ca⟩ := j0 n cn en
          exact ⟨f', by rw [List.getElem?_append_left (by rw [← l0]; exact hn)]; exact e3, (ca.ext x12).more keepB [f]⟩
        · have hn2 : n = c.C.length := by
            have := (List.getElem?_eq_some_iff.mp en).1
            rw [List.length_append] at this
            simp at this
            omega
          subst hn2
          rw [List.getElem?_append_right (Nat.le_refl _), Nat.sub_self] at en
          simp at en
          subst en
          refine ⟨f, by rw [l0, List.getElem?_append_right (Nat.le_refl _), Nat.sub_self]; rfl, ?_⟩
          have cellB : ∀ y a, (cloFrom X.env.cells sc.names []).lookup y = some a → ∀ v, s'.heap.IsCell a v → B.IsCell a v := fun y a e v ⟨o, ho, hdv⟩ => by
            have e' := NdefX.clo_cm hfree e
            refine ⟨o, inB a o ho (I2.freeC y a e') (fun hb => ?_), hdv⟩
            rcases List.mem_cons.mp (I2.stkSub a hb) with z | z
            · exact I2.cne y a e' z
            · obtain ⟨_, o2, ho2, _⟩ := I2.ok.funs.mem z
              exact absurd (Nat.lt_of_lt_of_le (Heap.lt_size ho2) (I2.ok.cab y a (fnA y) e')) (Nat.lt_irrefl _)
          refine ⟨inLam t pn (freeOf sc.names) sc, pn, freeOf sc.names, X.env.qual ++ "<lambda>", params, body, sc, cloFrom X.env.cells sc.names [], pm', ctv, c', ws, inB f _ hf hfn hfrm, ?_, ⟨L.same.defs, L.same.nums, L.same.free, L.same.cls, L.same.subs, L.same.kits, L.same.inis, L.same.cons, L.same.wds⟩, rfl, rfl, rfl, rfl, NS, fun us hu => bind_one hpa hp1 us hu, hb, hps, hnN, ?_, ?_, fun y a e => ?_, CA.inj, fun i y e => ?_⟩
          · refine hx_of (fun z => ?_) hco
            have q := keep c' z
            obtain ⟨i, hi, e⟩ := List.getElem_of_mem z
            have hM : i < M1.length := by rw [← g1.m.m.len]; exact hi
            have hcell := g1.m.m.at_ i c' M1[i] (by rw [List.getElem?_eq_getElem hi, e]) (List.getElem?_eq_getElem hM)
            rw [← q, hco] at hcell
            exact codeO_cell hcell
          · have := CA.len
            rw [List.length_map] at this
            exact this
          · rw [← L.K]
            exact reps_fs w1 [f]
          · obtain ⟨_, v, z⟩ := CA.all y a e
            exact ⟨v, cellB y a e v z⟩
          · obtain ⟨a, e3, e4⟩ := CA.has i y e
            refine ⟨a, e3, fun v ev => ?_⟩
            obtain ⟨u, ru, z⟩ := e4 v (by rw [List.getElem?_map, ev]; rfl)
            exact ⟨u, ru, cellB y a e3 _ z⟩
      · refine Reps.app (reps_fs (x12.reps (by rw [← L.K]; exact g1.r)) [f]) ⟨⟨f, ?_, rfl⟩, trivial⟩
        rw [l0, List.getElem?_append_right (Nat.le_refl _), Nat.sub_self]
        rfl
      · have nc := run_noclo Z.pr Z.fuel k (c.C ++ [⟨nps, nN, lb, cvs⟩]) (.fn g) (ds ++ [.clo c.C.length]) M1
        cases er : run Z.pr Z.fuel k (c.C ++ [⟨nps, nN, lb, cvs⟩]) (.fn g) (ds ++ [.clo c.C.length]) M1 with
        | bad =>
          rw [er] at p2
          exact p2.elim
        | exc y M' =>
          rw [er] at p2
          intro cls dd lm' H' x' m' he
          refine p2 cls dd lm' H' x' ⟨by rw [L.K, L.T]; exact m'.m, by rw [L.T]; exact m'.t, c.T.mono _ _ _ _ x' m2.j⟩ ?_
          rw [L.er]
          exact he
        | ok dv M' =>
          rw [er] at p2 nc
          intro v lm' H' x' m' rr
          refine p2 v lm' H' x' ⟨by rw [L.K, L.T]; exact m'.m, by rw [L.T]; exact m'.t, c.T.mono _ _ _ _ x' m2.j⟩ ?_
          rw [L.K]
          cases dv with
          | clo n => exact nc.elim
          | _ => exact rr
    have r2 : Vals (vs ++ [V.ref f]) (us ++ [Value.ref f]) := r.append (.cons rfl .nil)
    have hb2 := z3 s' (us ++ [Value.ref f]) (by rw [← L.K]; exact I2.kIn) (by rw [List.append_nil, ← r2.length]; exact hlen)
    rw [List.append_nil] at hb2
    refine wpAny_call (codeAny_mono (Fk.run X.A X.stack s' H2 ⟨us ++ [.ref f], []⟩ (us ++ [.ref f]) (vs ++ [.ref f]) Q _ L.room env0 hb2 r2 spd) fun r s2 hq => ?_)
    cases r with
    | error e => exact L.takes e s2 (XE.of_call I2 (fun cls d H' h => h) hq)
    | ok fl =>
      cases fl with
      | ret u => exact I2.after hq
      | next => exact False.elim hq
      | brk => exact False.elim hq
      | cont => exact False.elim hq
end
end Ev

end

/-! ## EvN -/
section
set_option Elab.async false
set_option linter.all false
set_option maxRecDepth 100000
set_option maxHeartbeats 1000000
/-! Dicts, constants of the module, slices from behind. -/
namespace Ev
open PySem PySem.Spec PyProof.Rows L2 LamX
/-! ### the check's comparisons -/
mutual
theorem dEq_of : ∀ {a b : PyData}, dEq a b = true → a = b
  | .none, b, h => by cases b <;> first | rfl | cases h
  | .bool x, b, h => by
    cases b <;> first | (cases h; done) | skip
    rw [beq_iff_eq.mp (show (x == _) = true from h)]
  | .int x, b, h => by
    cases b <;> first | (cases h; done) | skip
    rw [of_decide_eq_true (show decide (x = _) = true from h)]
  | .str x, b, h => by
    cases b <;> first | (cases h; done) | skip
    rw [of_decide_eq_true (show decide (x = _) = true from h)]
  | .tuple xs, b, h => by
    cases b <;> first | (cases h; done) | skip
    rw [dEqs_of (show dEqs xs _ = true from h)]
  | .list _, b, h => by cases b <;> cases h
  | .dict _, b, h => by cases b <;> cases h
theorem dEqs_of : ∀ {a b : List PyData}, dEqs a b = true → a = b
  | [], b, h => by cases b <;> first | rfl | cases h
  | x :: xs, b, h => by
    cases b with
    | nil => cases h
    | cons y ys =>
      have h : (dEq x y && dEqs xs ys) = true := h
      rw [Bool.and_eq_true] at h
      rw [dEq_of h.1, dEqs_of h.2]
end
theorem kvEq_of : ∀ {a b : List (Str × PyData)}, kvEq a b = true → a = b
  | [], [], _ => rfl
  | (x, d) :: r, (y, e) :: q, h => by
    have h : ((decide (x = y) && dEq d e) && kvEq r q) = true := h
    simp only [Bool.and_eq_true, decide_eq_true_eq] at h
    rw [h.1.1, dEq_of h.1.2, kvEq_of h.2]
  | [], _ :: _, h => by cases h
  | _ :: _, [], h => by cases h
/-! ### keys -/
mutual
theorem nkey_dv {K : PySem.W.Frag} {H : Hp} : ∀ (d : PyData) (v : V) (k : NestedKey), Dv K H v d → nkey d = some k → NKv K H v k
  | .none, _, _, h, e => by
    cases h
    cases e
    exact .non
  | .bool b, _, _, h, e => by
    cases h
    cases e
    exact .bl b
  | .int i, _, _, h, e => by
    cases h
    cases e
    exact .int i
  | .str x, _, _, h, e => by
    cases h
    cases e
    exact .str x
  | .tuple ds, _, _, h, e => by
    unfold nkey at e
    cases q : nkeys ds with
    | none =>
      rw [q] at e
      cases e
    | some ks =>
      rw [q] at e
      cases e
      cases h with
      | tup hs ha => exact .tup hs.sqT (nkeys_dv ds _ ks ha q)
  | .list _, _, _, _, e => by cases e
  | .dict _, _, _, _, e => by cases e
theorem nkeys_dv {K : PySem.W.Frag} {H : Hp} : ∀ (ds : List PyData) (vs : List V) (ks : List NestedKey), DvAll K H vs ds → nkeys ds = some ks → NKs K H vs ks
  | [], _, _, h, e => by
    cases h
    cases e
    exact .nil
  | d :: ds, _, _, h, e => by
    cases h with
    | cons h1 h2 =>
      unfold nkeys at e
      cases q : nkey d with
      | none =>
        rw [q] at e
        cases e
      | some k =>
        rw [q] at e
        cases q2 : nkeys ds with
        | none =>
          rw [q2] at e
          cases e
        | some ks =>
          rw [q2] at e
          cases e
          exact .cons (nkey_dv d _ k h1 q) (nkeys_dv ds _ ks h2 q2)
end
theorem nkey_keyD (k : Key) : nkey (keyD k) = some (match k with | .inl i => .num i | .inr x => .text x) := by cases k <;> rfl
theorem keyD_eq {k j : Key} : nkey (keyD k) = nkey (keyD j) ↔ k = j := by
  rw [nkey_keyD, nkey_keyD]
  cases k <;> cases j <;> simp
theorem DKs.find {K : PySem.W.Frag} {H : Hp} {k : Key} : ∀ {kvs : List (Key × V)} {xs : List PyData}, DKs K H kvs xs → (∀ d, dfind xs (keyD k) = some d → ∃ v, valV kvs k = some v ∧ Dv K H v d) ∧ (dfind xs (keyD k) = none → valV kvs k = none)
  | _, _, .nil => ⟨fun d h => (by cases h), fun _ => rfl⟩
  | _, _, @DKs.cons _ _ j v d r xs h t => by
    obtain ⟨i1, i2⟩ := DKs.find (k := k) t
    by_cases e : j = k
    · subst e
      rw [valV_pos (p := (j, v)) (r := r) rfl]
      unfold dfind
      simp only [if_true]
      exact ⟨fun d' h' => (by cases h'; exact ⟨v, rfl, h⟩), fun h' => by cases h'⟩
    · rw [valV_neg (p := (j, v)) (r := r) e]
      unfold dfind
      simp only [if_neg (fun z => e (keyD_eq.mp z))]
      exact ⟨i1, i2⟩
theorem DKs.isS {K : PySem.W.Frag} {H : Hp} {k : Key} {kvs : List (Key × V)} {xs : List PyData} (h : DKs K H kvs xs) : (dfind xs (keyD k)).isSome = (valV kvs k).isSome := by
  obtain ⟨i1, i2⟩ := h.find (k := k)
  cases q : dfind xs (keyD k) with
  | none => rw [i2 q]; rfl
  | some d =>
    obtain ⟨v, e, _⟩ := i1 d q
    rw [e]
    rfl
theorem DKs.len {K : PySem.W.Frag} {H : Hp} : ∀ {kvs : List (Key × V)} {xs : List PyData}, DKs K H kvs xs → kvs.length = xs.length
  | _, _, .nil => rfl
  | _, _, .cons _ t => by rw [List.length_cons, List.length_cons, t.len]
theorem DKs.putL {K : PySem.W.Frag} {H : Hp} {k : Key} {v : V} {d : PyData} (hv : Dv K H v d) : ∀ {kvs : List (Key × V)} {xs : List PyData}, DKs K H kvs xs → DKs K H (kvs.map fun kv => if kv.1 = k then (kv.1, v) else kv) (dputL (keyD k) d xs)
  | _, _, .nil => .nil
  | _, _, @DKs.cons _ _ j w e r xs h t => by
    have ih := DKs.putL (k := k) hv t
    rw [List.map_cons]
    unfold dputL
    by_cases hj : j = k
    · subst hj
      simp only [if_true]
      exact .cons hv ih
    · simp only [if_neg hj, if_neg (fun z => hj (keyD_eq.mp z))]
      exact .cons h ih
theorem DKs.snoc {K : PySem.W.Frag} {H : Hp} {k : Key} {v : V} {d : PyData} (hv : Dv K H v d) : ∀ {kvs : List (Key × V)} {xs : List PyData}, DKs K H kvs xs → DKs K H (kvs ++ [(k, v)]) (xs ++ [.tuple [keyD k, d]])
  | _, _, .nil => .cons hv .nil
  | _, _, .cons h t => .cons h (DKs.snoc hv t)
theorem DKs.put {K : PySem.W.Frag} {H : Hp} {k : Key} {v : V} {d : PyData} (hv : Dv K H v d) {kvs : List (Key × V)} {xs : List PyData} (h : DKs K H kvs xs) : DKs K H (putK kvs k v) (dput xs (keyD k) d) := by
  unfold putK dput
  rw [h.isS, valV_any]
  split
  · exact h.putL hv
  · exact h.snoc hv
theorem DNs.find {K : PySem.W.Frag} {H : Hp} {kd : PyData} {k : NestedKey} (hk : nkey kd = some k) : ∀ {kvs : NKV} {xs : List PyData}, DNs K H kvs xs → (∀ d, dfind xs kd = some d → ∃ v, nGet kvs k = some v ∧ Dv K H v d) ∧ (dfind xs kd = none → nGet kvs k = none)
  | _, _, .nil => ⟨fun d h => (by cases h), fun _ => rfl⟩
  | _, _, @DNs.cons _ _ j b v jd d r xs h1 h2 h3 h4 t => by
    obtain ⟨i1, i2⟩ := DNs.find hk t
    unfold dfind nGet
    by_cases e : j = k
    · subst e
      simp only [h2, hk, if_true, List.find?_cons, decide_true, Option.map_some]
      exact ⟨fun d' h' => (by cases h'; exact ⟨v, rfl, h4⟩), fun h' => by cases h'⟩
    · have e2 : ¬ (some j = some k) := fun z => e (Option.some.inj z)
      simp only [h2, hk, if_neg e2, List.find?_cons, decide_eq_false e]
      exact ⟨i1, i2⟩
theorem DNs.isS {K : PySem.W.Frag} {H : Hp} {kd : PyData} {k : NestedKey} (hk : nkey kd = some k) {kvs : NKV} {xs : List PyData} (h : DNs K H kvs xs) : (dfind xs kd).isSome = (nGet kvs k).isSome := by
  obtain ⟨i1, i2⟩ := h.find hk
  cases q : dfind xs kd with
  | none => rw [i2 q]; rfl
  | some d =>
    obtain ⟨v, e, _⟩ := i1 d q
    rw [e]
    rfl
theorem DNs.len {K : PySem.W.Frag} {H : Hp} : ∀ {kvs : NKV} {xs : List PyData}, DNs K H kvs xs → kvs.length = xs.length
  | _, _, .nil => rfl
  | _, _, .cons _ _ _ _ t => by rw [List.length_cons, List.length_cons, t.len]
theorem DNs.keys {K : PySem.W.Frag} {H : Hp} {lm : List Addr} : ∀ {kvs : NKV} {xs : List PyData}, DNs K (Hx lm H) kvs xs → NKeys K H kvs
  | _, _, .nil => fun p h => by cases h
  | _, _, .cons h1 h2 h3 _ t => fun p h => by
    rcases List.mem_cons.mp h with rfl | h
    · exact ⟨nkey_dv _ _ _ ((up_Hx lm H).dv _ _ h1) h2, h3⟩
    · exact t.keys p h
theorem DNs.putL {K : PySem.W.Frag} {H : Hp} {kd : PyData} {k : NestedKey} (hk : nkey kd = some k) {v : V} {d : PyData} (hv : Dv K H v d) : ∀ {kvs : NKV} {xs : List PyData}, DNs K H kvs xs → DNs K H (kvs.map fun x => if x.1 = k then (x.1, x.2.1, v) else x) (dputL kd d xs)
  | _, _, .nil => .nil
  | _, _, @DNs.cons _ _ j b w jd e r xs h1 h2 h3 h4 t => by
    have ih := DNs.putL hk hv t
    rw [List.map_cons]
    unfold dputL
    by_cases hj : j = k
    · subst hj
      simp only [h2, hk, if_true]
      exact .cons h1 h2 h3 hv ih
    · have e2 : ¬ (some j = some k) := fun z => hj (Option.some.inj z)
      simp only [h2, hk, if_neg hj, if_neg e2]
      exact .cons h1 h2 h3 h4 ih
theorem DNs.snoc {K : PySem.W.Frag} {H : Hp} {kd : PyData} {k : NestedKey} {b : Addr} (hb : Dv K H (.ref b) kd) (hk : nkey kd = some k) (h8 : k.depth ≤ 8) {v : V} {d : PyData} (hv : Dv K H v d) : ∀ {kvs : NKV} {xs : List PyData}, DNs K H kvs xs → DNs K H (kvs ++ [(k, b, v)]) (xs ++ [.tuple [kd, d]])
  | _, _, .nil => .cons hb hk h8 hv .nil
  | _, _, .cons h1 h2 h3 h4 t => .cons h1 h2 h3 h4 (DNs.snoc hb hk h8 hv t)
theorem DNs.put {K : PySem.W.Frag} {H : Hp} {kd : PyData} {k : NestedKey} {b : Addr} (hb : Dv K H (.ref b) kd) (hk : nkey kd = some k) (h8 : k.depth ≤ 8) {v : V} {d : PyData} (hv : Dv K H v d) {kvs : NKV} {xs : List PyData} (h : DNs K H kvs xs) : DNs K H (nPut kvs k b v) (dput xs kd d) := by
  unfold nPut dput
  rw [h.isS hk]
  split
  · exact h.putL hk hv
  · exact h.snoc hb hk h8 hv
theorem keyOk_f {kd : PyData} (h : keyOk false kd = true) : ∃ k : Key, kd = keyD k := by
  cases kd with
  | int i => exact ⟨.inl i, rfl⟩
  | str x => exact ⟨.inr x, rfl⟩
  | _ => cases h
theorem keyOk_t {kd : PyData} (h : keyOk true kd = true) : ∃ ds k, kd = .tuple ds ∧ nkey kd = some k ∧ k.depth ≤ 8 := by
  cases kd with
  | tuple ds =>
    have h : (match nkeys ds with
      | some ks => decide ((NestedKey.tup ks).depth ≤ 8)
      | none => false) = true := h
    cases q : nkeys ds with
    | none =>
      rw [q] at h
      cases h
    | some ks =>
      rw [q] at h
      exact ⟨ds, .tup ks, rfl, by unfold nkey; rw [q]; rfl, of_decide_eq_true h⟩
  | _ => cases h
theorem dv_keyD {K : PySem.W.Frag} {H : Hp} {v : V} {k : Key} (h : Dv K H v (keyD k)) : v = kV k := by
  cases k <;> (cases h; rfl)
theorem dv_tup {K : PySem.W.Frag} {H : Hp} {v : V} {ds : List PyData} (h : Dv K H v (.tuple ds)) : ∃ b, v = .ref b := by
  cases h
  exact ⟨_, rfl⟩
section
variable {X : Cx} {c : Cv} {t : Tc} {k : Nat} {Z : Zp}
/-- what a dict of the memory holds -/
theorem dic_has {lm : List Addr} {H : Hp} {M : Mem} {tt : Bool} {n : Nat} {v u : V} {kd : PyData} (hw : c.T.w = X.w) (m : St X.K c.T lm H M) (r : Rep X.K lm c.fs H (.dic tt n) v) (hk : keyOk tt kd = true) (ru : Dv X.K (Hx lm H) u kd) {xs : List PyData} (e : M[n]? = some xs) :
    ∃ a o, v = .ref a ∧ DHas X.K X.w H a u o ∧ o.isSome = (dfind xs kd).isSome ∧ ∀ d, dfind xs kd = some d → ∃ w, o = some w ∧ Dv X.K (Hx lm H) w d := by
  obtain ⟨a, e1, rfl, kk⟩ := r
  have hc := m.m.at_ n a xs e1 e
  cases tt with
  | false =>
    obtain ⟨kvs, e2, h2⟩ := hc.isK kk
    obtain ⟨k, rfl⟩ := keyOk_f hk
    rw [dv_keyD ru]
    exact ⟨a, _, rfl, .k e2 rfl, h2.isS.symm, (h2.find (k := k)).1⟩
  | true =>
    obtain ⟨kvs, e2, h2⟩ := hc.isN kk
    rw [hw] at e2
    obtain ⟨ds, k, rfl, h3, h4⟩ := keyOk_t hk
    obtain ⟨b, rfl⟩ := dv_tup ru
    exact ⟨a, _, rfl, .n e2 h2.keys rfl ⟨nkey_dv _ _ _ ((up_Hx lm H).dv _ _ ru) h3, h4⟩, (h2.isS h3).symm, (h2.find h3).1⟩
theorem s_dnew (hw : c.T.w = X.w) (tt : Bool) {pos : Pos} : PE X (.Dict [] [] pos) (tE X.K c (.dnew tt)) := by
  cases tt with
  | false =>
    refine pe_dnewK.imp fun σ H Q ⟨lm, σD, M, s, p⟩ q n => ?_
    unfold evE at p
    refine p _ (lm ++ [q]) _ (ext_lm s.m.m n) (s.m.mkO n (.dk .nil)) ⟨q, ?_, rfl, _, upd_same⟩
    rw [← s.m.m.len, List.getElem?_append_right (Nat.le_refl _), Nat.sub_self]
    rfl
  | true =>
    refine pe_dnewN.imp fun σ H Q ⟨lm, σD, M, s, p⟩ q n => ?_
    unfold evE at p
    refine p _ (lm ++ [q]) _ (ext_lm s.m.m n) (s.m.mkO n (by rw [← hw]; exact .dn .nil)) ⟨q, ?_, rfl, _, upd_same⟩
    rw [← s.m.m.len, List.getElem?_append_right (Nat.le_refl _), Nat.sub_self]
    rfl
theorem nosl_of {e : Expr} (h : isSl0 e = false) : NoSl e := by
  intro ov iv
  cases e <;> first | rfl | cases h
theorem s_dget (hw : c.T.w = X.w) (hu : X.A.units + 64 < cLine) {d kx : CE} {ed ek : Expr} {pos : Pos} (hd : PE X ed (tE X.K c d)) (hk : PE X ek (tE X.K c kx)) (hs : isSl0 ek = false) : PE X (.Subscript ed ek pos) (tE X.K c (.dget d kx)) :=
  (pe_eget hu hd hk (nosl_of hs)).imp fun σ H Q ⟨lm, σD, M, s, p⟩ => by
    unfold evE at p
    refine ev1 s p fun v H1 x M1 lm1 g1 p1 => ev1 (s.ext g1.x g1.m) p1 fun u H2 y M2 lm2 g2 p2 => ?_
    have r1 := g2.x.rep g1.r
    cases x with
    | dic tt n =>
      cases y with
      | p kd =>
        have p2 : Post X.K c σ Q lm2 H2 (R.opt M2 ((if keyOk tt kd then (M2[n]?).bind fun xs => dfind xs kd else none).map D.p)) := p2
        split at p2
        · rename_i hko
          cases e : M2[n]? with
          | none =>
            rw [e] at p2
            exact p2.elim
          | some xs =>
            rw [e] at p2
            obtain ⟨a, o, rfl, h1, h2, h3⟩ := dic_has hw g2.m r1 hko g2.r e
            have p2 : Post X.K c σ Q lm2 H2 (R.opt M2 ((dfind xs kd).map D.p)) := p2
            cases q : dfind xs kd with
            | none =>
              rw [q] at p2
              exact p2.elim
            | some dd =>
              rw [q] at p2
              obtain ⟨w, rfl, h4⟩ := h3 dd q
              exact ⟨a, w, rfl, h1, p2.here g2.m h4⟩
        · exact p2.elim
      | _ => exact p2.elim
    | _ => exact p2.elim
theorem w_din (hw : c.T.w = X.w) {neg : Bool} {d kx : CE} {σ : L2.St} {H : Hp} {Q : VK} (h : tE X.K c (.din neg kx d) σ H Q) : tEIn X neg (tE X.K c kx) (tE X.K c d) σ H Q := by
  obtain ⟨lm, σD, M, s, p⟩ := h
  unfold evE at p
  refine ev1 s p fun u H1 y M1 lm1 g1 p1 => ev1 (s.ext g1.x g1.m) p1 fun v H2 x M2 lm2 g2 p2 => ?_
  have r1 := g2.x.rep g1.r
  cases x with
  | dic tt n =>
    cases y with
    | p kd =>
      have p2 : Post X.K c σ Q lm2 H2 (R.opt M2 ((if keyOk tt kd then (M2[n]?).map fun xs => (dfind xs kd).isSome else none).map fun b => .p (.bool (if neg then !b else b)))) := p2
      by_cases hko : keyOk tt kd = true
      · rw [if_pos hko] at p2
        cases e : M2[n]? with
        | none =>
          rw [e] at p2
          exact p2.elim
        | some xs =>
          rw [e] at p2
          obtain ⟨a, o, rfl, h1, h2, h3⟩ := dic_has hw g2.m g2.r hko r1 e
          refine ⟨a, o, rfl, h1, ?_⟩
          rw [h2]
          exact Post.here (d := .p (.bool (if neg then !(dfind xs kd).isSome else (dfind xs kd).isSome))) p2 g2.m (Dv.bl _)
      · rw [if_neg hko] at p2
        exact p2.elim
    | _ => exact p2.elim
  | _ => exact p2.elim
theorem s_din (hw : c.T.w = X.w) (hu : X.A.units + 64 < cLine) {neg : Bool} {op : CmpOp} {d kx : CE} {ed ek : Expr} {pos : Pos} (hop : negB neg op = true) (hm : behindInMarks op ed = false) (hk : PE X ek (tE X.K c kx)) (hd : PE X ed (tE X.K c d)) :
    PE X (.Compare ek [op] [ed] pos) (tE X.K c (.din neg kx d)) ∧ PT X (.Compare ek [op] [ed] pos) (tT X.K c (.din neg kx d)) := by
  cases op <;> first | (cases neg <;> cases hop; done) | skip
  · cases neg with
    | true => cases hop
    | false => exact ⟨(pe_cmp (pc_ein hu hk hd) hm).imp fun σ H Q => w_din hw, (pt_cmp (pc_ein hu hk hd) hm).imp fun σ H Q h => w_din hw h⟩
  · cases neg with
    | false => cases hop
    | true => exact ⟨(pe_cmp (pc_enotin hu hk hd) hm).imp fun σ H Q => w_din hw, (pt_cmp (pc_enotin hu hk hd) hm).imp fun σ H Q h => w_din hw h⟩
/-! ### written dicts, constants -/
theorem wdB_of {x : Str} {kvs : List (Str × PyData)} (h : wdB t x kvs = true) : glo t x = true ∧ t.wds.lookup x = some kvs := by
  unfold wdB at h
  rw [Bool.and_eq_true] at h
  obtain ⟨h1, h2⟩ := h
  refine ⟨h1, ?_⟩
  split at h2
  · rename_i l e
    rw [kvEq_of h2]
    exact e
  · cases h2
theorem s_con_ (Zk : Zok Z) (F : Fit X t) (L : Cll Z X t c k) {x : Str} {d : PyData} {pos : Pos} (h : (glo t x && (match t.cons.lookup x with | some e => dEq d e | none => false)) = true) : PE X (.Name x pos) (tE X.K c (.con d)) := by
  rw [Bool.and_eq_true] at h
  obtain ⟨h1, h2⟩ := h
  obtain ⟨x1, x2, _, _⟩ := glo_of h1
  split at h2
  · rename_i e0 e
    cases dEq_of h2
    rw [L.same.cons] at e
    obtain ⟨v, u, z1, z2, z3⟩ := Zk.cons x d e
    refine s_con (pe_glob (F.gl x1) (by rw [L.mg]; exact z1) z2 x2) (fun H => by rw [L.K]; exact z3 H) fun g σ M => ?_
    unfold evE
    rfl
  · cases h2
theorem s_wget (Zk : Zok Z) (F : Fit X t) (L : Cll Z X t c k) {x : Str} {kvs : List (Str × PyData)} {kx : CE} {ek : Expr} {p pos : Pos} (h : wdB t x kvs = true) (hs : isSl0 ek = false) (hk : PE X ek (tE X.K c kx)) : PE X (.Subscript (.Name x p) ek pos) (tE X.K c (.wget kvs kx)) := by
  obtain ⟨h1, h2⟩ := wdB_of h
  obtain ⟨x1, x2, _, _⟩ := glo_of h1
  rw [L.same.wds] at h2
  obtain ⟨a, es, n, z1, z2, z3⟩ := Zk.wds x kvs h2
  rw [← L.K, ← L.w] at z2
  have hn : PE X (.Name x p) (tC (.ref a)) := pe_glob (F.gl x1) (by rw [L.mg]; exact z1) (v := .ref a) rfl x2
  refine ⟨fun pins s σ H Q I h => ?_⟩
  obtain ⟨lm, σD, M, sm, p0⟩ := h
  unfold evE at p0
  refine subD_of PySem.F.slot_dict_getitem.lookup (nosl_of hs) (thn (hn.run pins s σ H (fun v H1 => v = .ref a ∧ H1 = H) I ⟨rfl, rfl⟩) fun u s1 ⟨v, H1, I1, r1, q1⟩ => ?_)
  obtain ⟨rfl, rfl⟩ := q1
  obtain rfl : u = Value.ref a := r1
  refine thn (hk.run pins s1 σ H1 _ I1 (ev1 (R := fun v H2 => ∃ d M1 lm1, Got X.K c lm H1 lm1 H2 d M1 v ∧ Post X.K c σ Q lm1 H2 _) sm p0 fun v H2 d M1 lm1 g1 p1 => ⟨d, M1, lm1, g1, p1⟩)) fun iv s2 ⟨v, H2, I2, r2, d, M1, lm1, g1, p1⟩ => ?_
  obtain ⟨gx, gm, gr⟩ := g1
  cases d with
  | p d =>
    have gr : Dv X.K (Hx lm1 H2) v d := gr
    cases gr with
    | str z =>
      have p1 : Post X.K c σ Q lm1 H2 (R.opt M1 ((kvs.lookup z).map D.p)) := p1
      cases q : kvs.lookup z with
      | none =>
        rw [q] at p1
        exact p1.elim
      | some dd =>
        rw [q] at p1
        obtain ⟨v0, u0, e1, e2, e3⟩ := (z3 z).1 dd q
        rw [← L.K] at e1
        refine ⟨kd_type z2 I2, op_item_kd z2 pins s2 σ H2 (.ref a) (.str z) (.ref a) iv Q I2 rfl r2 ⟨z, u0, v0, rfl, rfl, e1, e2, p1.here gm (by rw [L.K]; exact e3 _)⟩⟩
    | _ => exact p1.elim
  | _ => exact p1.elim
theorem s_win (Zk : Zok Z) (F : Fit X t) (L : Cll Z X t c k) {neg : Bool} {op : CmpOp} {x : Str} {kvs : List (Str × PyData)} {kx : CE} {ek : Expr} {p pos : Pos} (hop : negB neg op = true) (h : wdB t x kvs = true) (hk : PE X ek (tE X.K c kx)) :
    PE X (.Compare ek [op] [.Name x p] pos) (tE X.K c (.win neg kvs kx)) ∧ PT X (.Compare ek [op] [.Name x p] pos) (tT X.K c (.win neg kvs kx)) := by
  obtain ⟨h1, h2⟩ := wdB_of h
  obtain ⟨x1, x2, _, _⟩ := glo_of h1
  rw [L.same.wds] at h2
  obtain ⟨a, es, n, z1, z2, z3⟩ := Zk.wds x kvs h2
  rw [← L.K, ← L.w] at z2
  have hn : PE X (.Name x p) (tC (.ref a)) := pe_glob (F.gl x1) (by rw [L.mg]; exact z1) (v := .ref a) rfl x2
  have key : ∀ {σ : L2.St} {H : Hp} {Q : VK}, tE X.K c (.win neg kvs kx) σ H Q → tE X.K c kx σ H fun v H1 => ∃ z r, v = .str z ∧ PySem.W.nsIn X.K a z = some r ∧ Q (.bl (if neg then !r.isSome else r.isSome)) H1 := fun {σ H Q} ⟨lm, σD, M, sm, p0⟩ => by
    unfold evE at p0
    refine ev1 sm p0 fun v H1 d M1 lm1 g1 p1 => ?_
    obtain ⟨gx, gm, gr⟩ := g1
    cases d with
    | p d =>
      have gr : Dv X.K (Hx lm1 H1) v d := gr
      cases gr with
      | str z =>
        have p1 : Post X.K c σ Q lm1 H1 (.ok (.p (.bool (if neg then !(kvs.lookup z).isSome else (kvs.lookup z).isSome))) M1) := p1
        cases q : kvs.lookup z with
        | none =>
          rw [q] at p1
          exact ⟨z, none, rfl, by rw [L.K]; exact (z3 z).2 q, p1.here gm (.bl _)⟩
        | some dd =>
          rw [q] at p1
          obtain ⟨v0, u0, e1, _⟩ := (z3 z).1 dd q
          exact ⟨z, some u0, rfl, by rw [L.K]; exact e1, p1.here gm (.bl _)⟩
      | _ => exact p1.elim
    | _ => exact p1.elim
  cases op <;> first | (cases neg <;> cases hop; done) | skip
  · cases neg with
    | true => cases hop
    | false =>
      have w : ∀ {σ : L2.St} {H : Hp} {Q : VK}, tE X.K c (.win false kvs kx) σ H Q → tOp (fun x y H Q => ∃ (z : Str) (r : Option Value), x = .str z ∧ y = .ref a ∧ PySem.W.nsIn X.K a z = some r ∧ Q (.bl r.isSome) H) (tE X.K c kx) (tC (.ref a)) σ H Q := fun {σ H Q} h => by
        obtain ⟨lm, σD, M, sm, p⟩ := key h
        refine ⟨lm, σD, M, sm, ?_⟩
        revert p
        cases evE c.g kx σD M with
        | ok d M1 => exact fun p v lm' H' x m r => let ⟨z, rr, e1, e2, q⟩ := p v lm' H' x m r; ⟨z, rr, e1, rfl, e2, q⟩
        | exc y M1 => exact fun p => p
        | bad => exact fun p => p
      exact ⟨(pe_cmpR (op_in_kd z2) hk hn rfl).imp fun σ H Q => w, (pt_cmpR (op_in_kd z2) hk hn rfl).imp fun σ H Q h => w h⟩
  · cases neg with
    | false => cases hop
    | true =>
      have w : ∀ {σ : L2.St} {H : Hp} {Q : VK}, tE X.K c (.win true kvs kx) σ H Q → tOp (fun x y H Q => ∃ (z : Str) (r : Option Value), x = .str z ∧ y = .ref a ∧ PySem.W.nsIn X.K a z = some r ∧ Q (.bl (!r.isSome)) H) (tE X.K c kx) (tC (.ref a)) σ H Q := fun {σ H Q} h => by
        obtain ⟨lm, σD, M, sm, p⟩ := key h
        refine ⟨lm, σD, M, sm, ?_⟩
        revert p
        cases evE c.g kx σD M with
        | ok d M1 => exact fun p v lm' H' x m r => let ⟨z, rr, e1, e2, q⟩ := p v lm' H' x m r; ⟨z, rr, e1, rfl, e2, q⟩
        | exc y M1 => exact fun p => p
        | bad => exact fun p => p
      exact ⟨(pe_cmpR (op_notIn_kd z2) hk hn rfl).imp fun σ H Q => w, (pt_cmpR (op_notIn_kd z2) hk hn rfl).imp fun σ H Q h => w h⟩
/-! ### slices from behind -/
theorem DvAll.rev {K : PySem.W.Frag} {H : Hp} : ∀ {vs : List V} {ds : List PyData}, DvAll K H vs ds → DvAll K H vs.reverse ds.reverse
  | _, [], h => by cases h; exact .nil
  | _, d :: ds, h => by
    cases h with
    | cons h1 h2 =>
      rw [List.reverse_cons, List.reverse_cons]
      exact (DvAll.rev h2).app (.one h1)
theorem neg1_of {o : Option Expr} (h : neg1 o = true) : ∃ k p1 p2, o = some (.UnaryOp .USub (.Constant (.int 1) k p1) p2) := by
  unfold neg1 at h
  split at h
  · exact ⟨_, _, _, rfl⟩
  · cases h
theorem s_rev {a : CE} {ea : Expr} {k : Nat} {p1 p2 p3 pos : Pos} (ha : PE X ea (tE X.K c a)) : PE X (.Subscript ea (.Slice none none (some (.UnaryOp .USub (.Constant (.int 1) k p1) p2)) p3) pos) (tE X.K c (.rev a)) :=
  (pe_revL ha).imp fun σ H Q ⟨lm, σD, M, s, p⟩ => by
    unfold evE at p
    refine ev1 s p fun v H1 d M1 lm1 g1 p1 => ?_
    cases q : itemsL M1 d with
    | none =>
      simp only [q] at p1
      exact p1.elim
    | some xs =>
      simp only [q] at p1
      obtain ⟨b, vs, rfl, hs, hv⟩ := items_sqL g1.m.m g1.r q
      exact ⟨b, vs, rfl, hs, fun p0 n => p1.new g1.m n (.lst (Hx_some.mpr ⟨notin_lm g1.m.m n, upd_same⟩) ((ext_new n).up.dvAll _ _ (DvAll.rev hv)))⟩
theorem s_revn {a b : CE} {ea eb : Expr} {k : Nat} {p1 p2 p3 pos : Pos} (ha : PE X ea (tE X.K c a)) (hb : PE X eb (tE X.K c b)) : PE X (.Subscript ea (.Slice (some eb) none (some (.UnaryOp .USub (.Constant (.int 1) k p1) p2)) p3) pos) (tE X.K c (.revn a b)) :=
  (pe_revN ha hb).imp fun σ H Q ⟨lm, σD, M, s, p⟩ => by
    unfold evE at p
    refine ev1 s p fun v H1 d M1 lm1 g1 p1 => ev1 (s.ext g1.x g1.m) p1 fun u H2 e M2 lm2 g2 p2 => ?_
    have r1 := g2.x.rep g1.r
    obtain ⟨gx, gm, gr⟩ := g2
    cases e with
    | p e =>
      have gr : Dv X.K (Hx lm2 H2) u e := gr
      cases gr with
      | int i =>
        have p2 : Post X.K c σ Q lm2 H2 (if decide (0 ≤ i) then R.opt M2 ((itemsL M2 d).map fun xs => .p (.list (xs.take (i.toNat + 1)).reverse)) else .bad) := p2
        split at p2
        · rename_i hz
          cases q : itemsL M2 d with
          | none =>
            simp only [q] at p2
            exact p2.elim
          | some xs =>
            simp only [q] at p2
            obtain ⟨b, vs, rfl, hs, hv⟩ := items_sqL gm.m r1 q
            exact ⟨i, rfl, b, vs, i, rfl, rfl, of_decide_eq_true hz, hs, fun p0 n => p2.new gm n (.lst (Hx_some.mpr ⟨notin_lm gm.m n, upd_same⟩) ((ext_new n).up.dvAll _ _ (DvAll.rev (hv.take _))))⟩
        · exact p2.elim
      | _ => exact p2.elim
    | _ => exact p2.elim
theorem s_never {e : Expr} : PE X e (tE X.K c .never) ∧ PT X e (tT X.K c .never) :=
  ⟨⟨fun _ _ _ _ _ _ h => by
    obtain ⟨lm, σD, M, s, p⟩ := h
    unfold evE at p
    exact p.elim⟩, ⟨fun _ _ _ _ _ _ h => by
    obtain ⟨lm, σD, M, s, p⟩ := h
    unfold evE at p
    exact p.elim⟩⟩
end
end Ev

end

/-! ## Ev13 -/
section
set_option Elab.async false
set_option linter.all false
set_option maxRecDepth 100000
set_option maxHeartbeats 2000000
/-! Every expression that the check passes. -/
namespace Ev
open PySem PySem.Spec PyProof.Rows L2 LamX
section
variable {Z : Zp} {k : Nat}
theorem cll_blk {X : Cx} {t : Tc} {c : Cv} (L : Cll Z X t c k) {scope : Scope} {s : Shared} {H : Hp} {C : Addr} {cl : List (Str × Addr)} {fp : List Addr} : Cll Z (X.blk s H scope (compEnvC scope cl C X.env) fp) (inBlk t scope) c.quiet k :=
  ⟨L.P, L.w, L.K, L.mg, L.T, L.g, L.er, ⟨L.same.defs, L.same.nums, L.same.free, L.same.cls, L.same.subs, L.same.kits, L.same.inis, L.same.cons, L.same.wds⟩, L.tab, L.room, L2.takes0, fun h => by cases h⟩
theorem pw_of {X : Cx} {op : BoolOp} {xs : List Expr} {pos : Pos} {tt : TT} (h : PT X (.BoolOp op xs pos) tt) : PW X (.BoolOp op xs pos) tt := ⟨fun whole pins s σ H Q I hq => h.run pins s σ H Q I hq⟩
theorem and_e {a b : Bool} (h : (a && b) = true) : a = true ∧ b = true := by
  cases a <;> cases b <;> first | (cases h; done) | exact ⟨rfl, rfl⟩
theorem or_e {a b : Bool} (h : (a || b) = true) : a = true ∨ b = true := by
  cases a <;> cases b <;> first | (cases h; done) | exact .inl rfl | exact .inr rfl
theorem rg_args {args as : List Expr} {g : Str} (h : rgArgs args = some (g, as)) : ∃ p q, args = [.Call (.Name g p) as [] q] := by
  unfold rgArgs at h
  split at h
  · cases h
    exact ⟨_, _, rfl⟩
  · cases h
theorem chkEs_len {t : Tc} : ∀ {as : List CE} {es : List Expr}, chkEs t as es = true → es.length = as.length
  | [], [], _ => rfl
  | a :: as, e :: es, h => by
    have h1 : (!starB e && (chkE t a e && chkEs t as es)) = true := h
    have h2 : chkEs t as es = true := by
      cases hb : chkEs t as es with
      | true => rfl
      | false =>
        rw [hb, Bool.and_false, Bool.and_false] at h1
        cases h1
    rw [List.length_cons, List.length_cons, chkEs_len h2]
  | [], _ :: _, h => by cases h
  | _ :: _, [], h => by cases h
theorem dec_e {p : Prop} [Decidable p] (h : decide p = true) : p := of_decide_eq_true h
def Res (X : Cx) (c : Cv) (ce : CE) (e : Expr) : Prop := PE X e (tE X.K c ce) ∧ PT X e (tT X.K c ce)
theorem res_val {X : Cx} {c : Cv} {ce : CE} {e : Expr} (h : PE X e (tE X.K c ce)) (he : ∀ whole, isTrue e X.env whole = (do let v ← whole; standAt e.pos; holding [v] (truthy v))) : Res X c ce e := ⟨h, pt_val h he⟩
theorem plain_ix {b : Expr} (h : ∀ l u p, b ≠ .Slice l u none p) : PlainIx b := by
  intro o i
  cases b with
  | Slice l u st p =>
    cases st with
    | none => exact absurd rfl (h l u p)
    | some _ => rfl
  | _ => rfl
theorem fold_ok (iter : Expr) (env : Env) (h : ∀ es k p, iter ≠ .Set es k p) (x : Value) : foldedSetIterable iter env x = pure x := by
  cases iter with
  | Set es k p => exact absurd rfl (h es k p)
  | _ => rfl
def ResL (X : Cx) (c : Cv) (as : List CE) (es : List Expr) : Prop := PA X es (tEs X.K c as) ∧ AllPE X c es as ∧ plainL es = true ∧ es.length = as.length
theorem no_set {t : Tc} {a : CE} {es : List Expr} {kk : Nat} {p : Pos} : chkE t a (.Set es kk p) = false := by
  cases a <;> rfl
theorem name_of {t : Tc} {f x : Str} {n : Prop} [Decidable n] {args xs : List Expr} (h : (if gloB t f && (decide (f = x) && decide n) then some args else none) = some xs) : (gloB t f = true ∧ f = x ∧ n) ∧ args = xs := by
  split at h
  · rename_i h1
    obtain ⟨h1, h2⟩ := and_e h1
    obtain ⟨h2, h3⟩ := and_e h2
    cases h
    exact ⟨⟨h1, dec_e h2, dec_e h3⟩, rfl⟩
  · cases h
theorem allpe1 {X : Cx} {c : Cv} {e : Expr} {as : List CE} (h : AllPE X c [e] as) : ∃ a, as = [a] ∧ starB e = false ∧ PE X e (tE X.K c a) := by
  cases as with
  | nil => exact h.elim
  | cons a as =>
    cases as with
    | nil => exact ⟨a, rfl, h.1⟩
    | cons _ _ => exact h.2.elim
theorem allpe2 {X : Cx} {c : Cv} {e f : Expr} {as : List CE} (h : AllPE X c [e, f] as) : ∃ a b, as = [a, b] ∧ (starB e = false ∧ PE X e (tE X.K c a)) ∧ starB f = false ∧ PE X f (tE X.K c b) := by
  cases as with
  | nil => exact h.elim
  | cons a as =>
    obtain ⟨b, rfl, h2⟩ := allpe1 h.2
    exact ⟨a, b, rfl, h.1, h2⟩
theorem allpe3 {X : Cx} {c : Cv} {e f g : Expr} {as : List CE} (h : AllPE X c [e, f, g] as) : ∃ a b d, as = [a, b, d] := by
  cases as with
  | nil => exact h.elim
  | cons a as =>
    obtain ⟨b, d, rfl, h2⟩ := allpe2 h.2
    exact ⟨a, b, d, rfl⟩
/-- an iterable of the core -/
theorem it_of {X : Cx} {t t2 : Tc} {c : Cv} {it : Ev.It} {iter tge : Expr} {tg : Tg} {args : List CE} {xs : List Expr} (F : Fit X t) (h : itArgs t it iter = some xs) (r : ResL X c args xs) (ht : tupTg it tge = true) (hg : chkTg t2 tg tge = true) : PI X tge iter (tI (isMany tg) X.K c it args) := by
  obtain ⟨r1, r2, r3, r4⟩ := r
  have many : ∀ {es kk p}, tge = .Tuple es kk p → isMany tg = true := fun {es kk p} e => by
    subst e
    cases tg with
    | one _ => cases hg
    | many _ => rfl
  cases it with
  | seq =>
    cases h
    obtain ⟨a, rfl, _, h2⟩ := allpe1 r2
    exact i_seq h2
  | range =>
    cases iter with
    | Call f args2 kws p =>
      cases f with
      | Name x q =>
        cases kws with
        | cons _ _ => cases h
        | nil =>
          obtain ⟨⟨h1, h2, h3⟩, rfl⟩ := name_of (n := 0 < args2.length ∧ args2.length < 4) (x := "range") h
          subst h2
          obtain ⟨g0, g5⟩ := gloB_of h1
          obtain ⟨g1, _, _, g4⟩ := glo_of g0
          match args2, h3, r1, r2, r3 with
          | [e1], _, r1, r2, r3 =>
            obtain ⟨a, rfl, hs, h2⟩ := allpe1 r2
            exact i_rng1 (F.gl g1) (F.fr _ g5) r1 hs
          | [e1, e2], _, r1, r2, r3 =>
            obtain ⟨a, b, rfl, hs, h2⟩ := allpe2 r2
            exact i_rng2 (F.gl g1) (F.fr _ g5) r1 hs.1 h2.1
          | [e1, e2, e3], _, r1, r2, r3 =>
            obtain ⟨a, b, d, rfl⟩ := allpe3 r2
            exact i_rng3 (F.gl g1) (F.fr _ g5) r1 r3
          | [], h3, _, _, _ => exact absurd h3.1 (Nat.lt_irrefl _)
          | _ :: _ :: _ :: _ :: _, h3, _, _, _ =>
            have := h3.2
            simp only [List.length_cons] at this
            omega
      | _ => cases h
    | _ => cases h
  | zip =>
    cases iter with
    | Call f args2 kws p =>
      cases f with
      | Name x q =>
        cases kws with
        | cons _ _ => cases h
        | nil =>
          obtain ⟨⟨h1, h2, h3⟩, rfl⟩ := name_of (n := args2.length = 2) (x := "zip") h
          subst h2
          obtain ⟨g0, g5⟩ := gloB_of h1
          obtain ⟨g1, _, _, g4⟩ := glo_of g0
          match args2, h3, r1, r2, r3 with
          | [e1, e2], _, r1, r2, r3 =>
            obtain ⟨a, b, rfl, hs, h2⟩ := allpe2 r2
            cases tge with
            | Tuple es kk tp =>
              rw [many rfl]
              exact i_zip (F.gl g1) (F.fr _ g5) r1 hs.1 h2.1
            | _ => cases ht
      | _ => cases h
    | _ => cases h
  | enum =>
    cases iter with
    | Call f args2 kws p =>
      cases f with
      | Name x q =>
        cases kws with
        | cons _ _ => cases h
        | nil =>
          obtain ⟨⟨h1, h2, h3⟩, rfl⟩ := name_of (n := args2.length = 1) (x := "enumerate") h
          subst h2
          obtain ⟨g0, g5⟩ := gloB_of h1
          obtain ⟨g1, _, _, g4⟩ := glo_of g0
          match args2, h3, r1, r2, r3 with
          | [e1], _, r1, r2, r3 =>
            obtain ⟨a, rfl, hs, h2⟩ := allpe1 r2
            cases tge with
            | Tuple es kk tp =>
              rw [many rfl]
              exact i_enum (F.gl g1) (F.fr _ g5) r1 hs
            | _ => cases ht
      | _ => cases h
    | _ => cases h
theorem it_noset {t : Tc} {it : Ev.It} {iter : Expr} {args : List CE} {xs : List Expr} (h : itArgs t it iter = some xs) (hc : chkEs t args xs = true) : ∀ es kk p, iter ≠ .Set es kk p := fun es kk p z => by
  subst z
  cases it with
  | seq =>
    cases h
    cases args with
    | nil => cases hc
    | cons a as =>
      obtain ⟨_, h2⟩ := and_e (show (!starB (.Set es kk p) && (chkE t a (.Set es kk p) && chkEs t as [])) = true from hc)
      obtain ⟨h2, _⟩ := and_e h2
      rw [no_set] at h2
      cases h2
  | _ => cases h
theorem t_ife {X : Cx} {c : Cv} {d a b : CE} {σ : L2.St} {H : Hp} {Q : Bool → Hp → Prop} (h : tT X.K c (.ife d a b) σ H Q) : (fun (σ : L2.St) (H : Hp) (Q : Bool → Hp → Prop) => tT X.K c d σ H fun k H1 => if k = true then tT X.K c a σ H1 Q else tT X.K c b σ H1 Q) σ H Q := by
  obtain ⟨lm, σD, M, s, p⟩ := h
  unfold evE at p
  refine evT s p fun k H1 M1 lm1 x m p1 => ?_
  cases k with
  | true => exact ⟨lm1, σD, M1, s.ext x m, p1⟩
  | false => exact ⟨lm1, σD, M1, s.ext x m, p1⟩
theorem plain_app : ∀ {init : List Expr} {a : Arguments} {b : Expr} {sc : Scope} {p : Pos}, plainL init = true → plainL (init ++ [.Lambda a b sc p]) = true
  | [], _, _, _, _, _ => rfl
  | e :: init, a, b, sc, p, h => by
    obtain ⟨h1, h2⟩ := plain_cons h
    show (!starB e && plainL (init ++ [.Lambda a b sc p])) = true
    rw [h1, plain_app h2]
    rfl
mutual
theorem snd_e (Zk : Zok Z) (Sf : FSound Z k) (Sc : ∀ j, k = j + 1 → ESound Z j) : ∀ (ce : CE) (X : Cx) (t : Tc) (c : Cv), Fit X t → Cll Z X t c k → Mod X.K X.mg X.base → ∀ (e : Expr), chkE t ce e = true → Res X c ce e
  | .var i, X, t, c, F, L, hm, e, h => by
    cases e with
    | Name x p =>
      obtain ⟨c1, c2, c3, c4⟩ := chkR_of (show chkR t i x = true from h)
      exact res_val (s_var (by rw [F.N]; exact c1) (by rw [F.sc]; exact c2) c3 c4) fun _ => rfl
    | _ => cases h
  | .non, X, t, c, F, L, hm, e, h => by
    cases e with
    | Constant v j p =>
      cases v with
      | none => exact res_val s_non fun _ => rfl
      | _ => cases h
    | _ => cases h
  | .bl b, X, t, c, F, L, hm, e, h => by
    cases e with
    | Constant v j p =>
      cases v with
      | bool x =>
        cases dec_e (show decide (b = x) = true from h)
        exact res_val s_bl fun _ => rfl
      | _ => cases h
    | _ => cases h
  | .int i, X, t, c, F, L, hm, e, h => by
    cases e with
    | Constant v j p =>
      cases v with
      | int x =>
        cases dec_e (show decide (i = x) = true from h)
        exact res_val s_int fun _ => rfl
      | _ => cases h
    | Name x p =>
      obtain ⟨h1, h2⟩ := and_e (show (glo t x && decide (t.nums.lookup x = some i)) = true from h)
      obtain ⟨g1, g2, _, _⟩ := glo_of h1
      exact res_val (s_glob (F.gl g1) (F.nums x i (dec_e h2)) g2) fun _ => rfl
    | _ => cases h
  | .str z, X, t, c, F, L, hm, e, h => by
    cases e with
    | Constant v j p =>
      cases v with
      | str x =>
        cases dec_e (show decide (z = x) = true from h)
        exact res_val s_str fun _ => rfl
      | _ => cases h
    | _ => cases h
  | .bin o a b, X, t, c, F, L, hm, e, h => by
    cases e with
    | BinOp x op y p =>
      obtain ⟨h1, h2⟩ := and_e (show (binB o op && (chkE t a x && chkE t b y)) = true from h)
      obtain ⟨h2, h3⟩ := and_e h2
      exact res_val (s_bop h1 (snd_e Zk Sf Sc a X t c F L hm x h2).1 (snd_e Zk Sf Sc b X t c F L hm y h3).1) fun _ => rfl
    | _ => cases h
  | .neg a, X, t, c, F, L, hm, e, h => by
    cases e with
    | UnaryOp op x p =>
      cases op with
      | USub => exact res_val (s_neg (snd_e Zk Sf Sc a X t c F L hm x h).1) fun _ => rfl
      | _ => cases h
    | _ => cases h
  | .cmp o a b, X, t, c, F, L, hm, e, h => by
    cases e with
    | Compare x ops ys p =>
      cases ops with
      | nil => cases h
      | cons op ops =>
        cases ops with
        | cons _ _ => cases h
        | nil =>
          cases ys with
          | nil => cases h
          | cons y ys =>
            cases ys with
            | cons _ _ => cases h
            | nil =>
              obtain ⟨h1, h2⟩ := and_e (show ((cmpB o op || (inB o op && !behindInMarks op y)) && (chkE t a x && chkE t b y)) = true from h)
              obtain ⟨h2, h3⟩ := and_e h2
              rcases or_e h1 with h1 | h1
              rotate_left
              · obtain ⟨h1, h4⟩ := and_e h1
                exact s_in h1 (by simpa using h4) (snd_e Zk Sf Sc a X t c F L hm x h2).1 (snd_e Zk Sf Sc b X t c F L hm y h3).1
              exact s_cmp F.units h1 (snd_e Zk Sf Sc a X t c F L hm x h2).1 (snd_e Zk Sf Sc b X t c F L hm y h3).1
    | _ => cases h
  | .chain o o' a b d, X, t, c, F, L, hm, e, h => by
    cases e with
    | Compare x ops ys p =>
      match ops, ys, h with
      | [op, op'], [y, z], h =>
        obtain ⟨h1, h2⟩ := and_e (show ((cmpB o op && cmpB o' op') && (chkE t a x && (chkE t b y && chkE t d z))) = true from h)
        obtain ⟨h0, h1⟩ := and_e h1
        obtain ⟨h2, h3⟩ := and_e h2
        obtain ⟨h3, h4⟩ := and_e h3
        exact s_chain F.units h0 h1 (snd_e Zk Sf Sc a X t c F L hm x h2).1 (snd_e Zk Sf Sc b X t c F L hm y h3).1 (snd_e Zk Sf Sc d X t c F L hm z h4).1
    | _ => cases h
  | .isN a, X, t, c, F, L, hm, e, h => by
    cases e with
    | Compare x ops ys p =>
      match ops, ys, h with
      | [.Is], [.Constant .none _ _], h => exact s_isN (snd_e Zk Sf Sc a X t c F L hm x h).1
    | _ => cases h
  | .notN a, X, t, c, F, L, hm, e, h => by
    cases e with
    | Compare x ops ys p =>
      match ops, ys, h with
      | [.IsNot], [.Constant .none _ _], h => exact s_notN (snd_e Zk Sf Sc a X t c F L hm x h).1
    | _ => cases h
  | .and a b, X, t, c, F, L, hm, e, h => by
    cases e with
    | BoolOp op xs p =>
      match op, xs, h with
      | .And, [x, y], h =>
        obtain ⟨h2, h3⟩ := and_e (show (chkE t a x && chkE t b y) = true from h)
        have i1 := snd_e Zk Sf Sc a X t c F L hm x h2
        have i2 := snd_e Zk Sf Sc b X t c F L hm y h3
        exact ⟨(pe_and i1.1 (pe_one i2.1)).imp fun σ H Q => w_and, (pw_and i1.2 (pw_and1 i2.2)).pt.imp fun σ H Q => t_and⟩
      | .And, x :: y :: z :: r, h =>
        obtain ⟨h2, h3⟩ := and_e (show (chkE t a x && chkE t b (.BoolOp .And (y :: z :: r) p)) = true from h)
        have i1 := snd_e Zk Sf Sc a X t c F L hm x h2
        have i2 := snd_e Zk Sf Sc b X t c F L hm _ h3
        exact ⟨(pe_and i1.1 i2.1).imp fun σ H Q => w_and, (pw_and i1.2 (pw_of i2.2)).pt.imp fun σ H Q => t_and⟩
    | _ => cases h
  | .or a b, X, t, c, F, L, hm, e, h => by
    cases e with
    | BoolOp op xs p =>
      match op, xs, h with
      | .Or, [x, y], h =>
        obtain ⟨h2, h3⟩ := and_e (show (chkE t a x && chkE t b y) = true from h)
        have i1 := snd_e Zk Sf Sc a X t c F L hm x h2
        have i2 := snd_e Zk Sf Sc b X t c F L hm y h3
        exact ⟨(pe_or i1.1 (pe_one i2.1)).imp fun σ H Q => w_or, (pw_or i1.2 (pw_or1 i2.2)).pt.imp fun σ H Q => t_or⟩
      | .Or, x :: y :: z :: r, h =>
        obtain ⟨h2, h3⟩ := and_e (show (chkE t a x && chkE t b (.BoolOp .Or (y :: z :: r) p)) = true from h)
        have i1 := snd_e Zk Sf Sc a X t c F L hm x h2
        have i2 := snd_e Zk Sf Sc b X t c F L hm _ h3
        exact ⟨(pe_or i1.1 i2.1).imp fun σ H Q => w_or, (pw_or i1.2 (pw_of i2.2)).pt.imp fun σ H Q => t_or⟩
    | _ => cases h
  | .not a, X, t, c, F, L, hm, e, h => by
    cases e with
    | UnaryOp op x p =>
      cases op with
      | Not =>
        have i1 := snd_e Zk Sf Sc a X t c F L hm x h
        exact ⟨(pe_not i1.1).imp fun σ H Q => w_not, (pt_not i1.2).imp fun σ H Q => t_not⟩
      | _ => cases h
    | _ => cases h
  | .ife d a b, X, t, c, F, L, hm, e, h => by
    cases e with
    | IfExp z x y p =>
      obtain ⟨h1, h2⟩ := and_e (show (chkE t d z && (chkE t a x && chkE t b y)) = true from h)
      obtain ⟨h2, h3⟩ := and_e h2
      have i0 := snd_e Zk Sf Sc d X t c F L hm z h1
      have i1 := snd_e Zk Sf Sc a X t c F L hm x h2
      have i2 := snd_e Zk Sf Sc b X t c F L hm y h3
      exact ⟨(pe_ifExp i0.2 i1.1 i2.1).imp fun σ H Q => w_ife, (pt_ifE i0.2 i1.2 i2.2).imp fun σ H Q => t_ife⟩
    | _ => cases h
  | .tup es, X, t, c, F, L, hm, e, h => by
    cases e with
    | Tuple xs kk p => exact res_val (s_tup (snd_es Zk Sf Sc es X t c F L hm xs h).1) fun _ => rfl
    | _ => cases h
  | .lst es, X, t, c, F, L, hm, e, h => by
    cases e with
    | List xs p => exact res_val (s_lst (snd_es Zk Sf Sc es X t c F L hm xs h).1) fun _ => rfl
    | _ => cases h
  | .lstM es, X, t, c, F, L, hm, e, h => by
    cases e with
    | List xs p => exact res_val (s_lstM (snd_es Zk Sf Sc es X t c F L hm xs h).1) fun _ => rfl
    | _ => cases h
  | .listM es, X, t, c, F, L, hm, e, h => by
    cases e with
    | Call f args kws p =>
      cases f with
      | Name x q =>
        cases kws with
        | cons _ _ => cases h
        | nil =>
          obtain ⟨h1, u2⟩ := and_e (show (gloB t x && (decide (x = "list") && (decide (args.length = 1) && chkEs t es args))) = true from h)
          obtain ⟨h2, u3⟩ := and_e u2
          obtain ⟨h3, h4⟩ := and_e u3
          have e2 := dec_e h2
          subst e2
          obtain ⟨g0, g5⟩ := gloB_of h1
          obtain ⟨g1, _, _, g4⟩ := glo_of g0
          obtain ⟨r1, r2, r3, r4⟩ := snd_es Zk Sf Sc es X t c F L hm args h4
          match args, h3, r1, r3 with
          | [a0], _, r1, r3 =>
            obtain ⟨n1, n2⟩ := plain_cons r3
            exact res_val (s_listM (k := ()) (F.gl g1) (F.fr _ g5) r1 (star_ne n1) (back_any n2)) fun _ => rfl
      | _ => cases h
    | _ => cases h
  | .idx a i, X, t, c, F, L, hm, e, h => by
    cases e with
    | Subscript x y p =>
      have hy : ∀ l u q, y ≠ .Slice l u none q := fun l u q z => by
        subst z
        cases h
      have h2 : (chkE t a x && chkE t i y) = true := by
        cases y <;> first | exact h | cases h
      obtain ⟨h2, h3⟩ := and_e h2
      exact res_val (s_idx (snd_e Zk Sf Sc a X t c F L hm x h2).1 (snd_e Zk Sf Sc i X t c F L hm y h3).1 (plain_ix hy)) fun _ => rfl
    | _ => cases h
  | .slc a lo hi, X, t, c, F, L, hm, e, h => by
    cases e with
    | Subscript x y p =>
      cases y with
      | Slice l u st q =>
        cases st with
        | some _ => cases h
        | none =>
          obtain ⟨h1, h2⟩ := and_e (show (chkE t a x && (chkEs t lo (optL l) && chkEs t hi (optL u))) = true from h)
          obtain ⟨h2, h3⟩ := and_e h2
          have po : ∀ (o : Option Expr) (as : List CE), ResL X c as (optL o) → PO X o (tPs X.K c as) := fun o as r => by
            obtain ⟨_, r2, _, r4⟩ := r
            cases o with
            | none =>
              cases as with
              | nil => exact po_nil
              | cons _ _ => cases r4
            | some eo =>
              cases as with
              | nil => cases r4
              | cons a0 ar =>
                cases ar with
                | nil => exact po_one r2.1.2
                | cons _ _ => exact r2.2.elim
          exact res_val (s_slc (snd_e Zk Sf Sc a X t c F L hm x h1).1 (po l lo (snd_es Zk Sf Sc lo X t c F L hm _ h2)) (po u hi (snd_es Zk Sf Sc hi X t c F L hm _ h3))) fun _ => rfl
      | _ => cases h
    | _ => cases h
  | .never, X, t, c, F, L, hm, e, h => s_never
  | .con d, X, t, c, F, L, hm, e, h => by
    cases e with
    | Name x p => exact res_val (s_con_ Zk F L h) fun _ => rfl
    | _ => cases h
  | .wget kvs kx, X, t, c, F, L, hm, e, h => by
    cases e with
    | Subscript x y p =>
      cases x with
      | Name n q =>
        obtain ⟨h1, h2⟩ := and_e (show (!isSl0 y && (wdB t n kvs && chkE t kx y)) = true from h)
        obtain ⟨h2, h3⟩ := and_e h2
        exact res_val (s_wget Zk F L h2 (by simpa using h1) (snd_e Zk Sf Sc kx X t c F L hm y h3).1) fun _ => rfl
      | _ => cases h
    | _ => cases h
  | .win neg kvs kx, X, t, c, F, L, hm, e, h => by
    match e, h with
    | .Compare y [op] [.Name x q] p, h =>
      obtain ⟨h1, h2⟩ := and_e (show (negB neg op && (!behindInMarks op (.Name x ⟨0, 0, 0, 0⟩) && (wdB t x kvs && chkE t kx y))) = true from h)
      obtain ⟨_, h2⟩ := and_e h2
      obtain ⟨h2, h3⟩ := and_e h2
      exact s_win Zk F L h1 h2 (snd_e Zk Sf Sc kx X t c F L hm y h3).1
  | .dnew tt, X, t, c, F, L, hm, e, h => by
    match e, h with
    | .Dict [] [] p, h => exact res_val (s_dnew (by rw [L.T]; exact L.w.symm) tt) fun _ => rfl
  | .dget d kx, X, t, c, F, L, hm, e, h => by
    cases e with
    | Subscript x y p =>
      obtain ⟨h1, h2⟩ := and_e (show (!isSl0 y && (chkE t d x && chkE t kx y)) = true from h)
      obtain ⟨h2, h3⟩ := and_e h2
      exact res_val (s_dget (by rw [L.T]; exact L.w.symm) F.units (snd_e Zk Sf Sc d X t c F L hm x h2).1 (snd_e Zk Sf Sc kx X t c F L hm y h3).1 (by simpa using h1)) fun _ => rfl
    | _ => cases h
  | .din neg kx d, X, t, c, F, L, hm, e, h => by
    match e, h with
    | .Compare y [op] [x] p, h =>
      obtain ⟨h1, h2⟩ := and_e (show (negB neg op && (!behindInMarks op x && (chkE t kx y && chkE t d x))) = true from h)
      obtain ⟨h2, h3⟩ := and_e h2
      obtain ⟨h3, h4⟩ := and_e h3
      exact s_din (by rw [L.T]; exact L.w.symm) F.units h1 (by simpa using h2) (snd_e Zk Sf Sc kx X t c F L hm y h3).1 (snd_e Zk Sf Sc d X t c F L hm x h4).1
  | .revn a n, X, t, c, F, L, hm, e, h => by
    match e, h with
    | .Subscript x (.Slice (some y) none st q) p, h =>
      obtain ⟨h1, h2⟩ := and_e (show (neg1 st && (chkE t a x && chkE t n y)) = true from h)
      obtain ⟨h2, h3⟩ := and_e h2
      obtain ⟨k0, p1, p2, rfl⟩ := neg1_of h1
      exact res_val (s_revn (snd_e Zk Sf Sc a X t c F L hm x h2).1 (snd_e Zk Sf Sc n X t c F L hm y h3).1) fun _ => rfl
  | .rev a, X, t, c, F, L, hm, e, h => by
    match e, h with
    | .Subscript x (.Slice none none st q) p, h =>
      obtain ⟨h1, h2⟩ := and_e (show (neg1 st && chkE t a x) = true from h)
      obtain ⟨k0, p1, p2, rfl⟩ := neg1_of h1
      exact res_val (s_rev (snd_e Zk Sf Sc a X t c F L hm x h2).1) fun _ => rfl
  | .bi kb es, X, t, c, F, L, hm, e, h => by
    cases e with
    | Call f args kws p =>
      cases f with
      | Name x q =>
        cases kws with
        | cons _ _ => cases h
        | nil =>
          have gen : (gloB t x && ((decide (bltF.lookup x = some kb) || decide (bltT.lookup x = some kb)) && (!args.isEmpty && chkEs t es args))) = true → Res X c (.bi kb es) (.Call (.Name x q) args [] p) := fun h => by
            obtain ⟨h1, u2⟩ := and_e h
            obtain ⟨h2, u3⟩ := and_e u2
            obtain ⟨h3, h4⟩ := and_e u3
            clear u2 u3 h
            obtain ⟨g0, g5⟩ := gloB_of h1
            obtain ⟨g1, _, _, g4⟩ := glo_of g0
            obtain ⟨r1, r2, r3, r4⟩ := snd_es Zk Sf Sc es X t c F L hm args h4
            clear h4
            cases args with
            | nil => cases h3
            | cons a0 ar =>
              obtain ⟨n1, n2⟩ := plain_cons r3
              refine res_val (s_bi F.calm F.units ?_ (F.gl g1) (F.fr _ g5) r1 (star_ne n1) (back_any n2)) fun _ => rfl
              rcases or_e h2 with h2 | h2
              · exact .inl (dec_e h2)
              · exact .inr (dec_e h2)
          cases kb with
          | lrange =>
            obtain ⟨h1, h2⟩ := and_e (show (gloB t x && (match rgArgs args with
              | some (g, as) => decide (x = "list") && (gloB t g && (decide (g = "range") && (decide (as.length = 2 ∨ as.length = 1) && chkEs t es as)))
              | none => false)) = true from h)
            clear gen
            split at h2
            · rename_i g as heq
              obtain ⟨pp, qq, rfl⟩ := rg_args heq
              obtain ⟨h2, h3⟩ := and_e h2
              obtain ⟨h3, h4⟩ := and_e h3
              obtain ⟨h4, h5⟩ := and_e h4
              obtain ⟨h5, h6⟩ := and_e h5
              cases dec_e h2
              cases dec_e h4
              obtain ⟨g0, g5⟩ := gloB_of h1
              obtain ⟨g1, _, _, g4⟩ := glo_of g0
              obtain ⟨k0, k5⟩ := gloB_of h3
              obtain ⟨k1, _, _, k4⟩ := glo_of k0
              obtain ⟨r1, r2, r3, r4⟩ := snd_es Zk Sf Sc es X t c F L hm as h6
              have h5 := dec_e h5
              clear h heq h6 r1 r3 r4
              match as, h5, r2 with
              | [e1, e2], _, r2 =>
                obtain ⟨a, b, rfl, hs, h2⟩ := allpe2 r2
                exact res_val (s_lrange (f := Str.empty) (g := Str.empty) F.calm (F.gl g1) (F.fr _ g5) (F.gl k1) (F.fr _ k5) hs.2 h2.2 hs.1 h2.1) fun _ => rfl
              | [e1], _, r2 =>
                obtain ⟨a, rfl, hs⟩ := allpe1 r2
                exact res_val (s_lrange1 F.calm (F.gl g1) (F.fr _ g5) (F.gl k1) (F.fr _ k5) hs.2 hs.1) fun _ => rfl
              | [], h5, _ => rcases h5 with h5 | h5 <;> cases h5
              | _ :: _ :: _ :: _, h5, _ => rcases h5 with h5 | h5 <;> cases h5
            · cases h2
          | _ => exact gen h
      | _ => cases h
    | _ => cases h
  | .isi a ts, X, t, c, F, L, hm, e, h => by
    cases e with
    | Call f args kws p =>
      cases f with
      | Name x q =>
        match args, kws, h with
        | [ea, eb], [], h =>
          obtain ⟨h1, h2⟩ := and_e (show (((gloB t x && decide (x = "isinstance")) && (!starB ea && decide (0 < ts.length ∧ ts.length < 100))) && (chkE t a ea && chkTyA t ts eb)) = true from h)
          obtain ⟨h1, h3⟩ := and_e h1
          obtain ⟨h1, h4⟩ := and_e h1
          obtain ⟨h3, h5⟩ := and_e h3
          obtain ⟨h2, h6⟩ := and_e h2
          cases dec_e h4
          obtain ⟨g0, g5⟩ := gloB_of h1
          obtain ⟨g1, _, _, g4⟩ := glo_of g0
          have h5 := dec_e h5
          refine res_val (s_isi F.glob (F.gl g1) (F.fr _ g5) (fun z => ?_) ?_ (snd_e Zk Sf Sc a X t c F L hm ea h2).1 (by simpa using h3) h6) fun _ => rfl
          · rw [z] at h5
            exact absurd h5.1 (Nat.lt_irrefl _)
          · rw [sizeLine_eq]
            omega
      | _ => cases h
    | _ => cases h
  | .call g es, X, t, c, F, L, hm, e, h => by
    cases e with
    | Call f args kws p =>
      cases f with
      | Name x q =>
        match args, kws, h with
        | [], [], h =>
          obtain ⟨_, h2⟩ := and_e (show ((glo t x && decide (t.defs.lookup x = some g)) && (!([] : List Expr).isEmpty && chkEs t es [])) = true from h)
          cases h2
        | a0 :: ar, [], h =>
          obtain ⟨h1, h2⟩ := and_e (show ((glo t x && decide (t.defs.lookup x = some g)) && (!(a0 :: ar).isEmpty && chkEs t es (a0 :: ar))) = true from h)
          obtain ⟨h1, h3⟩ := and_e h1
          obtain ⟨_, h2⟩ := and_e h2
          obtain ⟨r1, r2, r3, r4⟩ := snd_es Zk Sf Sc es X t c F L hm (a0 :: ar) h2
          exact res_val (s_call Zk F L Sf h1 (dec_e h3) hm r1 r3) fun _ => rfl
      | _ => cases h
    | _ => cases h
  | .cl i es, X, t, c, F, L, hm, e, h => by
    cases e with
    | Call f args kws p =>
      cases f with
      | Name x q =>
        match args, kws, h with
        | [], [], h =>
          obtain ⟨_, h2⟩ := and_e (show (chkR t i x && (!([] : List Expr).isEmpty && chkEs t es [])) = true from h)
          cases h2
        | a0 :: ar, [], h =>
          obtain ⟨h1, h2⟩ := and_e (show (chkR t i x && (!(a0 :: ar).isEmpty && chkEs t es (a0 :: ar))) = true from h)
          obtain ⟨_, h2⟩ := and_e h2
          obtain ⟨r1, r2, r3, r4⟩ := snd_es Zk Sf Sc es X t c F L hm (a0 :: ar) h2
          exact res_val (s_cl Zk F L Sc hm h1 r1 r3) fun _ => rfl
      | _ => cases h
    | _ => cases h
  | .lam g es ps nN js body, X, t, c, F, L, hm, e, h => by
    cases e with
    | Call f args kws p =>
      cases f with
      | Name x q =>
        cases kws with
        | cons _ _ => cases h
        | nil =>
          obtain ⟨h1, h2⟩ := and_e (show ((t.lm && glo t x && decide (t.defs.lookup x = some g)) && (match splitLast args with
            | some (init, .Lambda a b sc _) => (match plainArgs a with
              | some pn => (mscB (lamN t pn (freeOf sc.names)) pn (freeOf sc.names) sc && NdefX.ndefB t.sc sc (freeOf sc.names)) && ((decide (ps = pn.length ∧ pn ∈ lamP) && (decide (nN = (lamN t pn (freeOf sc.names)).length) && chkFr t js (freeOf sc.names))) && (chkEs t es init && chkE (inLam t pn (freeOf sc.names) sc) body b))
              | none => false)
            | _ => false)) = true from h)
          obtain ⟨h1, h3⟩ := and_e h1
          obtain ⟨h1, h4⟩ := and_e h1
          split at h2
          · rename_i init a b sc lp heq
            split at h2
            · rename_i pn hpn
              obtain ⟨h2, h5⟩ := and_e h2
              obtain ⟨h2, h6⟩ := and_e h2
              obtain ⟨h5, h7⟩ := and_e h5
              obtain ⟨h5, h8⟩ := and_e h5
              obtain ⟨h8, h9⟩ := and_e h8
              obtain ⟨h7, h10⟩ := and_e h7
              have h5 := dec_e h5
              obtain ⟨r1, r2, r3, r4⟩ := snd_es Zk Sf Sc es X t c F L hm init h7
              have hargs := split_last heq
              have hp : plainL args = true := by
                rw [hargs]
                exact plain_app r3
              exact res_val (s_lam Zk F L Sf hm h4 (dec_e h3) h1 hargs r2 hp hpn h5.2 h2 h6 h9 h10 h5.1 (dec_e h8)) fun _ => rfl
            · cases h2
          · cases h2
      | _ => cases h
    | _ => cases h
  | .me m o es, X, t, c, F, L, hm, e, h => by
    cases e with
    | Call f args kws cpos =>
      cases f with
      | Attribute x n apos =>
        cases kws with
        | cons _ _ => cases h
        | nil =>
          obtain ⟨h1, h2⟩ := and_e (show (((meB m n && baseB x) && ((apos.endLine == cpos.line) && decide (args.length < 29))) && (chkE t o x && chkEs t es args)) = true from h)
          obtain ⟨h1, h3⟩ := and_e h1
          obtain ⟨h1, h4⟩ := and_e h1
          obtain ⟨h3, h5⟩ := and_e h3
          obtain ⟨h2, h6⟩ := and_e h2
          obtain ⟨r1, r2, r3, r4⟩ := snd_es Zk Sf Sc es X t c F L hm args h6
          refine res_val (s_me F.units h1 (snd_e Zk Sf Sc o X t c F L hm x h2).1 r1 h4 r3 (dec_e h5) (fun z => ?_) h3) fun _ => rfl
          subst z
          exact List.eq_nil_of_length_eq_zero r4.symm
      | _ => cases h
    | _ => cases h
  | .comp tg it args conds own elt, X, t, c, F, L, hm, e, h => by
    cases e with
    | ListComp el gs scope p =>
      match gs, h with
      | [⟨tge, iter, ifs, 0⟩], h =>
        obtain ⟨h1, h2⟩ := and_e (show ((L2.blkC t.N t.sc scope (own.map fun i => (t.N.getD i Str.empty, i)) && (match itArgs t it iter with | some xs => chkEs t args xs | none => false)) && (((chkTg (inBlk t scope) tg tge && tupTg it tge) && (decide (ifs.length ≤ 1) && tg.slots.all fun i => decide (i ∈ own))) && (chkEs (inBlk t scope) conds ifs && chkE (inBlk t scope) elt el))) = true from h)
        obtain ⟨h1, h3⟩ := and_e h1
        obtain ⟨h2, h4⟩ := and_e h2
        obtain ⟨h2, h5⟩ := and_e h2
        obtain ⟨h2, h6⟩ := and_e h2
        obtain ⟨h5, h7⟩ := and_e h5
        obtain ⟨h4, h8⟩ := and_e h4
        split at h3
        · rename_i xs hxs
          have ra := snd_es Zk Sf Sc args X t c F L hm xs h3
          have hi := it_of F hxs ra h6 h2
          have ok : BlkOk X.N X.env.scope scope (own.map fun i => (t.N.getD i Str.empty, i)) := by
            rw [F.N, F.sc]
            exact blkOk_by h1
          have ho : (own.map fun i => (t.N.getD i Str.empty, i)).map (·.2) = own := by
            rw [List.map_map]
            exact List.map_id _
          have hg : ∀ (s : Shared) (H : Hp) (C : Addr) (cl : List (Str × Addr)) (fp : List Addr), PG (X.blk s H scope (compEnvC scope cl C X.env) fp) tge (gT X.K c.quiet tg) := fun s H C cl fp => pg_of (fit_blk F) h2
          have hcl : conds.length ≤ 1 := by
            rw [← chkEs_len h4]
            exact dec_e h5
          have ht : ∀ (s : Shared) (H : Hp) (C : Addr) (cl : List (Str × Addr)) (fp : List Addr), PTs (X.blk s H scope (compEnvC scope cl C X.env) fp) ifs (tCs X.K c.quiet conds) := fun s H C cl fp => by
            match conds, ifs, h4, hcl with
            | [], [], _, _ => exact pts_nil
            | [k1], [e1], h4, _ =>
              obtain ⟨_, h9⟩ := and_e (show (!starB e1 && (chkE (inBlk t scope) k1 e1 && chkEs (inBlk t scope) [] [])) = true from h4)
              obtain ⟨h9, _⟩ := and_e h9
              exact pts_one (snd_e Zk Sf Sc k1 (X.blk s H scope (compEnvC scope cl C X.env) fp) (inBlk t scope) c.quiet (fit_blk F) (cll_blk L) hm e1 h9).2
          have he : ∀ (s : Shared) (H : Hp) (C : Addr) (cl : List (Str × Addr)) (fp : List Addr), PE (X.blk s H scope (compEnvC scope cl C X.env) fp) el (tE X.K c.quiet elt) := fun s H C cl fp => (snd_e Zk Sf Sc elt (X.blk s H scope (compEnvC scope cl C X.env) fp) (inBlk t scope) c.quiet (fit_blk F) (cll_blk L) hm el h8).1
          have hfo := fold_ok iter X.env (it_noset hxs h3)
          exact res_val ((pe_lc F.calm F.nd hi ok hg ht he hfo).imp (s_comp (pos := p) F hi ok ho hg ht he (fun j hj => dec_e (List.all_eq_true.mp h7 j hj)) hfo hcl)) fun _ => rfl
        · cases h3
    | _ => cases h
theorem snd_es (Zk : Zok Z) (Sf : FSound Z k) (Sc : ∀ j, k = j + 1 → ESound Z j) : ∀ (as : List CE) (X : Cx) (t : Tc) (c : Cv), Fit X t → Cll Z X t c k → Mod X.K X.mg X.base → ∀ (es : List Expr), chkEs t as es = true → ResL X c as es
  | [], X, t, c, F, L, hm, es, h => by
    cases es with
    | nil => exact ⟨s_nil, trivial, rfl, rfl⟩
    | cons _ _ => cases h
  | a :: as, X, t, c, F, L, hm, es, h => by
    cases es with
    | nil => cases h
    | cons e es =>
      obtain ⟨h1, h2⟩ := and_e (show (!starB e && (chkE t a e && chkEs t as es)) = true from h)
      obtain ⟨h2, h3⟩ := and_e h2
      have h1 : starB e = false := by simpa using h1
      have i1 := snd_e Zk Sf Sc a X t c F L hm e h2
      obtain ⟨r1, r2, r3, r4⟩ := snd_es Zk Sf Sc as X t c F L hm es h3
      exact ⟨s_cons i1.1 r1 (star_ne h1), ⟨⟨h1, i1.1⟩, r2⟩, by unfold plainL; rw [h1, r3]; rfl, by rw [List.length_cons, List.length_cons, r4]⟩
end
/-- THE EXPRESSIONS -/
theorem esound (Zk : Zok Z) (Sf : FSound Z k) (Sc : ∀ j, k = j + 1 → ESound Z j) : ESound Z k := fun X t c F L hm ce e h => snd_e Zk Sf Sc ce X t c F L hm e h
end
end Ev

end

/-! ## Ev14 -/
section
set_option Elab.async false
set_option linter.all false
set_option maxRecDepth 100000
set_option maxHeartbeats 2000000
/-! Statements. -/
namespace Ev
open PySem PySem.Spec PyProof.Rows L2 LamX
/-! ### the check -/
/-- a comprehension stored on its own line by a local name: its variables are swapped with the name -/
def swB (t : Tc) (x : Str) (py : Pos) : Expr → Bool
  | .ListComp _ _ scope p => decide (t.sc.names.lookup x = some .local) && ((py.line == p.line) && !(scope.names.any fun (n, k) => n == x && (k == .local || k == .cell)))
  | _ => false
def isComp : Expr → Bool
  | .ListComp .. => true | .SetComp .. => true | .DictComp .. => true | _ => false
def isLC : Expr → Bool
  | .ListComp _ [⟨_, _, _, 0⟩] _ _ => true | _ => false
def isTupE : Expr → Bool
  | .Tuple .. => true | _ => false
def isSl : Expr → Bool
  | .Slice .. => true | _ => false
/-- a, b = x, y: swapped stores (true), a pair (false) -/
def parB (t : Tc) (x y : Str) (px py : Pos) (a b : Expr) : Option Bool :=
  if decide (t.sc.names.lookup x = some .local) && (decide (t.sc.names.lookup y = some .local) && ((py.line == px.line) && decide (x ≠ y))) then
    (if [a, b].all (foldedForSure 8) then some false else if [a, b].all (constantsAlone 8) then none else some true)
  else if decide (t.sc.names.lookup x = some .cell) || decide (t.sc.names.lookup y = some .cell) then some false
  else none
/-- a, b, c = x, y, z: swapped stores (true), a tuple (false) -/
def par3B (t : Tc) (x y z : Str) (px py pz : Pos) (vs : List Expr) : Option Bool :=
  if (decide (t.sc.names.lookup x = some .local) && (decide (t.sc.names.lookup y = some .local) && decide (t.sc.names.lookup z = some .local))) && (((py.line == px.line) && (pz.line == px.line)) && (decide (x ≠ y) && (decide (x ≠ z) && decide (y ≠ z)))) then
    (if vs.all (foldedForSure 8) then some false else if vs.all (constantsAlone 8) then none else some true)
  else if decide (t.sc.names.lookup x = some .cell) || (decide (t.sc.names.lookup y = some .cell) || decide (t.sc.names.lookup z = some .cell)) then some false
  else none
def chkPar (t : Tc) : List Nat → List Expr → List Expr → Bool
  | [i, j, l], [.Name x px, .Name y py, .Name z pz], vs => ((chkW t i x && (chkW t j y && chkW t l z)) && (decide (i ≠ j) && (decide (i ≠ l) && (decide (j ≠ l) && (par3B t x y z px py pz vs).isSome)))) && decide (vs.length = 3)
  | is, ts, _ => decide (3 < ts.length ∧ ts.length < 100) && chkNames t is ts
/-- an expression of an except suite; the exception's name, where it has one -/
def chkSE (t : Tc) (n : Option Str) : SE → Expr → Bool
  | .con c, .Constant k j p => (conD c).isSome && chkE t c (.Constant k j p)
  | .isx ids, .Call (.Name f _) [.Name e _, .Name a _] [] _ => (gloB t f && decide (f = "isinstance")) && (decide (n = some e) && (glo t a && (match t.cls.lookup a with | some d => decide (t.kits[d]? = some (some ids)) | none => false)))
  | .not a, .UnaryOp .Not x _ => chkSE t n a x
  | .and a b, .BoolOp .And [x, y] _ => chkSE t n a x && chkSE t n b y
  | .and a b, .BoolOp .And (x :: y :: z :: r) p => chkSE t n a x && chkSE t n b (.BoolOp .And (y :: z :: r) p)
  | .ife c a b, .IfExp z x y _ => chkSE t n c z && (chkSE t n a x && chkSE t n b y)
  | _, _ => false
def chkCl (t : Tc) (ids : List Nat) (x : Str) : Bool := glo t x && (match t.cls.lookup x with | some d => decide (t.subs[d]? = some (some ids)) | none => false)
def chkH (t : Tc) (n : Option Str) (h : Hn) : List Stmt → Bool
  | [.Return (some e) _] => chkSE t n h.r e
  | _ => false
def chkHM (t : Tc) : List Hn → List ExceptHandler → Bool
  | [], [] => true
  | h :: hs, .ExceptHandler (some (.Name x _)) none suite _ :: r => (chkCl t h.ids x && chkH t none h suite) && chkHM t hs r
  | h :: hs, .ExceptHandler (some (.Name x _)) (some n) suite _ :: r => (match h.slot with
    | some i => chkR t i n && (decide (t.sc.names.lookup n = some .local) && ((chkCl t h.ids x && h.ids.all fun d => decide (t.inis[d]? = some none)) && chkH t (some n) h suite))
    | none => false) && chkHM t hs r
  | _, _ => false
def chkHs (t : Tc) (hs : List Hn) (hds : List ExceptHandler) : Bool := !hs.isEmpty && chkHM t hs hds
mutual
def chkS (t : Tc) : CS → Stmt → Bool
  | .pass, .Pass _ => true
  | .pass, .Expr (.Constant (.str _) _ _) _ => true
  | .expr e, .Expr x _ => !isComp x && chkE t e x
  | .asg i e, .Assign [.Name x py] v _ => chkW t i x && (chkE t e v && (!isComp v || isLC v))
  | .unp is e, .Assign [.Tuple ts _ _] v _ => !isTupE v && (chkNames t is ts && chkE t e v)
  | .par i j a b, .Assign [.Tuple [.Name x px, .Name y py] _ _] (.Tuple [va, vb] _ _) _ =>
      ((chkW t i x && chkW t j y) && (decide (i ≠ j) && (parB t x y px py va vb).isSome)) && ((!starB va && !starB vb) && (chkE t a va && chkE t b vb))
  | .parN is es, .Assign [.Tuple ts _ _] (.Tuple vs _ _) _ => chkPar t is ts vs && chkEs t es vs
  | .setix o i e, .Assign [.Subscript ov iv _] v _ => !isSl iv && (chkE t e v && (chkE t o ov && chkE t i iv))
  | .dset d k e, .Assign [.Subscript ov iv _] v _ => !isSl0 iv && (chkE t e v && (chkE t d ov && chkE t k iv))
  | .ite c a b, .If x p q _ => chkE t c x && (chkSs t a p && chkSs t b q)
  | .whl c b, .While x p [] _ => chkE t c x && chkSs t b p
  | .for_ tg it args b, .For g iter p [] _ => ((match itArgs t it iter with | some xs => chkEs t args xs | none => false) && (chkTg t tg g && tupTg it g)) && chkSs t b p
  | .ret e, .Return (some x) _ => chkE t e x
  | .retN, .Return none _ => true
  | .brk, .Break _ => true
  | .cont, .Continue _ => true
  | .raise c es, .Raise (some (.Call (.Name x _) as [] _)) none _ => (glo t x && decide (t.cls.lookup x = some c)) && ((match t.inis[c]? with
    | some none => decide (as.length = 0)
    | some (some _) => decide (as.length = 1)
    | none => false) && chkEs t es as)
  | .try_ b hs, .Try p hds [] [] _ => chkSs t b p && chkHs t hs hds
  | .never, _ => true
  | _, _ => false
def chkSs (t : Tc) : List CS → List Stmt → Bool
  | [], [] => true
  | s :: ss, p :: ps => chkS t s p && chkSs t ss ps
  | _, _ => false
end
/-! ### what is wanted of an end -/
def PostS (K : PySem.W.Frag) (c : Cv) (D : Ends) (lm : List Addr) (H : Hp) : R Fl → Prop
  | .ok (.nx σD) M => ∀ σ' lm' H', Ext lm H lm' H' → St K c.T lm' H' M → RelS K lm' c.fs H' σ' σD → D.nx σ' H'
  | .ok (.ret d) M => ∀ v lm' H', Ext lm H lm' H' → St K c.T lm' H' M → Rep K lm' c.fs H' d v → D.rt v H'
  | .ok (.brk σD) M => ∀ σ' lm' H', Ext lm H lm' H' → St K c.T lm' H' M → RelS K lm' c.fs H' σ' σD → D.bk σ' H'
  | .ok (.cont σD) M => ∀ σ' lm' H', Ext lm H lm' H' → St K c.T lm' H' M → RelS K lm' c.fs H' σ' σD → D.ct σ' H'
  | .exc x M => ∀ cls dd lm' H' σ', Ext lm H lm' H' → St K c.T lm' H' M → c.er x cls dd H' → c.W cls dd σ' H'
  | .bad => False
def tSt (K : PySem.W.Frag) (c : Cv) (s : CS) : TS := fun D σ H => ∃ lm σD M, Sim K c lm H σ σD M ∧ PostS K c D lm H (evS c.g s σD M)
def tSs (K : PySem.W.Frag) (c : Cv) (ss : List CS) : TS := fun D σ H => ∃ lm σD M, Sim K c lm H σ σD M ∧ PostS K c D lm H (evSs c.g ss σD M)
section
variable {K : PySem.W.Frag} {c : Cv} {σ : L2.St} {D : Ends} {lm lm' : List Addr} {H H' : Hp} {σD : Sg} {M : Mem}
theorem PostS.ext {r : R Fl} (p : PostS K c D lm H r) (x : Ext lm H lm' H') : PostS K c D lm' H' r := by
  cases r with
  | ok f M =>
    cases f with
    | nx s => exact fun v l2 H2 x2 m r => p v l2 H2 (x.trans x2) m r
    | ret s => exact fun v l2 H2 x2 m r => p v l2 H2 (x.trans x2) m r
    | brk s => exact fun v l2 H2 x2 m r => p v l2 H2 (x.trans x2) m r
    | cont s => exact fun v l2 H2 x2 m r => p v l2 H2 (x.trans x2) m r
  | exc y M => exact fun cls dd l2 H2 σ' x2 m e => p cls dd l2 H2 σ' (x.trans x2) m e
  | bad => exact p
theorem es1 {a : CE} {k : Ev.D → Mem → R Fl} (s : Sim K c lm H σ σD M) (p : PostS K c D lm H ((evE c.g a σD M).bind k)) {R : VK} (h : ∀ v H1 d M1 lm1, Got K c lm H lm1 H1 d M1 v → PostS K c D lm1 H1 (k d M1) → R v H1) : tE K c a σ H R := by
  refine ⟨lm, σD, M, s, ?_⟩
  cases e : evE c.g a σD M with
  | ok d M1 =>
    rw [e] at p
    exact fun v l1 H1 x m r => h v H1 d M1 l1 ⟨x, m, r⟩ (PostS.ext p x)
  | exc y M1 =>
    rw [e] at p
    exact fun cls dd l2 H2 x2 m e => p cls dd l2 H2 σ x2 m e
  | bad =>
    rw [e] at p
    exact p
theorem esT {a : CE} {k : Bool → Mem → R Fl} (s : Sim K c lm H σ σD M) (p : PostS K c D lm H ((evE c.g a σD M).tst k)) {R : Bool → Hp → Prop} (h : ∀ b H1 M1 lm1, Ext lm H lm1 H1 → St K c.T lm1 H1 M1 → PostS K c D lm1 H1 (k b M1) → R b H1) : tT K c a σ H R := by
  refine es1 s p fun v H1 d M1 lm1 g p1 => ?_
  obtain ⟨x, m, r⟩ := g
  cases d with
  | p d =>
    have r : Dv K (Hx lm1 H1) v d := r
    cases r with
    | bl b => exact ⟨b, rfl, h b H1 M1 lm1 x m p1⟩
    | _ => exact p1.elim
  | _ => exact p1.elim
theorem esL {es : List CE} {k : List Ev.D → Mem → R Fl} (s : Sim K c lm H σ σD M) (p : PostS K c D lm H ((evEs c.g es σD M).bind k)) {R : List V → Hp → Prop} (h : ∀ vs H1 ds M1 lm1, GotL K c lm H lm1 H1 ds M1 vs → PostS K c D lm1 H1 (k ds M1) → R vs H1) : tEs K c es σ H R := by
  refine ⟨lm, σD, M, s, ?_⟩
  cases e : evEs c.g es σD M with
  | ok d M1 =>
    rw [e] at p
    exact fun v l1 H1 x m r => h v H1 d M1 l1 ⟨x, m, r⟩ (PostS.ext p x)
  | exc y M1 =>
    rw [e] at p
    exact fun cls dd l2 H2 x2 m e => p cls dd l2 H2 σ x2 m e
  | bad =>
    rw [e] at p
    exact p
end
theorem _root_.L2.PS.imp {X : Cx} {st : Stmt} {t t' : TS} (h : PS X st t) (w : ∀ D σ H, t' D σ H → t D σ H) : PS X st t' := ⟨fun pins s σ H D I hq => h.run pins s σ H D I (w D σ H hq)⟩
theorem _root_.L2.PSs.imp {X : Cx} {st : List Stmt} {t t' : TS} (h : PSs X st t) (w : ∀ D σ H, t' D σ H → t D σ H) : PSs X st t' := ⟨fun pins s σ H D I hq => h.run pins s σ H D I (w D σ H hq)⟩
/-- a statement's rule, the context's kind known -/
theorem ps_kind {X : Cx} {st : Stmt} {t : TS} (h : X.env.scope.kind = .function → PS X st t) : PS X st t := ⟨fun pins s σ H D I hq => (h I.ok.kind).run pins s σ H D I hq⟩
section
variable {X : Cx} {t : Tc} {c : Cv}
theorem q_pass {st : Stmt} (h : PS X st tNext) : PS X st (tSt X.K c .pass) := h.imp fun D σ H ⟨lm, σD, M, s, p⟩ => by
  unfold evS at p
  exact p σ lm H (.refl _ _) s.m s.s
theorem q_brk {pos : Pos} : PS X (.Break pos) (tSt X.K c .brk) := ps_break.imp fun D σ H ⟨lm, σD, M, s, p⟩ => by
  unfold evS at p
  exact p σ lm H (.refl _ _) s.m s.s
theorem q_cont {pos : Pos} : PS X (.Continue pos) (tSt X.K c .cont) := ps_continue.imp fun D σ H ⟨lm, σD, M, s, p⟩ => by
  unfold evS at p
  exact p σ lm H (.refl _ _) s.m s.s
theorem q_retN {pos : Pos} : PS X (.Return none pos) (tSt X.K c .retN) := ps_retN.imp fun D σ H ⟨lm, σD, M, s, p⟩ => by
  unfold evS at p
  exact p .non lm H (.refl _ _) s.m .non
theorem q_ret {e : CE} {x : Expr} {pos : Pos} (h : PE X x (tE X.K c e)) : PS X (.Return (some x) pos) (tSt X.K c (.ret e)) := (ps_ret h).imp fun D σ H ⟨lm, σD, M, s, p⟩ => by
  unfold evS at p
  exact es1 s p fun v H1 d M1 lm1 g p1 => p1 v lm1 H1 (.refl _ _) g.m g.r
theorem q_expr {e : CE} {x : Expr} {pos : Pos} (h : PE X x (tE X.K c e)) (hn : isComp x = false) : PS X (.Expr x pos) (tSt X.K c (.expr e)) := by
  refine (ps_expr h ?_).imp fun D σ H ⟨lm, σD, M, s, p⟩ => ?_
  · cases x <;> first | rfl | cases hn
  · unfold evS at p
    exact es1 s p fun v H1 d M1 lm1 g p1 => p1 σ lm1 H1 (.refl _ _) g.m (g.x.relS s.s)
theorem q_never {st : Stmt} : PS X st (tSt X.K c .never) := ps_never.imp fun D σ H ⟨lm, σD, M, s, p⟩ => by
  unfold evS at p
  exact p.elim
theorem w_asg {e : CE} {i : Nat} {D : Ends} {σ : L2.St} {H : Hp} (h : tSt X.K c (.asg i e) D σ H) : tAsg (tE X.K c e) (gName i) D σ H := by
  obtain ⟨lm, σD, M, s, p⟩ := h
  unfold evS at p
  exact es1 s p fun v H1 d M1 lm1 g p1 => p1 _ lm1 H1 (.refl _ _) g.m ((g.x.relS s.s).set g.r)
theorem w_unp {e : CE} {is : List Nat} {D : Ends} {σ : L2.St} {H : Hp} (h : tSt X.K c (.unp is e) D σ H) : tAsg (tE X.K c e) (gT X.K c (.many is)) D σ H := by
  obtain ⟨lm, σD, M, s, p⟩ := h
  unfold evS at p
  refine es1 s p fun v H1 d M1 lm1 g p1 => ?_
  cases d with
  | p d =>
    cases d with
    | tuple ds =>
      cases q : setAll is ds σD with
      | none =>
        simp only [q] at p1
        exact p1.elim
      | some σ' =>
        simp only [q] at p1
        exact ⟨lm1, σD, M1, .tuple ds, σ', s.ext g.x g.m, .inl g.r, q, fun σ2 r2 _ _ => p1 σ2 lm1 H1 (.refl _ _) g.m r2⟩
    | _ => exact p1.elim
  | _ => exact p1.elim
theorem q_unp {e : CE} {is : List Nat} {x : Expr} {ts : List Expr} {kk : Nat} {tp pos : Pos} (F : Fit X t) (h : PE X x (tE X.K c e)) (hn : chkNames t is ts = true) (hx : isTupE x = false) : PS X (.Assign [.Tuple ts kk tp] x pos) (tSt X.K c (.unp is e)) := by
  refine (ps_asg h (pg_of (tg := .many is) F (show chkTg t (.many is) (.Tuple ts kk tp) = true from hn)) ?_ ?_).imp fun D σ H => w_unp
  · cases x <;> rfl
  · cases x <;> first | rfl | cases hx
theorem w_set {e o i : CE} {D : Ends} {σ : L2.St} {H : Hp} (h : tSt X.K c (.setix o i e) D σ H) : tAsg (tE X.K c e) (gSub (tE X.K c o) (tE X.K c i) rSetL) D σ H := by
  obtain ⟨lm, σD, M, s, p⟩ := h
  unfold evS at p
  refine es1 s p fun v H1 d M1 lm1 g1 p1 => ?_
  have s1 := s.ext g1.x g1.m
  refine es1 s1 p1 fun u H2 d2 M2 lm2 g2 p2 => ?_
  have s2 := s1.ext g2.x g2.m
  refine es1 s2 p2 fun w H3 d3 M3 lm3 g3 p3 => ?_
  cases d2 with
  | loc n =>
    cases d3 with
    | p d3 =>
      cases d3 with
      | int k =>
        cases d with
        | p d =>
          simp only at p3
          cases q : M3[n]? with
          | none =>
            rw [q] at p3
            exact p3.elim
          | some xs =>
            rw [q] at p3
            simp only at p3
            cases q2 : L2.ixN xs.length k with
            | none =>
              rw [q2] at p3
              exact p3.elim
            | some j =>
              rw [q2] at p3
              have ro := g3.x.rep g2.r
              obtain ⟨b, ws, e2, rfl, e3, hv⟩ := loc_at g3.m ro q
              rw [dInt g3.r]
              have rv := (g2.x.trans g3.x).rep g1.r
              refine ⟨b, ws, k, j, rfl, rfl, e3, by rw [hv.len]; exact q2, ?_⟩
              refine p3 σ lm3 _ (ext_set (List.mem_of_getElem? e2) (.lst ws _ e3)) (g3.m.set e2 e3 (hv.set rv j)) ?_
              exact (ext_set (List.mem_of_getElem? e2) (.lst ws _ e3)).relS (g3.x.relS s2.s)
        | _ => exact p3.elim
      | _ => exact p3.elim
    | _ => exact p3.elim
  | _ => exact p3.elim
theorem q_set {e o i : CE} {v ov iv : Expr} {p1 pos : Pos} (hv : PE X v (tE X.K c e)) (ho : PE X ov (tE X.K c o)) (hi : PE X iv (tE X.K c i)) (hn : isSl iv = false) : PS X (.Assign [.Subscript ov iv p1] v pos) (tSt X.K c (.setix o i e)) := by
  refine (ps_asg hv (pg_sub ho hi set_list ?_) ?_ ?_).imp fun D σ H => w_set
  · intro v
    cases iv <;> first | rfl | cases hn
  · cases v <;> rfl
  · cases v <;> rfl
theorem w_dset (hw : c.T.w = X.w) {d kx e : CE} {D : Ends} {σ : L2.St} {H : Hp} (h : tSt X.K c (.dset d kx e) D σ H) : sEPut X (tE X.K c d) (tE X.K c kx) (tE X.K c e) D σ H := by
  obtain ⟨lm, σD, M, s, p⟩ := h
  unfold evS at p
  refine es1 s p fun v H1 vd M1 lm1 g1 p1 => ?_
  have s1 := s.ext g1.x g1.m
  refine es1 s1 p1 fun u H2 x M2 lm2 g2 p2 => ?_
  have s2 := s1.ext g2.x g2.m
  refine es1 s2 p2 fun w H3 y M3 lm3 g3 p3 => ?_
  have ro := g3.x.rep g2.r
  have rv := (g2.x.trans g3.x).rep g1.r
  obtain ⟨gx, gm, gr⟩ := g3
  cases x with
  | dic tt n =>
    cases y with
    | p kd =>
      cases vd with
      | p vd =>
        have p3 : PostS X.K c D lm3 H3 (if keyOk tt kd then (match M3[n]? with
          | some xs => if xs.length < sizeLine then .ok (.nx σD) (M3.set n (dput xs kd vd)) else .bad
          | none => .bad) else .bad) := p3
        by_cases hko : keyOk tt kd = true
        · rw [if_pos hko] at p3
          cases q : M3[n]? with
          | none =>
            rw [q] at p3
            exact p3.elim
          | some xs =>
            rw [q] at p3
            have p3 : PostS X.K c D lm3 H3 (if xs.length < sizeLine then .ok (.nx σD) (M3.set n (dput xs kd vd)) else .bad) := p3
            split at p3
            · rename_i hz
              obtain ⟨a, e1, rfl, kk⟩ := ro
              have hc := gm.m.at_ n a xs e1 q
              have fin : ∀ {ob ob' : HO}, H3 a = some ob → ((∃ vs, ob = .lst vs) ∨ (∃ kvs, ob = .dK kvs) ∨ ∃ kvs w, ob = dNO w a kvs) → SameK (H3 a) (some ob') → CellOk X.K c.T.w (Hx lm3 H3) a (some ob') (dput xs kd vd) → D.nx σ (upd H3 a ob') := fun {ob ob'} eH no hk cell => by
                have x4 := ext_set (H := H3) (o := ob') (List.mem_of_getElem? e1) hk
                exact p3 σ lm3 _ x4 (gm.setO e1 eH no hk cell) (x4.relS (gx.relS s2.s))
              cases tt with
              | false =>
                obtain ⟨kvs, e2, h2⟩ := hc.isK kk
                obtain ⟨k, rfl⟩ := keyOk_f hko
                have gr : Dv X.K (Hx lm3 H3) w (keyD k) := gr
                refine ⟨a, _, rfl, .k e2 (dv_keyD gr) (by rw [h2.len]; exact hz), ?_⟩
                exact fin e2 (.inr (.inl ⟨_, rfl⟩)) (.dk _ _ e2) (.dk (h2.put rv))
              | true =>
                obtain ⟨kvs, e2, h2⟩ := hc.isN kk
                obtain ⟨ds, k, rfl, h3, h4⟩ := keyOk_t hko
                have gr : Dv X.K (Hx lm3 H3) w (.tuple ds) := gr
                obtain ⟨b, rfl⟩ := dv_tup gr
                refine ⟨a, _, rfl, .n (by rw [← hw]; exact e2) h2.keys rfl ⟨nkey_dv _ _ _ ((up_Hx lm3 H3).dv _ _ gr) h3, h4⟩ (by rw [h2.len]; exact hz), ?_⟩
                rw [← hw]
                exact fin e2 (.inr (.inr ⟨_, _, rfl⟩)) (.dn _ _ e2) (.dn (h2.put gr h3 h4 rv))
            · exact p3.elim
        · rw [if_neg hko] at p3
          exact p3.elim
      | _ => exact p3.elim
    | _ => exact p3.elim
  | _ => exact p3.elim
theorem q_dset (hw : c.T.w = X.w) (hu : X.A.units + 64 < cLine) {d kx e : CE} {v ov iv : Expr} {p1 pos : Pos} (hv : PE X v (tE X.K c e)) (ho : PE X ov (tE X.K c d)) (hi : PE X iv (tE X.K c kx)) : PS X (.Assign [.Subscript ov iv p1] v pos) (tSt X.K c (.dset d kx e)) := by
  refine (ps_eput hu ho hi hv ?_).imp fun D σ H => w_dset hw
  cases v <;> rfl
theorem w_ite {e : CE} {a b : List CS} {D : Ends} {σ : L2.St} {H : Hp} (h : tSt X.K c (.ite e a b) D σ H) : tIfS (tT X.K c e) (tSs X.K c a) (tSs X.K c b) D σ H := by
  obtain ⟨lm, σD, M, s, p⟩ := h
  unfold evS at p
  refine esT s p fun k H1 M1 lm1 x m p1 => ?_
  cases k with
  | true => exact ⟨lm1, σD, M1, s.ext x m, p1⟩
  | false => exact ⟨lm1, σD, M1, s.ext x m, p1⟩
theorem w_whl {e : CE} {b : List CS} {D : Ends} {σ : L2.St} {H : Hp} (h : tSt X.K c (.whl e b) D σ H) : tWhile (tT X.K c e) (tSs X.K c b) D σ H := by
  obtain ⟨lm, σD, M, s, p⟩ := h
  unfold evS at p
  refine ⟨fun m σ H => ∃ lm σD M, Sim X.K c lm H σ σD M ∧ PostS X.K c D lm H (whlL (fun σ M => evE c.g e σ M) (fun σ M => evSs c.g b σ M) m σD M), ⟨c.g.fuel, lm, σD, M, s, p⟩, ?_⟩
  rintro m σ H ⟨lm, σD, M, s, p⟩
  cases m with
  | zero => exact p.elim
  | succ m =>
    unfold whlL at p
    refine esT s p fun k H1 M1 lm1 x1 m1 p1 => ?_
    cases k with
    | false =>
      refine (if_neg Bool.false_ne_true).mpr ?_
      exact p1 σ lm1 H1 (.refl _ _) m1 (x1.relS s.s)
    | true =>
      refine (if_pos rfl).mpr ?_
      refine ⟨fun σ H => ∃ lm σD M, Sim X.K c lm H σ σD M ∧ PostS X.K c D lm H (whlL (fun σ M => evE c.g e σ M) (fun σ M => evSs c.g b σ M) m σD M), fun σ' H' h => ⟨m, Nat.lt_succ_self m, h⟩, lm1, σD, M1, s.ext x1 m1, ?_⟩
      have p1 : PostS X.K c D lm1 H1 ((evSs c.g b σD M1).bind fun f M2 => match f with
        | .nx σ2 => whlL (fun σ M => evE c.g e σ M) (fun σ M => evSs c.g b σ M) m σ2 M2
        | .cont σ2 => whlL (fun σ M => evE c.g e σ M) (fun σ M => evSs c.g b σ M) m σ2 M2
        | .brk σ2 => .ok (.nx σ2) M2
        | .ret d => .ok (.ret d) M2) := p1
      cases q : evSs c.g b σD M1 with
      | bad =>
        rw [q] at p1
        exact p1.elim
      | exc y M2 =>
        rw [q] at p1
        exact p1
      | ok f M2 =>
        rw [q] at p1
        cases f with
        | nx σ2 => exact fun σ' lm' H' x m r => ⟨lm', σ2, M2, ⟨r, m⟩, PostS.ext p1 x⟩
        | cont σ2 => exact fun σ' lm' H' x m r => ⟨lm', σ2, M2, ⟨r, m⟩, PostS.ext p1 x⟩
        | brk σ2 => exact p1
        | ret d => exact p1
theorem w_for {tg : Tg} {it : Ev.It} {args : List CE} {b : List CS} {D : Ends} {σ : L2.St} {H : Hp} (h : tSt X.K c (.for_ tg it args b) D σ H) : tFor (tI (isMany tg) X.K c it args) (gT X.K c tg) (tSs X.K c b) D σ H := by
  obtain ⟨lm, σD, M, s, p⟩ := h
  have p : PostS X.K c D lm H ((evEs c.g args σD M).bind fun ds M1 => match itemsI M1 it ds with
    | some xs => forL tg (fun σ M => evSs c.g b σ M) xs σD M1
    | none => .bad) := by
    unfold evS at p
    exact p
  refine ⟨lm, σD, M, s, ?_⟩
  unfold evI
  cases e0 : evEs c.g args σD M with
  | bad =>
    rw [e0] at p
    exact p.elim
  | exc y M1 =>
    rw [e0] at p
    exact fun cls dd l2 H2 x2 m e => p cls dd l2 H2 σ x2 m e
  | ok ds M1 =>
    rw [e0] at p
    simp only [R.bind] at p ⊢
    cases e1 : itemsI M1 it ds with
    | none =>
      rw [e1] at p
      exact p.elim
    | some xs =>
      rw [e1] at p
      simp only at p
      intro J lm1 H1 x1 m1 iok
      have p := PostS.ext p x1
      have s1 := s.ext x1 m1
      let Wb : Nat → L2.St → Hp → Prop := fun i σ H' => ∃ lm' σD' M', Ext lm1 H1 lm' H' ∧ Sim X.K c lm' H' σ σD' M' ∧ PostS X.K c D lm' H' (forL tg (fun σ M => evSs c.g b σ M) (xs.drop i) σD' M')
      refine ⟨fun i m σ H' => m = xs.length - i ∧ i ≤ xs.length ∧ Wb i σ H', ⟨xs.length, by simp, Nat.zero_le _, lm1, σD, M1, .refl _ _, s1, p⟩, ?_⟩
      rintro i m σ H' ⟨rfl, hi, lm', σD', M', xi, si, pi⟩
      obtain ⟨i1, i2⟩ := iok lm' H' M' xi si.m i
      by_cases hlt : i < xs.length
      · obtain ⟨go, yl⟩ := i2 _ (List.getElem?_eq_getElem hlt)
        refine .inr ⟨go, Wb (i + 1), fun σ' H3 h3 => ⟨xs.length - (i + 1), by omega, rfl, hlt, h3⟩, fun x H3 hy => ?_⟩
        obtain ⟨x3, m3, y3⟩ := yl x H3 hy
        have pi := PostS.ext pi x3
        rw [List.drop_eq_getElem_cons hlt] at pi
        unfold forL at pi
        cases eb : bindT tg xs[i] σD' with
        | none =>
          rw [eb] at pi
          exact pi.elim
        | some σt =>
          rw [eb] at pi
          simp only at pi
          refine ⟨lm', σD', M', xs[i], σt, si.ext x3 m3, y3, eb, fun σ2 r2 _ _ => ⟨lm', σt, M', ⟨r2, m3⟩, ?_⟩⟩
          cases q : evSs c.g b σt M' with
          | bad =>
            rw [q] at pi
            exact pi.elim
          | exc y M2 =>
            rw [q] at pi
            exact pi
          | ok f M2 =>
            rw [q] at pi
            cases f with
            | nx σ2 => exact fun σ' lm4 H4 x m r => ⟨lm4, σ2, M2, (xi.trans x3).trans x, ⟨r, m⟩, PostS.ext pi x⟩
            | cont σ2 => exact fun σ' lm4 H4 x m r => ⟨lm4, σ2, M2, (xi.trans x3).trans x, ⟨r, m⟩, PostS.ext pi x⟩
            | brk σ2 => exact pi
            | ret d => exact pi
      · have hi2 : xs.length ≤ i := by omega
        refine .inl ⟨i1 hi2, ?_⟩
        rw [List.drop_eq_nil_of_le hi2] at pi
        unfold forL at pi
        exact pi σ lm' H' (.refl _ _) si.m si.s
theorem q_nil : PSs X [] (tSs X.K c []) := pss_nil.imp fun D σ H ⟨lm, σD, M, s, p⟩ => by
  unfold evSs at p
  exact p σ lm H (.refl _ _) s.m s.s
theorem q_cons {a : CS} {r : List CS} {st : Stmt} {rest : List Stmt} (h1 : PS X st (tSt X.K c a)) (h2 : PSs X rest (tSs X.K c r)) : PSs X (st :: rest) (tSs X.K c (a :: r)) := (pss_cons h1 h2).imp fun D σ H ⟨lm, σD, M, s, p⟩ => by
  refine ⟨lm, σD, M, s, ?_⟩
  unfold evSs at p
  cases q : evS c.g a σD M with
  | bad =>
    rw [q] at p
    exact p.elim
  | exc y M2 =>
    rw [q] at p
    exact p
  | ok f M2 =>
    rw [q] at p
    cases f with
    | nx σ2 => exact fun σ' lm' H' x m r => ⟨lm', σ2, M2, ⟨r, m⟩, PostS.ext p x⟩
    | cont σ2 => exact p
    | brk σ2 => exact p
    | ret d => exact p
end
end Ev

end

/-! ## EvM -/
section
set_option Elab.async false
set_option linter.all false
set_option maxRecDepth 100000
set_option maxHeartbeats 2000000
/-! try with several except clauses, each with a name or without. -/
namespace Ev
open PySem PySem.Spec PyProof.Rows L2
/-- a clause: its class, the slot of its name, its suite -/
structure Cla where
  c : Value
  nm : Option Nat
  ts : Addr → Value → Option Addr → TS
/-- the ends of a suite with a name, which goes behind it -/
def offE (i : Nat) (D : Ends) : Ends := { nx := fun σ H => D.nx (σ.set i none) H, rt := D.rt, bk := fun σ H => D.bk (σ.set i none) H, ct := fun σ H => D.ct (σ.set i none) H }
def claW (q : Cla) (D : Ends) (cls : Value) (d : Option Addr) (σ : L2.St) (H : Hp) (a : Addr) : Prop := match q.nm with
  | none => q.ts a cls d D σ H
  | some i => q.ts a cls d (offE i D) (σ.set i (some (.ref a))) H
def wMix (K : PySem.W.Frag) (Wo : WX) (D : Ends) : List Cla → WX
  | [] => Wo
  | q :: r => fun cls d σ H => ∃ t, PySem.W.exmOne K cls q.c = some t ∧ (t = true → ∀ a, H a = none → claW q D cls d σ H a) ∧ (t = false → wMix K Wo D r cls d σ H)
def suOk (X : Cx) (ss : List Stmt) (ts : Addr → Value → Option Addr → TS) : Prop := ∀ (a : Addr) (ob : Obj) (cls : Value) (d : Option Addr) (pq : List (Addr × Obj)), Zc cls d ob → (∃ ws, ob.data = .fields ws) → PSs (X.suite a ((a, ob) :: pq)) ss (ts a cls d)
inductive MixOk (X : Cx) : List ExceptHandler → List Cla → Prop
  | nil : MixOk X [] []
  | bare {x : Str} {c : Value} {ts : Addr → Value → Option Addr → TS} {b : Stmt} {ss : List Stmt} {p1 p2 : Pos} {hds : List ExceptHandler} {l : List Cla} (hc : Names X x c) (hu : suOk X (b :: ss) ts) (r : MixOk X hds l) :
      MixOk X (.ExceptHandler (some (.Name x p1)) none (b :: ss) p2 :: hds) (⟨c, none, ts⟩ :: l)
  | named {x n : Str} {c : Value} {i : Nat} {ts : Addr → Value → Option Addr → TS} {b : Stmt} {ss : List Stmt} {p1 p2 : Pos} {hds : List ExceptHandler} {l : List Cla} (hc : Names X x c) (hi : X.N[i]? = some n) (hl : X.env.kindOf n = some .local)
      (hu : suOk X (b :: ss) ts) (r : MixOk X hds l) : MixOk X (.ExceptHandler (some (.Name x p1)) (some n) (b :: ss) p2 :: hds) (⟨c, some i, ts⟩ :: l)
section
variable {X : Cx} {body : List Stmt} {hd : ExceptHandler} {hds : List ExceptHandler} {l : List Cla} {pos : Pos} {tb : WX → TS} {Wo : WX}
theorem sp_move {Y : Cx} {p q : List (Addr × Obj)} {D : Ends} {f : Flow} {s : Shared} (go : ∀ σ H, Inv X p σ H s → Inv Y q σ H s) (h : SP X p D f s) : SP Y q D f s := by
  cases f
  case ret u =>
    obtain ⟨v, σ, H, J, r, w⟩ := h
    exact ⟨v, σ, H, go _ _ J, r, w⟩
  all_goals
    obtain ⟨σ, H, J, w⟩ := h
    exact ⟨σ, H, go _ _ J, w⟩
/-- what happens to an exception that the body lets out -/
def hopX (X : Cx) (pq : List (Addr × Obj)) (D : Ends) (hds : List ExceptHandler) : Value → Shared → Prop := fun e s => wpAny (model X.prog X.w) X.A (noteFrame e X.env)
  (fun _ s => wpAny (model X.prog X.w) X.A (setFlight e none) (fun _ s => wpAny (model X.prog X.w) X.A (handleBy e X.env hds) (SP X pq D) X.xe s) X.xe s) X.xe s
theorem ps_try_mix (hs : X.stack = X.env :: X.outer) (hf : X.env.frame = some X.env.locals) (hN : X.N.Nodup) (tk : Takes X Wo) (hh : MixOk X (hd :: hds) l)
    (hb : ∀ (W : WX) (pq : List (Addr × Obj)) (ye : Value → Shared → Prop), Takes (X.tr pq ye) W → PassesOwn (model X.prog X.w) X.A X.env ye → PSs (X.tr pq ye) body (tb W)) : PS X (.Try body (hd :: hds) [] [] pos) (fun D σ H => tb (wMix X.K Wo D l) D σ H) := by
  constructor
  intro pq s σ H D I h
  have okX := I.ok
  have frX : X.A.frames = some (X.env :: X.outer) := okX.frames.trans (by rw [hs])
  have look : PassesOwn (model X.prog X.w) X.A X.env (hopX X pq D (hd :: hds)) := by
    unfold hopX
    exact PassesOwn.looking
  have catch_ : Takes (X.tr (X.pn ++ pq) (hopX X pq D (hd :: hds))) (wMix X.K Wo D l) := by
    intro u s1 xx
    obtain ⟨a, B, sJ, pj, σ1, H1, cls, d, rfl, J0, nb, up, sky, na, os, ag, w⟩ := xx
    have J : Inv X pq σ1 H1 sJ := J0.ofTry okX
    have sky2 : Sky B (X.env :: X.outer) a (Zc cls d) X.env.locals s1.heap := hs ▸ sky
    refine Sky.land Zc.steady frX hf sky2 ?_
    intro g3 fl3 u3
    have K3 : Inv X pq σ1 H1 { s1 with heap := g3 } := J.landed nb fl3.1 (up.trans u3) os ag
    obtain ⟨ob3, ws3, at3, z3, dt3⟩ := fl3.there
    have outF : a ∉ frs (X.env :: X.outer) := by
      intro hm
      obtain ⟨_, o2, e2, hnf⟩ := fl3.2.2.1.mem hm
      rw [at3] at e2
      cases e2
      exact hnf _ dt3
    have nL : a ≠ X.env.locals := by
      intro z
      exact outF (List.mem_filterMap.mpr ⟨_, List.mem_cons_self, hf.trans (congrArg some z.symm)⟩)
    have nF : a ∉ X.fs := by
      intro hm
      obtain ⟨v, hv, e2⟩ := List.mem_filterMap.mp hm
      exact outF (List.mem_filterMap.mpr ⟨v, .tail _ hv, e2⟩)
    have S3 := K3.suite at3 dt3 na nL nF
    -- the classes, one after the other
    have tell : ∀ {x : Str} {c : Value} {p1 : Pos} {Q E : Value → Shared → Prop}, Names X x c → Q c { s1 with heap := g3 } → wpAny (model X.prog X.w) (X.A.mark (some (.ref a))) (eval (.Name x p1) X.env) Q E { s1 with heap := g3 } := by
      intro x c p1 Q E nm q
      obtain ⟨gl, db, mm⟩ := nm
      rcases mm with mm | ⟨mm, bt, ne⟩
      · exact ld_glob (X := X.suite a ((a, ob3) :: (X.pn ++ pq))) S3 gl mm q db
      · exact ld_blt (X := X.suite a ((a, ob3) :: (X.pn ++ pq))) S3 gl mm bt q ne db
    have ty : PySem.W.Looks (model X.prog X.w) g3 (typeOf (.ref a)) cls := by
      intro A Q E s2 kk q
      exact wpAny_typeOf_ref (kk _ _ at3) (z3.1.symm ▸ q)
    have walk : ∀ {gs : List ExceptHandler} {m : List Cla}, MixOk X gs m → wMix X.K Wo D m cls d σ1 H1 → wpAny (model X.prog X.w) X.A (handleBy (.ref a) X.env gs) (SP X pq D) X.xe { s1 with heap := g3 } := by
      intro gs m mk
      induction mk with
      | nil =>
        intro w
        apply wpAny_handleBy_nil
        obtain ⟨_, _, _, oe, vs, T, _, _, he, _, hd', h1, _⟩ := id fl3
        unfold PySem.passOn
        apply wpAny_bind
        apply wpAny_field he hd' h1
        have nn : ¬ ((Value.ref T == Value.none) = true) := by simp
        rw [if_neg nn]
        have off : wpAny (model X.prog X.w) X.A (setFlight (.ref a) X.env.frame) (fun _ s4 => wpAny (model X.prog X.w) X.A (throw (.ref a) : Sem Flow) (SP X pq D) X.xe s4) X.xe { s1 with heap := g3 } := by
          rw [hf]
          apply HandSPX.setFlight_upZ fl3
          intro g4 held u4
          refine wpAny_throw (tk _ _ ⟨a, B, sJ, pq, σ1, H1, cls, d, rfl, J, nb, (up.trans u3).trans u4, ?_, na, os, ag, w⟩)
          exact .inr (.inr (by rw [hs]; exact held))
        first
          | exact wpAny_bind (wpAny_pure (wpAny_bind off))
          | exact wpAny_bind off
      | @bare x c ts b ss p1 p2 gs m nm hu r ih =>
        intro w
        obtain ⟨t, t1, yes, no⟩ := w
        apply wpAny_handleBy_cons (codeAny_handlers_test _) (by intro z; cases z)
        refine tell nm ((PySem.W.exm_one (M := model X.prog X.w) K3.kIn ty t1).here ?_)
        cases t
        · exact ih (no rfl)
        · apply codeAny_handlers_suite
          refine HandSPX.lands_againZ fl3 fun g4 fl4 u4 => ?_
          have K4 : Inv X pq σ1 H1 { s1 with heap := g4 } := J.landed nb fl4.1 ((up.trans u3).trans u4) os ag
          obtain ⟨ob4, ws4, at4, z4, dt4⟩ := fl4.there
          have S4 := K4.suite at4 dt4 na nL nF
          refine wpAny_mono ((hu a ob4 cls d (X.pn ++ pq) z4 ⟨_, dt4⟩).run [] _ _ H1 _ S4 (yes rfl a na)) (fun f s6 sp => ?_) (fun _ _ z => z.elim)
          have sp2 := sp_move (Y := X) (q := pq) (fun _ _ J6 => J6.unsuite okX) sp
          cases f <;> exact sp2
      | @named x n c i ts b ss p1 p2 gs m nm hi hl hu r ih =>
        intro w
        obtain ⟨t, t1, yes, no⟩ := w
        apply wpAny_handleBy_cons (codeAny_handlers_test _) (by intro z; cases z)
        refine tell nm ((PySem.W.exm_one (M := model X.prog X.w) K3.kIn ty t1).here ?_)
        cases t
        · exact ih (no rfl)
        · apply codeAny_handlers_suite_as
          refine HandSPX.lands_againZ fl3 fun g4 fl4 u4 => ?_
          have K4 : Inv X pq σ1 H1 { s1 with heap := g4 } := J.landed nb fl4.1 ((up.trans u3).trans u4) os ag
          obtain ⟨ob4, ws4, at4, z4, dt4⟩ := fl4.there
          have S4 := K4.suite at4 dt4 na nL nF
          refine store_ok (X := X.suite a ((a, ob4) :: (X.pn ++ pq))) (v := .ref a) S4 hN hi (.inl hl) rfl (fun s5 S5 => ?_) (.inr hl)
          refine wpAny_mono ((hu a ob4 cls d (X.pn ++ pq) z4 ⟨_, dt4⟩).run [] s5 _ H1 (offE i D) S5 (yes rfl a na)) (fun f s6 sp => ?_) (fun _ _ z => z.elim)
          have off : ∀ {σ6 : L2.St} {H6 : Hp} {Q : Shared → Prop}, Inv (X.suite a ((a, ob4) :: (X.pn ++ pq))) [] σ6 H6 s6 → (∀ s7, Inv X pq (σ6.set i none) H6 s7 → Q s7) → wpAny (model X.prog X.w) X.A (do bindName X.env n .none; unbindBehindTheSuite X.env n p2) (fun _ s7 => Q s7) X.xe s6 := by
            intro σ6 H6 Q S6 hq
            exact gone_ok (S6.unsuite okX) hN hi hl hq
          cases f
          case ret u =>
            obtain ⟨v6, σ6, H6, S6, r6, q6⟩ := sp
            exact off S6 fun s7 J7 => ⟨v6, _, _, J7, r6, q6⟩
          all_goals
            obtain ⟨σ6, H6, S6, q6⟩ := sp
            exact off S6 fun s7 J7 => ⟨_, _, J7, q6⟩
    exact walk hh w
  apply wpAny_Try_except
  refine wpAny_mono ((hb _ _ _ catch_ look).run [] s σ H D (I.toTry _) h) (fun f s1 sp => ?_) (fun e s1 he => he)
  have sp2 := sp_move (Y := X) (q := pq) (fun _ _ J6 => J6.ofTry okX) sp
  cases f
  case next => exact wpAny_execs_nil sp2
  all_goals exact sp2
end
end Ev

end

/-! ## EvT -/
section
set_option Elab.async false
set_option linter.all false
set_option maxRecDepth 100000
set_option maxHeartbeats 2000000
/-! raise, try .. except. -/
namespace Ev
open PySem PySem.Spec PyProof.Rows L2
def vOf : PyData → V
  | .bool b => .bl b
  | .int i => .int i
  | .str s => .str s
  | _ => .non
theorem conD_dv {K : PySem.W.Frag} {H : Hp} {c : CE} {d : PyData} (h : conD c = some d) : Dv K H (vOf d) d := by
  cases c <;> first | (cases h; done) | skip
  · cases h; exact .non
  · cases h; exact .bl _
  · cases h; exact .int _
  · cases h; exact .str _
theorem seD_dv {K : PySem.W.Frag} {H : Hp} {c : Nat} : ∀ {s : SE} {d : PyData}, seD c s = some d → Dv K H (vOf d) d
  | .con _, _, h => conD_dv h
  | .isx _, _, h => by cases h; exact .bl _
  | .not a, _, h => by
    unfold seD at h
    split at h <;> cases h
    exact .bl _
  | .and a b, _, h => by
    unfold seD at h
    split at h
    · split at h <;> cases h
      exact .bl _
    · split at h <;> cases h
      exact .bl _
    · cases h
  | .ife z a b, _, h => by
    unfold seD at h
    split at h
    · exact seD_dv h
    · exact seD_dv h
    · cases h
theorem St.more {K : PySem.W.Frag} {T : Ti} {lm : List Addr} {H H' : Hp} {M : Mem} (m : St K T lm H M) (k : ∀ b o, H b = some o → H' b = some o) : St K T lm H' M := by
  have x : Ext lm H lm H' := ⟨⟨[], by simp⟩, fun a _ => .kept fun o e _ => k a o e, fun a o n e _ => ⟨n, k a o e⟩⟩
  refine ⟨⟨m.m.len, m.m.nd, fun i a xs e1 e2 => ?_⟩, m.t.ext k, T.mono _ _ _ _ x m.j⟩
  have hc := m.m.at_ i a xs e1 e2
  obtain ⟨u, h1, _⟩ := hc.some
  rw [k _ _ h1, ← h1]
  exact x.up.cell hc
theorem evEs_len {g : G} {σ : Sg} : ∀ {es : List CE} {M M' : Mem} {ds : List D}, evEs g es σ M = .ok ds M' → ds.length = es.length
  | [], M, M', ds, h => by
    cases h
    rfl
  | a :: es, M, M', ds, h => by
    have e0 : evEs g (a :: es) σ M = (evE g a σ M).bind fun d M1 => (evEs g es σ M1).bind fun ds M2 => .ok (d :: ds) M2 := by
      conv => lhs; unfold evEs
    rw [e0] at h
    cases q : evE g a σ M with
    | ok d M1 =>
      rw [q] at h
      have h : (evEs g es σ M1).bind (fun ds M2 => .ok (d :: ds) M2) = .ok ds M' := h
      cases q2 : evEs g es σ M1 with
      | ok ds2 M2 =>
        rw [q2] at h
        cases h
        rw [List.length_cons, List.length_cons, evEs_len q2]
      | exc y M2 =>
        rw [q2] at h
        cases h
      | bad =>
        rw [q2] at h
        cases h
    | exc y M1 =>
      rw [q] at h
      cases h
    | bad =>
      rw [q] at h
      cases h
theorem esLn {K : PySem.W.Frag} {c : Cv} {σ : L2.St} {D : Ends} {lm : List Addr} {H : Hp} {σD : Sg} {M : Mem} {es : List CE} {k : List Ev.D → Mem → R Fl} (s : Sim K c lm H σ σD M) (p : PostS K c D lm H ((evEs c.g es σD M).bind k)) {R : List V → Hp → Prop} (h : ∀ vs H1 ds M1 lm1, evEs c.g es σD M = .ok ds M1 → GotL K c lm H lm1 H1 ds M1 vs → PostS K c D lm1 H1 (k ds M1) → R vs H1) : tEs K c es σ H R := by
  refine ⟨lm, σD, M, s, ?_⟩
  cases e : evEs c.g es σD M with
  | ok d M1 =>
    rw [e] at p
    exact fun v l1 H1 x m r => h v H1 d M1 l1 e ⟨x, m, r⟩ (PostS.ext p x)
  | exc y M1 =>
    rw [e] at p
    exact fun cls dd l2 H2 x2 m e => p cls dd l2 H2 σ x2 m e
  | bad =>
    rw [e] at p
    exact p
section
variable {Z : Zp} {X : Cx} {t : Tc} {c : Cv} {k : Nat}
/-! ### raise -/
theorem q_raise (Zc : Zcl Z) (Ze : Z.er = fun x cls dd _ => cls = .ref (Z.ca x.cls) ∧ x.cls < Z.t.inis.length ∧ (Z.t.inis[x.cls]? = some none → dd = none)) (F : Fit X t) (L : Cll Z X t c k) {ci : Nat} {es : List CE} {x : Str} {as : List Expr} {p1 p2 p3 : Pos}
    (h : ((glo t x && decide (t.cls.lookup x = some ci)) && ((match t.inis[ci]? with
    | some none => decide (as.length = 0)
    | some (some _) => decide (as.length = 1)
    | none => false) && chkEs t es as)) = true) (ra : PA X as (tEs X.K c es)) (hs : ∀ e ∈ as, starB e = false) (hl : as.length = es.length) : PS X (.Raise (some (.Call (.Name x p1) as [] p2)) none p3) (tSt X.K c (.raise ci es)) := by
  obtain ⟨h1, h2⟩ := and_e h
  obtain ⟨h1, h3⟩ := and_e h1
  obtain ⟨h2, _⟩ := and_e h2
  obtain ⟨x1, x2, _, _⟩ := glo_of h1
  have h3 := dec_e h3
  obtain ⟨z1, z2⟩ := Zc.nm x ci (by rw [← L.same.cls]; exact h3)
  obtain ⟨k1, k2, k3⟩ := Zc.keep ci z2
  have er : ∀ {d : Option Addr} {xs : List PyData} {H : Hp}, (Z.t.inis[ci]? = some none → d = none) → c.er ⟨ci, xs⟩ (.ref (Z.ca ci)) d H := fun hd => by
    rw [L.er, Ze]
    exact ⟨rfl, z2, hd⟩
  have gl : Gl X x := F.gl x1
  have gm : X.mg x = some (.ref (Z.ca ci)) := by rw [L.mg]; exact z1
  have hc := F.calm
  have hK := L.K
  rw [L.same.inis] at h2
  split at h2
  · rename_i hi
    have h2 := dec_e h2
    cases as with
    | cons _ _ => cases h2
    | nil =>
      cases es with
      | cons _ _ => cases hl
      | nil =>
        refine (ps_raise hc L.takes (pmk_own0 PySem.F.excBase_ValueError (by rw [hK]; exact Zc.raise0 ci hi) gm (by rw [hK]; exact k1) (raises_own (by rw [hK]; exact k2) (by rw [hK]; exact k3)) gl x2)).imp fun D σ H ⟨lm, σD, M, s, p⟩ => ?_
        unfold evS at p
        have p : PostS X.K c D lm H (.exc ⟨ci, []⟩ M) := p
        exact p _ none lm H σ (.refl _ _) s.m (er fun _ => rfl)
  · rename_i f hi
    have h2 := dec_e h2
    match as, h2, ra, hs, hl with
    | [a], _, ra, hs, hl =>
      obtain ⟨y1, y2, y3, y4, y5, y6⟩ := Zc.raise1 ci f hi
      rw [← hK] at y1 y2 y3 y4 y6
      have y5 : FnOk X.prog X.w X.K X.mg X.base (L2.CX X.prog X.w) 1 (Z.fi ci) (Z.fid ci) (Z.fip ci) (sp1 X.K f) := by
        rw [L.P, L.w, hK, L.mg]
        exact y5 X.base
      refine (ps_raise hc L.takes (pmk_oex y1 y3 y4 y5 (L.room.mono (by omega)) y6 .nil (fun _ _ _ _ _ _ _ h => by obtain ⟨_, _, _, _, _, _, _, _, _, _, _, _, h⟩ := h; exact h.elim) gl gm ra x2 (star_ne (hs a (List.mem_cons_self ..))) rfl)).imp fun D σ H ⟨lm, σD, M, s, p⟩ => ?_
      unfold evS at p
      refine esLn s p fun vs H1 ds M1 lm1 ee g1 p1 => ?_
      cases q : allP ds with
      | none =>
        rw [q] at p1
        exact p1.elim
      | some xs =>
        rw [q] at p1
        have p1 : PostS X.K c D lm1 H1 (.exc ⟨ci, xs⟩ M1) := p1
        have hvl : vs.length = 1 := by rw [← g1.r.len, evEs_len ee, ← hl]; rfl
        refine mk1 (H1 := H1) (Q := fun cls d H' => c.W cls d σ H') y1 y2 hvl fun d H2 kk => ?_
        have xx : Ext lm1 H1 lm1 H2 := ⟨⟨[], by simp⟩, fun a _ => .kept fun o e _ => kk a o e, fun a o n e _ => ⟨n, kk a o e⟩⟩
        exact p1 _ (some d) lm1 H2 σ xx (g1.m.more kk) (er fun z => by rw [hi] at z; cases z)
  · cases h2
/-! ### the expressions of an except suite -/
def hS (n : Option Str) (i : Nat) (a : Addr) (σ : L2.St) : Prop := n ≠ none → σ[i]? = some (some (.ref a))
def rdE (n : Option Str) (i : Nat) (a : Addr) (v : PyData) : TE := fun σ H Q => hS n i a σ ∧ Q (vOf v) H
def rdT (n : Option Str) (i : Nat) (a : Addr) (b : Bool) : TT := fun σ H Q => hS n i a σ ∧ Q b H
def SRes (X : Cx) (n : Option Str) (i : Nat) (a : Addr) (e : Expr) (v : PyData) : Prop := PE X e (rdE n i a v) ∧ ∀ b, v = .bool b → PT X e (rdT n i a b)
theorem sres_val {n : Option Str} {i : Nat} {a : Addr} {e : Expr} {v : PyData} (h : PE X e (rdE n i a v)) (he : ∀ whole, isTrue e X.env whole = (do let v ← whole; standAt e.pos; holding [v] (truthy v))) : SRes X n i a e v :=
  ⟨h, fun b hb => (pt_val h he).imp fun σ H Q ⟨z, q⟩ => by
    subst hb
    exact ⟨z, b, rfl, q⟩⟩
theorem se_con {t : Tc} {n : Option Str} {i : Nat} {a : Addr} {ce : CE} {v : PyData} {kc : Const} {j : Nat} {p : Pos} (hc : chkE t ce (.Constant kc j p) = true) (h : conD ce = some v) : SRes X n i a (.Constant kc j p) v := by
  refine sres_val ?_ fun _ => rfl
  cases ce <;> first | (cases h; done) | skip
  · cases kc <;> first | (cases hc; done) | skip
    cases h
    exact pe_non.imp fun σ H Q ⟨_, q⟩ => q
  · cases kc <;> first | (cases hc; done) | skip
    cases h
    have := dec_e hc
    subst this
    exact pe_bl.imp fun σ H Q ⟨_, q⟩ => q
  · cases kc <;> first | (cases hc; done) | skip
    cases h
    have := dec_e hc
    subst this
    exact pe_int.imp fun σ H Q ⟨_, q⟩ => q
  · cases kc <;> first | (cases hc; done) | skip
    cases h
    have := dec_e hc
    subst this
    exact pe_str.imp fun σ H Q ⟨_, q⟩ => q
theorem and_v {n : Option Str} {i : Nat} {a : Addr} {b1 b2 : Bool} {σ : L2.St} {H : Hp} {Q : VK} (h : rdE n i a (.bool (b1 && b2)) σ H Q) : tAndV (rdE n i a (.bool b1)) (rdE n i a (.bool b2)) σ H Q := by
  obtain ⟨z, q⟩ := h
  refine ⟨z, b1, rfl, ?_⟩
  cases b1 with
  | true => exact (if_pos rfl).mpr ⟨z, q⟩
  | false => exact (if_neg Bool.false_ne_true).mpr q
theorem and_t {n : Option Str} {i : Nat} {a : Addr} {b1 b2 : Bool} {σ : L2.St} {H : Hp} {Q : Bool → Hp → Prop} (h : rdT n i a (b1 && b2) σ H Q) : tAnd (rdT n i a b1) (rdT n i a b2) σ H Q := by
  obtain ⟨z, q⟩ := h
  refine ⟨z, ?_⟩
  cases b1 with
  | true => exact (if_pos rfl).mpr ⟨z, q⟩
  | false => exact (if_neg Bool.false_ne_true).mpr q
theorem pe_no {X : Cx} {e : Expr} : PE X e (fun _ _ _ => False) := ⟨fun _ _ _ _ _ _ h => h.elim⟩
theorem pt_no {X : Cx} {e : Expr} : PT X e (fun _ _ _ => False) := ⟨fun _ _ _ _ _ _ h => h.elim⟩
theorem se_ok (Zc' : Zcl Z) (F : Fit X t) (L : Cll Z X t c k) {n : Option Str} {i : Nat} {a : Addr} {oe : Obj} {pn : List (Addr × Obj)} {ci : Nat} (hci : ci < Z.t.inis.length) (hz : n ≠ none → Zc (.ref (Z.ca ci)) none oe) (hf : ∃ vs, oe.data = Data.fields vs) (hn : ∀ x, n = some x → chkR t i x = true ∧ t.sc.names.lookup x = some .local) :
    ∀ (s : SE) (e : Expr) (v : PyData), chkSE t n s e = true → seD ci s = some v → SRes (X.suite a ((a, oe) :: pn)) n i a e v
  | .con ce, e, v, h, hv => by
    cases e with
    | Constant kc j p =>
      obtain ⟨h1, h2⟩ := and_e (show ((conD ce).isSome && chkE t ce (.Constant kc j p)) = true from h)
      exact se_con h2 hv
    | _ => cases h
  | .isx ids, e, v, h, hv => by
    match e, h with
    | .Call (.Name f p1) [.Name y p2, .Name z p3] [] p4, h =>
      obtain ⟨h1, h2⟩ := and_e (show ((gloB t f && decide (f = "isinstance")) && (decide (n = some y) && (glo t z && (match t.cls.lookup z with | some d => decide (t.kits[d]? = some (some ids)) | none => false)))) = true from h)
      obtain ⟨h1, h3⟩ := and_e h1
      have h3 := dec_e h3
      subst h3
      obtain ⟨h2, h4⟩ := and_e h2
      obtain ⟨h4, h5⟩ := and_e h4
      have h2 := dec_e h2
      obtain ⟨g1, g2⟩ := gloB_of h1
      obtain ⟨g1, _⟩ := glo_of g1
      obtain ⟨x1, x2, _, _⟩ := glo_of h4
      cases q : t.cls.lookup z with
      | none =>
        rw [q] at h5
        cases h5
      | some d =>
        rw [q] at h5
        have h5 := dec_e h5
        rw [L.same.kits] at h5
        rw [L.same.cls] at q
        obtain ⟨z1, z2⟩ := Zc'.nm z d q
        obtain ⟨z3, z4⟩ := Zc'.kit ci d ids h5 hci
        obtain ⟨n1, n2⟩ := hn y h2
        have hv : some (PyData.bool (ids.contains ci)) = some v := hv
        cases hv
        obtain ⟨n1, _, dn1, dn2⟩ := chkR_of n1
        have hmy : (X.suite a ((a, oe) :: pn)).N[i]? = some y := by
          show X.N[i]? = some y
          rw [F.N]
          exact n1
        refine sres_val ?_ fun _ => rfl
        refine (pe_callB (call_isE (D := Z.ca ci) (by rw [L.K]; exact z4) (hz (by rw [h2]; exact fun z => by cases z)) hf) (F.gl g1) (F.fr _ g2) (by decide +kernel) (pa_cons (pe_var hmy (.inl (by rw [F.sc]; exact n2)) dn1 dn2) (pa_cons (pe_glob (F.gl x1) (by rw [L.mg]; exact z1) (v := .ref (Z.ca d)) rfl x2) pa_nil)) (by decide) (by decide) rfl rfl).imp fun σ H Q ⟨hs, hq⟩ => ?_
        exact ⟨_, hs (by rw [h2]; exact fun z => by cases z), .ref (Z.ca d), .ref (Z.ca d), ids.contains ci, rfl, fun u hu => hu, by rw [L.K]; exact z3, hq⟩
  | .not s, e, v, h, hv => by
    cases e with
    | UnaryOp op x p =>
      cases op <;> first | (cases h; done) | skip
      have h : chkSE t n s x = true := h
      unfold seD at hv
      split at hv
      · rename_i b hb
        cases hv
        obtain ⟨i1, i2⟩ := se_ok Zc' F L hci hz hf hn s x _ h hb
        exact ⟨(pe_not i1).imp fun σ H Q ⟨z, q⟩ => ⟨z, b, rfl, q⟩, fun b' hb' => (pt_not (i2 b rfl)).imp fun σ H Q ⟨z, q⟩ => by
          cases hb'
          exact ⟨z, q⟩⟩
      · cases hv
    | _ => cases h
  | .and s u, e, v, h, hv => by
    have ev : ∃ b1 b2, seD ci s = some (.bool b1) ∧ seD ci u = some (.bool b2) ∧ v = .bool (b1 && b2) := by
      unfold seD at hv
      split at hv
      · rename_i q1
        split at hv
        · rename_i b2 q2
          cases hv
          exact ⟨_, _, q1, q2, rfl⟩
        · cases hv
      · rename_i q1
        split at hv
        · rename_i b2 q2
          cases hv
          exact ⟨_, _, q1, q2, rfl⟩
        · cases hv
      · cases hv
    obtain ⟨b1, b2, q1, q2, rfl⟩ := ev
    match e, h with
    | .BoolOp .And [x, y] p, h =>
      obtain ⟨h1, h2⟩ := and_e (show (chkSE t n s x && chkSE t n u y) = true from h)
      obtain ⟨i1, i2⟩ := se_ok Zc' F L hci hz hf hn s x _ h1 q1
      obtain ⟨j1, j2⟩ := se_ok Zc' F L hci hz hf hn u y _ h2 q2
      exact ⟨(pe_and i1 (pe_one j1)).imp fun σ H Q => and_v, fun b hb => by
        cases hb
        exact (pw_and (i2 b1 rfl) (pw_and1 (j2 b2 rfl))).pt.imp fun σ H Q => and_t⟩
    | .BoolOp .And (x :: y :: z :: r) p, h =>
      obtain ⟨h1, h2⟩ := and_e (show (chkSE t n s x && chkSE t n u (.BoolOp .And (y :: z :: r) p)) = true from h)
      obtain ⟨i1, i2⟩ := se_ok Zc' F L hci hz hf hn s x _ h1 q1
      obtain ⟨j1, j2⟩ := se_ok Zc' F L hci hz hf hn u _ _ h2 q2
      exact ⟨(pe_and i1 j1).imp fun σ H Q => and_v, fun b hb => by
        cases hb
        exact (pw_and (i2 b1 rfl) (pw_of (j2 b2 rfl))).pt.imp fun σ H Q => and_t⟩
  | .ife d s u, e, v, h, hv => by
    cases e with
    | IfExp z x y p =>
      obtain ⟨h1, h2⟩ := and_e (show (chkSE t n d z && (chkSE t n s x && chkSE t n u y)) = true from h)
      obtain ⟨h2, h3⟩ := and_e h2
      have ev : ∃ b1, seD ci d = some (.bool b1) ∧ seD ci (if b1 = true then s else u) = some v := by
        unfold seD at hv
        split at hv
        · rename_i q1
          exact ⟨true, q1, hv⟩
        · rename_i q1
          exact ⟨false, q1, hv⟩
        · cases hv
      obtain ⟨b1, q1, q2⟩ := ev
      obtain ⟨i1, i2⟩ := se_ok Zc' F L hci hz hf hn d z _ h1 q1
      cases b1 with
      | true =>
        obtain ⟨j1, j2⟩ := se_ok Zc' F L hci hz hf hn s x _ h2 q2
        exact ⟨(pe_ifExp (i2 true rfl) j1 (pe_no (e := y))).imp fun σ H Q ⟨z, q⟩ => ⟨z, z, q⟩, fun b hb => (pt_ifE (i2 true rfl) (j2 b hb) (pt_no (e := y))).imp fun σ H Q ⟨z, q⟩ => ⟨z, (if_pos rfl).mpr ⟨z, q⟩⟩⟩
      | false =>
        obtain ⟨j1, j2⟩ := se_ok Zc' F L hci hz hf hn u y _ h3 q2
        exact ⟨(pe_ifExp (i2 false rfl) (pe_no (e := x)) j1).imp fun σ H Q ⟨z, q⟩ => ⟨z, z, q⟩, fun b hb => (pt_ifE (i2 false rfl) (pt_no (e := x)) (j2 b hb)).imp fun σ H Q ⟨z, q⟩ => ⟨z, (if_neg Bool.false_ne_true).mpr ⟨z, q⟩⟩⟩
    | _ => cases h
/-! ### try .. except -/
/-- what an except suite comes to -/
def tsH (Z : Zp) (h : Hn) (n : Option Str) (i : Nat) : Addr → Value → Option Addr → TS := fun a cls d D σ H => (n ≠ none → ∃ σ0 : L2.St, σ = List.set σ0 i (some (.ref a))) ∧ ∃ ci v, cls = .ref (Z.ca ci) ∧ ci < Z.t.inis.length ∧ (n ≠ none → d = none) ∧ seD ci h.r = some v ∧ D.rt (vOf v) H
theorem inv_chkH {t : Tc} {n : Option Str} {h : Hn} {suite : List Stmt} (hc : chkH t n h suite = true) : ∃ e p, suite = [.Return (some e) p] ∧ chkH t n h [.Return (some e) p] = true := by
  cases suite with
  | nil => cases hc
  | cons b r =>
    cases r with
    | nil =>
      cases b with
      | Return e p =>
        cases e with
        | none => cases hc
        | some e => exact ⟨_, _, rfl, hc⟩
      | _ => cases hc
    | cons _ _ =>
      cases b with
      | Return e p =>
        cases e with
        | none => cases hc
        | some e => cases hc
      | _ => cases hc
theorem suite_ok (Zc' : Zcl Z) (F : Fit X t) (L : Cll Z X t c k) {n : Option Str} {i : Nat} {a : Addr} {oe : Obj} {cls : Value} {d : Option Addr} {pn : List (Addr × Obj)} (hz : Zc cls d oe) (hf : ∃ vs, oe.data = Data.fields vs) (hn : ∀ x, n = some x → chkR t i x = true ∧ t.sc.names.lookup x = some .local) {h : Hn} {suite : List Stmt} (hc : chkH t n h suite = true) :
    PSs (X.suite a ((a, oe) :: pn)) suite (tsH Z h n i a cls d) := by
  refine ⟨fun pins s σ H D I hq => ?_⟩
  obtain ⟨h1, ci, v, rfl, hci, hd, hv, hr⟩ := hq
  have h1 : hS n i a σ := fun hne => by
    obtain ⟨σ0, rfl⟩ := h1 hne
    cases n with
    | none => exact absurd rfl hne
    | some x =>
      obtain ⟨n1, _⟩ := chkR_of (hn x rfl).1
      have hl : (σ0.set i (some (V.ref a))).length = X.N.length := I.len
      rw [List.length_set] at hl
      rw [F.N] at hl
      have := (List.getElem?_eq_some_iff.mp n1).1
      rw [List.getElem?_set_self (by omega)]
  obtain ⟨e, p, rfl, hc⟩ := inv_chkH hc
  · have hc : chkSE t n h.r e = true := hc
    have r : SRes (X.suite a ((a, oe) :: pn)) n i a e v := se_ok Zc' F L hci (fun z => by rw [hd z] at hz; exact hz) hf hn h.r e v hc hv
    exact (pss_cons (ps_ret r.1) pss_nil).run pins s σ H D I ⟨h1, hr⟩
theorem chkCl_of {ids : List Nat} {x : Str} (F : Fit X t) (L : Cll Z X t c k) (Zc' : Zcl Z) (h : chkCl t ids x = true) : ∃ d, Names X x (.ref (Z.ca d)) ∧ Z.t.subs[d]? = some (some ids) := by
  obtain ⟨h1, h2⟩ := and_e (show (glo t x && (match t.cls.lookup x with | some d => decide (t.subs[d]? = some (some ids)) | none => false)) = true from h)
  obtain ⟨x1, x2, _, _⟩ := glo_of h1
  cases q : t.cls.lookup x with
  | none =>
    rw [q] at h2
    cases h2
  | some d =>
    rw [q] at h2
    have h2 := dec_e h2
    rw [L.same.subs] at h2
    rw [L.same.cls] at q
    obtain ⟨z1, _⟩ := Zc'.nm x d q
    exact ⟨d, ⟨F.gl x1, x2, .inl (by rw [L.mg]; exact z1)⟩, h2⟩
/-- what is wanted of a caught exception -/
def WH (X : Cx) (c : Cv) (hs : List Hn) (W : Ends → WX) : Prop := ∀ (x : Xc) (D : Ends) (σ : L2.St) (lm : List Addr) (H : Hp) (M : Mem) (cls : Value) (dd : Option Addr), St X.K c.T lm H M → c.er x cls dd H → PostS X.K c D lm H (hns x M hs) → W D cls dd σ H
theorem hns_hit {x : Xc} {M : Mem} {h : Hn} {hs : List Hn} {D : Ends} {lm : List Addr} {H : Hp} (e : h.ids.contains x.cls = true) (m : St X.K c.T lm H M) (p : PostS X.K c D lm H (hns x M (h :: hs))) : ∃ v, seD x.cls h.r = some v ∧ D.rt (vOf v) H := by
  unfold hns at p
  rw [if_pos e] at p
  cases q : seD x.cls h.r with
  | none =>
    rw [q] at p
    exact p.elim
  | some v =>
    rw [q] at p
    exact ⟨v, rfl, p (vOf v) lm H (.refl _ _) m (seD_dv q)⟩
theorem mix_ok (Zc' : Zcl Z) (Ze : Z.er = fun x cls dd _ => cls = .ref (Z.ca x.cls) ∧ x.cls < Z.t.inis.length ∧ (Z.t.inis[x.cls]? = some none → dd = none)) (F : Fit X t) (L : Cll Z X t c k) : ∀ {hs : List Hn} {hds : List ExceptHandler}, chkHM t hs hds = true → ∃ l, MixOk X hds l ∧ WH X c hs fun D => wMix X.K c.W D l
  | [], [], _ => ⟨[], .nil, fun x D σ lm H M cls dd m e p => p cls dd lm H σ (.refl _ _) m e⟩
  | h :: hs, hd :: hds, hc => by
    match hd, hc with
    | .ExceptHandler (some (.Name x p1)) none suite p2, hc =>
      obtain ⟨h1, h2⟩ := and_e (show ((chkCl t h.ids x && chkH t none h suite) && chkHM t hs hds) = true from hc)
      obtain ⟨h1, h3⟩ := and_e h1
      obtain ⟨d, nm, hs1⟩ := chkCl_of F L Zc' h1
      obtain ⟨l, ok, w⟩ := mix_ok Zc' Ze F L h2
      cases suite with
      | nil => cases h3
      | cons b0 suite =>
        refine ⟨⟨.ref (Z.ca d), none, tsH Z h none 0⟩ :: l, .bare nm (fun a oe cls d pn hz hf => suite_ok Zc' F L hz hf (fun _ z => by cases z) h3) ok, fun x D σ lm H M cls dd m e p => ?_⟩
        have e0 := e
        rw [L.er, Ze] at e
        obtain ⟨rfl, hx, hdd⟩ := e
        refine ⟨h.ids.contains x.cls, by rw [L.K]; exact Zc'.exm _ _ _ hs1 hx, fun hb a ha => ?_, fun hb => ?_⟩
        · obtain ⟨v, q1, q2⟩ := hns_hit hb m p
          exact ⟨fun z => absurd rfl z, x.cls, v, rfl, hx, fun z => absurd rfl z, q1, q2⟩
        · refine w x D σ lm H M _ dd m e0 ?_
          unfold hns at p
          rw [if_neg (by rw [hb]; exact Bool.false_ne_true)] at p
          exact p
    | .ExceptHandler (some (.Name x p1)) (some n) suite p2, hc =>
      obtain ⟨h1, h2⟩ := and_e (show ((match h.slot with
        | some i => chkR t i n && (decide (t.sc.names.lookup n = some .local) && ((chkCl t h.ids x && h.ids.all fun d => decide (t.inis[d]? = some none)) && chkH t (some n) h suite))
        | none => false) && chkHM t hs hds) = true from hc)
      obtain ⟨l, ok, w⟩ := mix_ok Zc' Ze F L h2
      cases hi : h.slot with
      | none => rw [hi] at h1; cases h1
      | some i =>
        rw [hi] at h1
        obtain ⟨g1, g2⟩ := and_e h1
        obtain ⟨g2, g3⟩ := and_e g2
        obtain ⟨g3, g4⟩ := and_e g3
        obtain ⟨g3, g5⟩ := and_e g3
        have hl := dec_e g2
        obtain ⟨d, nm, hs1⟩ := chkCl_of F L Zc' g3
        obtain ⟨n1, _⟩ := chkR_of g1
        cases suite with
        | nil => cases g4
        | cons b0 suite =>
          refine ⟨⟨.ref (Z.ca d), some i, tsH Z h (some n) i⟩ :: l, .named (i := i) nm (by rw [F.N]; exact n1) (by show X.env.scope.names.lookup n = _; rw [F.sc]; exact hl) (fun a oe cls d pn hz hf => suite_ok (i := i) (n := some n) Zc' F L hz hf (fun y hy => by cases hy; exact ⟨g1, hl⟩) g4) ok, fun x D σ lm H M cls dd m e p => ?_⟩
          have e0 := e
          rw [L.er, Ze] at e
          obtain ⟨rfl, hx, hdd⟩ := e
          refine ⟨h.ids.contains x.cls, by rw [L.K]; exact Zc'.exm _ _ _ hs1 hx, fun hb a ha => ?_, fun hb => ?_⟩
          · obtain ⟨v, q1, q2⟩ := hns_hit hb m p
            refine ⟨fun _ => ⟨σ, rfl⟩, x.cls, v, rfl, hx, fun _ => hdd ?_, q1, q2⟩
            have := List.all_eq_true.mp g5 x.cls (by simpa using hb)
            rw [L.same.inis] at this
            exact dec_e this
          · refine w x D σ lm H M _ dd m e0 ?_
            unfold hns at p
            rw [if_neg (by rw [hb]; exact Bool.false_ne_true)] at p
            exact p
  | [], _ :: _, h => by cases h
  | _ :: _, [], h => by cases h
theorem try_body {b : List CS} {hs : List Hn} {W : Ends → WX} (hw : WH X c hs W) {D : Ends} {σ : L2.St} {H : Hp} (h : tSt X.K c (.try_ b hs) D σ H) : tSs X.K { c with W := W D } b D σ H := by
  obtain ⟨lm, σD, M, s, p⟩ := h
  unfold evS at p
  refine ⟨lm, σD, M, ⟨s.s, s.m⟩, ?_⟩
  show PostS X.K _ D lm H (evSs c.g b σD M)
  cases q : evSs c.g b σD M with
  | ok f M1 =>
    rw [q] at p
    cases f <;> exact p
  | exc x M1 =>
    rw [q] at p
    exact fun cls dd lm' H' σ' xx m e => hw x D σ' lm' H' M1 cls dd m e (PostS.ext p xx)
  | bad =>
    rw [q] at p
    exact p.elim
theorem q_try (Zc' : Zcl Z) (Ze : Z.er = fun x cls dd _ => cls = .ref (Z.ca x.cls) ∧ x.cls < Z.t.inis.length ∧ (Z.t.inis[x.cls]? = some none → dd = none)) (F : Fit X t) (L : Cll Z X t c k) (hst : X.stack = X.env :: X.outer ∧ X.env.frame = some X.env.locals) {b : List CS} {hs : List Hn} {body : List Stmt} {hds : List ExceptHandler} {pos : Pos} (h : chkHs t hs hds = true)
    (hb : ∀ (W : WX) (pn : List (Addr × Obj)) (xe : Value → Shared → Prop), Takes (X.tr pn xe) W → PassesOwn (model X.prog X.w) X.A X.env xe → PSs (X.tr pn xe) body (tSs X.K { c with W := W } b)) : PS X (.Try body hds [] [] pos) (tSt X.K c (.try_ b hs)) := by
  obtain ⟨h1, h2⟩ := and_e h
  obtain ⟨l, ok, w⟩ := mix_ok Zc' Ze F L h2
  cases hds with
  | nil =>
    cases hs with
    | nil => cases h1
    | cons _ _ => cases h2
  | cons h0 hds => exact (ps_try_mix hst.1 hst.2 F.nd L.takes ok hb).imp fun D σ H hq => try_body w hq
end
end Ev

end

/-! ## Ev15 -/
section
set_option Elab.async false
set_option linter.all false
set_option maxRecDepth 100000
set_option maxHeartbeats 2000000
/-! Assignments; every statement that the check passes. -/
namespace Ev
open PySem PySem.Spec PyProof.Rows L2 LamX
theorem blk_fun {env : Env} (hk : env.scope.kind = .function) : env.blockKind = .function := by
  unfold Env.blockKind
  rw [hk]
  rfl
theorem star_one (e : Expr) : (match e with | .Starred .. => true | _ => false) = starB e := by cases e <;> rfl
theorem star_any {va vb : Expr} (h1 : starB va = false) (h2 : starB vb = false) : ([va, vb].any fun | .Starred .. => true | _ => false) = false := by
  have e1 := star_one va
  have e2 := star_one vb
  simp only [List.any_cons, List.any_nil, e1, e2, h1, h2]
  rfl
theorem sw_parA {env : Env} {x y : Str} {px py pt p2 : Pos} {kt k2 : Nat} {va vb : Expr} (hk : env.scope.kind = .function) (h1 : starB va = false) (h2 : starB vb = false) (hx : env.kindOf x = some .local) (hy : env.kindOf y = some .local) (hl : (py.line == px.line) = true) (hne : x ≠ y)
    (hf : [va, vb].all (foldedForSure 8) = false) (hc : [va, vb].all (constantsAlone 8) = false) : swappedStores [.Tuple [.Name x px, .Name y py] kt pt] (.Tuple [va, vb] k2 p2) env = pure (some [x, y]) := by
  have hb : (env.blockKind != .function) = false := by rw [blk_fun hk]; rfl
  have p1 : (Expr.Name x px).pos = px := rfl
  have hn : (y == x) = false := beq_eq_false_iff_ne.mpr (Ne.symm hne)
  have hn2 : (x == y) = false := beq_eq_false_iff_ne.mpr hne
  unfold swappedStores
  simp only [List.length_cons, List.length_nil, hb, hf, hc]
  simp [p1, List.filterMap_cons, hx, hy, beq_iff_eq.mp hl, List.eraseDups_cons, hn, hn2]
  intro h
  rcases h with h | h
  · cases va <;> first | (cases h; done) | cases h1
  · cases vb <;> first | (cases h; done) | cases h2
theorem sw_parB {env : Env} {x y : Str} {px py pt p2 : Pos} {kt k2 : Nat} {va vb : Expr} (hk : env.scope.kind = .function) (hx : env.kindOf x = some .local) (hy : env.kindOf y = some .local) (hl : (py.line == px.line) = true) (hne : x ≠ y)
    (hf : [va, vb].all (foldedForSure 8) = true) : swappedStores [.Tuple [.Name x px, .Name y py] kt pt] (.Tuple [va, vb] k2 p2) env = pure none := by
  have hb : (env.blockKind != .function) = false := by rw [blk_fun hk]; rfl
  have p1 : (Expr.Name x px).pos = px := rfl
  have hn : (y == x) = false := beq_eq_false_iff_ne.mpr (Ne.symm hne)
  unfold swappedStores
  simp only [List.length_cons, List.length_nil, hb, hf]
  simp [p1, List.filterMap_cons, hx, hy, beq_iff_eq.mp hl, List.eraseDups_cons, hn]
theorem sw_parC {env : Env} {x y : Str} {px py pt p2 : Pos} {kt k2 : Nat} {va vb : Expr} (hk : env.scope.kind = .function) (hc : env.kindOf x = some .cell ∨ env.kindOf y = some .cell) : swappedStores [.Tuple [.Name x px, .Name y py] kt pt] (.Tuple [va, vb] k2 p2) env = pure none := by
  have hb : (env.blockKind != .function) = false := by rw [blk_fun hk]; rfl
  have p1 : (Expr.Name x px).pos = px := rfl
  unfold swappedStores
  simp only [List.length_cons, List.length_nil, hb]
  rcases hc with hc | hc
  · by_cases hy : env.kindOf y = some .local ∧ py.line = px.line
    · simp [p1, List.filterMap_cons, hc, hy]
    · simp [p1, List.filterMap_cons, hc, hy]
  · by_cases hy : env.kindOf x = some .local
    · simp [p1, List.filterMap_cons, hc, hy]
    · simp [p1, List.filterMap_cons, hc, hy]
section
variable {Z : Zp} {k : Nat} {X : Cx} {t : Tc} {c : Cv}
theorem par_core {i j : Nat} {a b : CE} {DD : Ends} {σ : L2.St} {H : Hp} {RR : List V → Hp → Prop} (h : tSt X.K c (.par i j a b) DD σ H)
    (fin : ∀ v w H2 M2 lm2 σ', St X.K c.T lm2 H2 M2 → RelS X.K lm2 c.fs H2 ((σ.set i (some v)).set j (some w)) σ' → PostS X.K c DD lm2 H2 (.ok (.nx σ') M2) → RR [v, w] H2) : tEs X.K c [a, b] σ H RR := by
  obtain ⟨lm, σD, M, s, p⟩ := h
  unfold evS at p
  refine ⟨lm, σD, M, s, ?_⟩
  have e0 : evEs c.g [a, b] σD M = (evE c.g a σD M).bind fun d M1 => (evE c.g b σD M1).bind fun e M2 => .ok [d, e] M2 := by
    unfold evEs
    unfold evEs
    unfold evEs
    cases evE c.g a σD M with
    | ok d M1 =>
      show ((evE c.g b σD M1).bind fun d M1 => (R.ok [] M1).bind fun ds M2 => R.ok (d :: ds) M2).bind (fun ds M2 => R.ok (d :: ds) M2) = (evE c.g b σD M1).bind fun e M2 => .ok [d, e] M2
      cases evE c.g b σD M1 <;> rfl
    | exc _ _ => rfl
    | bad => rfl
  rw [e0]
  cases e1 : evE c.g a σD M with
  | bad =>
    rw [e1] at p
    exact p.elim
  | exc y M1 =>
    rw [e1] at p
    exact fun cls dd l2 H2 x2 m e => p cls dd l2 H2 σ x2 m e
  | ok d M1 =>
    rw [e1] at p
    have p : PostS X.K c DD lm H ((evE c.g b σD M1).bind fun y M2 => .ok (.nx ((σD.set i (some d)).set j (some y))) M2) := p
    show PostL X.K c σ RR lm H ((evE c.g b σD M1).bind fun e M2 => .ok [d, e] M2)
    cases e2 : evE c.g b σD M1 with
    | bad =>
      rw [e2] at p
      exact p.elim
    | exc y M2 =>
      rw [e2] at p
      exact fun cls dd l2 H2 x2 m e => p cls dd l2 H2 σ x2 m e
    | ok e M2 =>
      rw [e2] at p
      intro vs lm2 H2 x2 m2 r2
      obtain ⟨v, w, rfl, h1, h2⟩ := reps2 r2
      exact fin v w H2 M2 lm2 _ m2 (((x2.relS s.s).set h1).set h2) (PostS.ext (r := .ok (.nx _) M2) p x2)
theorem q_par {i j : Nat} {a b : CE} {x y : Str} {px py pt p2 pos : Pos} {kt k2 : Nat} {va vb : Expr} (F : Fit X t) (hi : chkW t i x = true) (hj : chkW t j y = true) (hij : i ≠ j) (hp : (parB t x y px py va vb).isSome = true) (h1 : starB va = false) (h2 : starB vb = false) (ha : PE X va (tE X.K c a)) (hb : PE X vb (tE X.K c b)) :
    PS X (.Assign [.Tuple [.Name x px, .Name y py] kt pt] (.Tuple [va, vb] k2 p2) pos) (tSt X.K c (.par i j a b)) := by
  refine ps_kind fun hk => ?_
  have PAab : PA X [va, vb] (tEs X.K c [a, b]) := s_cons ha (s_cons hb s_nil (star_ne h2)) (star_ne h1)
  have cellCase : (swappedStores [.Tuple [.Name x px, .Name y py] kt pt] (.Tuple [va, vb] k2 p2) X.env = pure none) → PS X (.Assign [.Tuple [.Name x px, .Name y py] kt pt] (.Tuple [va, vb] k2 p2) pos) (tSt X.K c (.par i j a b)) := fun hw => by
    have hn : chkNames t [i, j] [.Name x px, .Name y py] = true := by
      show (chkW t i x && (chkW t j y && true)) = true
      rw [hi, hj]
      rfl
    obtain ⟨n1, n2, n3⟩ := pgs_names F hn
    refine (ps_asg (pe_tup PAab) (pg_tup F.calm n1 n2 n3) rfl hw).imp fun DD σ H h => ?_
    refine par_core h fun v w H2 M2 lm2 σ' m r p => ⟨by show 2 ≤ sizeLine; decide, fun q hq => ?_⟩
    exact ⟨q, [v, w], rfl, .of upd_same, rfl, rfl, p _ lm2 _ (ext_new hq) (m.new hq) ((ext_new hq).relS r)⟩
  unfold parB at hp
  split at hp
  · rename_i hc
    obtain ⟨g1, g2⟩ := and_e hc
    obtain ⟨g2, g3⟩ := and_e g2
    obtain ⟨g3, g4⟩ := and_e g3
    have kx : X.env.kindOf x = some .local := by
      show X.env.scope.names.lookup x = _
      rw [F.sc]
      exact dec_e g1
    have ky : X.env.kindOf y = some .local := by
      show X.env.scope.names.lookup y = _
      rw [F.sc]
      exact dec_e g2
    split at hp
    · rename_i hf
      exact cellCase (sw_parB hk kx ky g3 (dec_e g4) hf)
    · rename_i hf
      split at hp
      · cases hp
      · rename_i hcn
        refine (ps_par F.calm F.nd (F.w hi).1 (F.w hj).1 hij kx ky PAab (sw_parA hk h1 h2 kx ky g3 (dec_e g4) (by simpa using hf) (by simpa using hcn))).imp fun DD σ H h => ?_
        exact par_core h fun v w H2 M2 lm2 σ' m r p => ⟨v, w, rfl, p _ lm2 H2 (.refl _ _) m r⟩
  · split at hp
    · rename_i hc
      refine cellCase (sw_parC hk ?_)
      rcases or_e hc with g | g
      · left
        show X.env.scope.names.lookup x = _
        rw [F.sc]
        exact dec_e g
      · right
        show X.env.scope.names.lookup y = _
        rw [F.sc]
        exact dec_e g
    · cases hp
/-! ### a, b, c = x, y, z -/
theorem relS_setDs {K : PySem.W.Frag} {lm fs : List Addr} {H : Hp} : ∀ {is : List Nat} {vs : List V} {ds : List Ev.D} {σ : L2.St} {σD σD' : Sg}, RelS K lm fs H σ σD → Reps K lm fs H ds vs → setDs is ds σD = some σD' → RelS K lm fs H (setV is vs σ) σD' ∧ vs.length = is.length
  | [], vs, [], σ, σD, σD', r, h, e => by
    cases e
    cases vs with
    | nil => exact ⟨r, rfl⟩
    | cons _ _ => exact h.elim
  | i :: is, vs, d :: ds, σ, σD, σD', r, h, e => by
    cases vs with
    | nil => exact h.elim
    | cons v vs =>
      obtain ⟨r2, l2⟩ := relS_setDs (is := is) (r.set (i := i) (d := d) h.1) h.2 e
      exact ⟨r2, by rw [List.length_cons, List.length_cons, l2]⟩
  | [], _, _ :: _, _, _, _, _, _, e => by cases e
  | _ :: _, _, [], _, _, _, _, _, e => by cases e
theorem parN_core {is : List Nat} {es : List CE} {DD : Ends} {σ : L2.St} {H : Hp} {RR : List V → Hp → Prop} (h : tSt X.K c (.parN is es) DD σ H)
    (fin : ∀ vs H2 M2 lm2 σ', vs.length = is.length → St X.K c.T lm2 H2 M2 → RelS X.K lm2 c.fs H2 (setV is vs σ) σ' → PostS X.K c DD lm2 H2 (.ok (.nx σ') M2) → RR vs H2) : tEs X.K c es σ H RR := by
  obtain ⟨lm, σD, M, s, p⟩ := h
  unfold evS at p
  refine esL s p fun vs H1 ds M1 lm1 g p1 => ?_
  cases q : setDs is ds σD with
  | none =>
    rw [q] at p1
    exact p1.elim
  | some σ' =>
    rw [q] at p1
    obtain ⟨r1, r2⟩ := relS_setDs (g.x.relS s.s) g.r q
    exact fin vs H1 M1 lm1 σ' r2 g.m r1 p1
def tPar3 (i j l : Nat) (ta : TA) : TS := fun D σ H => ta σ H fun vs H1 => ∃ v w u, vs = [v, w, u] ∧ D.nx (((σ.set i (some v)).set j (some w)).set l (some u)) H1
theorem ps_par3 {i j l : Nat} {x y z : Str} {a b d : Expr} {ta : TA} {px py pz pt pos : Pos} {kt k2 : Nat} {pt2 : Pos} (hc : X.calm = true) (hN : X.N.Nodup) (hi : X.N[i]? = some x) (hj : X.N[j]? = some y) (hl : X.N[l]? = some z) (hij : i ≠ j) (hil : i ≠ l) (hjl : j ≠ l)
    (hx : X.env.scope.names.lookup x = some .local) (hy : X.env.scope.names.lookup y = some .local) (hz : X.env.scope.names.lookup z = some .local) (ha : PA X [a, b, d] ta)
    (hw : swappedStores [.Tuple [.Name x px, .Name y py, .Name z pz] kt pt] (.Tuple [a, b, d] k2 pt2) X.env = pure (some [x, y, z]))
    (hs : swapsWithSole [.Tuple [.Name x px, .Name y py, .Name z pz] kt pt] (.Tuple [a, b, d] k2 pt2) pos.line X.env = pure false := by rfl) :
    PS X (.Assign [.Tuple [.Name x px, .Name y py, .Name z pz] kt pt] (.Tuple [a, b, d] k2 pt2) pos) (tPar3 i j l ta) := by
  refine ⟨fun pins s σ H D I h => ?_⟩
  rw [exec_Assign_arm]
  refine wpAny_bind (wpAny_standAt ?_)
  rw [hs]
  refine wpAny_bind (wpAny_pure ?_)
  rw [if_neg (by decide)]
  refine wpAny_bind (Tuple_ (thn (ha.run _ pins s σ H _ I h) fun us s1 ⟨vs, H1, I1, r1, q1⟩ => ?_))
  obtain ⟨v, w, o, e1, q1⟩ := q1
  subst e1
  obtain ⟨u1, u2, u3, rfl, rv, rw', ro⟩ : ∃ u1 u2 u3, us = [u1, u2, u3] ∧ RelV v u1 ∧ RelV w u2 ∧ RelV o u3 := by
    cases r1 with
    | cons p q =>
      cases q with
      | cons p' q' =>
        cases q' with
        | cons p'' q'' =>
          cases q''
          exact ⟨_, _, _, rfl, p, p', p''⟩
  refine wpAny_newObj_type ?_ (by show 3 ≤ sizeLine; decide)
  have I2 : Inv X pins σ H1 { s1 with heap := s1.heap.push { cls := .type "tuple", data := .seq [u1, u2, u3].toArray } } := I1.kept (t' := s1.toks) fun b o e => Heap.get?_push_of_some _ e
  rw [hw]
  refine wpAny_bind (wpAny_pure ?_)
  show wpAny (model X.prog X.w) X.A (do rule "assign.swapped-stores"; let items ← unpackItems (.ref s1.heap.objs.size) 3 none; assignInOrder [fun v => bindName X.env z v, fun v => bindName X.env y v, fun v => bindName X.env x v] items.reverse; pure Flow.next) _ _ _
  refine wpAny_bind (wpAny_rule (wpAny_bind (unpackItems_tuple (items := #[u1, u2, u3]) (I.ok.hd hc) (IsTup.new s1.heap _) fun h' hx' => ?_)))
  have I3 := I2.kept (h' := h') (t' := s1.toks) fun b o e => hx' b o (Nat.ne_of_lt (Heap.lt_size e)) e
  show wpAny _ _ (assignInOrder [fun v => bindName X.env z v, fun v => bindName X.env y v, fun v => bindName X.env x v] [u3, u2, u1] >>= fun _ => pure Flow.next) _ _ _
  refine wpAny_bind (assignInOrder_cons (wpAny_bindName (store_ok I3 hN hl (.inl hz) ro (fun s2 I4 => ?_) (.inr hz))))
  refine assignInOrder_cons (wpAny_bindName (store_ok I4 hN hj (.inl hy) rw' (fun s3 I5 => ?_) (.inr hy)))
  refine assignInOrder_cons (wpAny_bindName (store_ok I5 hN hi (.inl hx) rv (fun s4 I6 => assignInOrder_nil (wpAny_pure ?_)) (.inr hx)))
  have e : (((σ.set l (some o)).set j (some w)).set i (some v)) = ((σ.set i (some v)).set j (some w)).set l (some o) := by
    rw [List.set_comm (some w) (some v) (Ne.symm hij), List.set_comm (some o) (some v) (Ne.symm hil), List.set_comm (some o) (some w) (Ne.symm hjl)]
  rw [e] at I6
  exact ⟨_, H1, I6, q1⟩
theorem sw_par3A {env : Env} {x y z : Str} {px py pz pt p2 : Pos} {kt k2 : Nat} {vs : List Expr} (hk : env.scope.kind = .function) (h3 : vs.length = 3) (h1 : ∀ e ∈ vs, starB e = false) (hx : env.kindOf x = some .local) (hy : env.kindOf y = some .local) (hz : env.kindOf z = some .local) (hl : (py.line == px.line) = true) (hl2 : (pz.line == px.line) = true) (hne : x ≠ y) (hne2 : x ≠ z) (hne3 : y ≠ z)
    (hf : vs.all (foldedForSure 8) = false) (hc : vs.all (constantsAlone 8) = false) : swappedStores [.Tuple [.Name x px, .Name y py, .Name z pz] kt pt] (.Tuple vs k2 p2) env = pure (some [x, y, z]) := by
  have hb : (env.blockKind != .function) = false := by rw [blk_fun hk]; rfl
  have p1 : (Expr.Name x px).pos = px := rfl
  have hn : (y == x) = false := beq_eq_false_iff_ne.mpr (Ne.symm hne)
  have hn2 : (z == x) = false := beq_eq_false_iff_ne.mpr (Ne.symm hne2)
  have hn3 : (z == y) = false := beq_eq_false_iff_ne.mpr (Ne.symm hne3)
  unfold swappedStores
  simp only [List.length_cons, List.length_nil, hb, hf, hc, h3]
  have key : ∀ f : Expr → Bool, (∀ e, f e = starB e) → vs.any f = false := fun f hf => by
    rw [List.any_eq_false]
    intro e he
    rw [hf e, h1 e he]
    exact Bool.false_ne_true
  rw [key _ (fun e => by cases e <;> rfl)]
  simp [p1, List.filterMap_cons, hx, hy, hz, beq_iff_eq.mp hl, beq_iff_eq.mp hl2, List.eraseDups_cons, hn, hn2, hn3]
theorem sw_par3B {env : Env} {x y z : Str} {px py pz pt p2 : Pos} {kt k2 : Nat} {vs : List Expr} (hk : env.scope.kind = .function) (h3 : vs.length = 3) (hx : env.kindOf x = some .local) (hy : env.kindOf y = some .local) (hz : env.kindOf z = some .local) (hl : (py.line == px.line) = true) (hl2 : (pz.line == px.line) = true) (hne : x ≠ y) (hne2 : x ≠ z) (hne3 : y ≠ z)
    (hf : vs.all (foldedForSure 8) = true) : swappedStores [.Tuple [.Name x px, .Name y py, .Name z pz] kt pt] (.Tuple vs k2 p2) env = pure none := by
  have hb : (env.blockKind != .function) = false := by rw [blk_fun hk]; rfl
  have p1 : (Expr.Name x px).pos = px := rfl
  have hn : (y == x) = false := beq_eq_false_iff_ne.mpr (Ne.symm hne)
  have hn2 : (z == x) = false := beq_eq_false_iff_ne.mpr (Ne.symm hne2)
  have hn3 : (z == y) = false := beq_eq_false_iff_ne.mpr (Ne.symm hne3)
  unfold swappedStores
  simp only [List.length_cons, List.length_nil, hb, hf, h3]
  simp [p1, List.filterMap_cons, hx, hy, hz, beq_iff_eq.mp hl, beq_iff_eq.mp hl2, List.eraseDups_cons, hn, hn2, hn3]
theorem len_fm {α β : Type} (f : α → Option β) : ∀ {l : List α} {a : α}, a ∈ l → f a = none → (l.filterMap f).length < l.length
  | b :: l, a, h, e => by
    rcases List.mem_cons.mp h with rfl | h
    · rw [List.filterMap_cons, e]
      exact Nat.lt_succ_of_le (List.length_filterMap_le f l)
    · have := len_fm f h e
      rw [List.filterMap_cons]
      cases f b with
      | none => exact Nat.lt_succ_of_lt this
      | some c => exact Nat.succ_lt_succ this
theorem sw_cell {env : Env} {ts vs : List Expr} {pt p2 : Pos} {kt k2 : Nat} (hk : env.scope.kind = .function) (h : ∃ x p, Expr.Name x p ∈ ts ∧ env.kindOf x = some .cell) : swappedStores [.Tuple ts kt pt] (.Tuple vs k2 p2) env = pure none := by
  obtain ⟨x, p, hm, hc⟩ := h
  unfold swappedStores
  dsimp only
  split
  · rfl
  · split
    · rfl
    · rw [if_pos]
      rw [Bool.or_eq_true]
      left
      rw [bne_iff_ne]
      refine Nat.ne_of_lt (len_fm _ hm ?_)
      show (if (env.kindOf x == some .local && p.line == (ts.head?.map (·.pos.line)).getD 0) = true then some x else none) = none
      rw [hc, if_neg]
      simp
theorem sw_long {env : Env} {ts vs : List Expr} {pt p2 : Pos} {kt k2 : Nat} (h : 3 < ts.length) : swappedStores [.Tuple ts kt pt] (.Tuple vs k2 p2) env = pure none := by
  unfold swappedStores
  dsimp only
  rw [if_pos]
  have h1 : (ts.length == 2) = false := beq_eq_false_iff_ne.mpr (by omega)
  have h2 : (ts.length == 3) = false := beq_eq_false_iff_ne.mpr (by omega)
  rw [h1, h2]
  rfl
theorem q_parT {is : List Nat} {es : List CE} {ts vs : List Expr} {pt p2 pos : Pos} {kt k2 : Nat} (F : Fit X t) (hn : chkNames t is ts = true) (hz : is.length ≤ sizeLine) (PAab : PA X vs (tEs X.K c es)) (hw : swappedStores [.Tuple ts kt pt] (.Tuple vs k2 p2) X.env = pure none) :
    PS X (.Assign [.Tuple ts kt pt] (.Tuple vs k2 p2) pos) (tSt X.K c (.parN is es)) := by
  obtain ⟨n1, n2, n3⟩ := pgs_names F hn
  refine (ps_asg (pe_tup PAab) (pg_tup F.calm n1 n2 n3) rfl hw).imp fun DD σ H h => ?_
  refine parN_core h fun us H2 M2 lm2 σ' hl m r p => ⟨by rw [hl]; exact hz, fun q hq => ?_⟩
  exact ⟨q, us, rfl, .of upd_same, hl, hl, p _ lm2 _ (ext_new hq) (m.new hq) ((ext_new hq).relS r)⟩
theorem q_par3 {i j l : Nat} {es : List CE} {x y z : Str} {px py pz pt p2 pos : Pos} {kt k2 : Nat} {vs : List Expr} (F : Fit X t) (hi : chkW t i x = true) (hj : chkW t j y = true) (hl : chkW t l z = true) (hij : i ≠ j) (hil : i ≠ l) (hjl : j ≠ l) (hp : (par3B t x y z px py pz vs).isSome = true) (h3 : vs.length = 3) (hst : ∀ e ∈ vs, starB e = false) (PAab : PA X vs (tEs X.K c es)) :
    PS X (.Assign [.Tuple [.Name x px, .Name y py, .Name z pz] kt pt] (.Tuple vs k2 p2) pos) (tSt X.K c (.parN [i, j, l] es)) := by
  refine ps_kind fun hk => ?_
  have hn : chkNames t [i, j, l] [.Name x px, .Name y py, .Name z pz] = true := by
    show (chkW t i x && (chkW t j y && (chkW t l z && true))) = true
    rw [hi, hj, hl]
    rfl
  have kk : ∀ {w : Str} {o : Option NameKind}, t.sc.names.lookup w = o → X.env.kindOf w = o := fun {w o} h => by
    show X.env.scope.names.lookup w = _
    rw [F.sc]
    exact h
  unfold par3B at hp
  split at hp
  · rename_i hc
    obtain ⟨g1, g2⟩ := and_e hc
    obtain ⟨g1, g3⟩ := and_e g1
    obtain ⟨g3, g4⟩ := and_e g3
    obtain ⟨g2, g5⟩ := and_e g2
    obtain ⟨g2, g6⟩ := and_e g2
    obtain ⟨g5, g7⟩ := and_e g5
    obtain ⟨g7, g8⟩ := and_e g7
    have kx := kk (dec_e g1)
    have ky := kk (dec_e g3)
    have kz := kk (dec_e g4)
    split at hp
    · rename_i hf
      exact q_parT F hn (show 3 ≤ sizeLine by decide) PAab (sw_par3B hk h3 kx ky kz g2 g6 (dec_e g5) (dec_e g7) (dec_e g8) hf)
    · rename_i hf
      split at hp
      · cases hp
      · rename_i hcn
        have hw := sw_par3A (kt := kt) (k2 := k2) (pt := pt) (p2 := p2) hk h3 hst kx ky kz g2 g6 (dec_e g5) (dec_e g7) (dec_e g8) (by simpa using hf) (by simpa using hcn)
        match vs, h3, PAab, hw with
        | [a, b, d], _, PAab, hw =>
          refine (ps_par3 F.calm F.nd (F.w hi).1 (F.w hj).1 (F.w hl).1 hij hil hjl kx ky kz PAab hw).imp fun DD σ H h => ?_
          refine parN_core h fun us H2 M2 lm2 σ' hl m r p => ?_
          match us, hl, r with
          | [v, w, u], _, r => exact ⟨v, w, u, rfl, p _ lm2 H2 (.refl _ _) m r⟩
  · split at hp
    · rename_i hc
      refine q_parT F hn (show 3 ≤ sizeLine by decide) PAab (sw_cell hk ?_)
      rcases or_e hc with g | g
      · exact ⟨x, px, by simp, kk (dec_e g)⟩
      · rcases or_e g with g | g
        · exact ⟨y, py, by simp, kk (dec_e g)⟩
        · exact ⟨z, pz, by simp, kk (dec_e g)⟩
    · cases hp
/-! ### a comprehension's parts -/
theorem resl_of (E : ESound Z k) (F : Fit X t) (L : Cll Z X t c k) (hm : Mod X.K X.mg X.base) : ∀ {as : List CE} {es : List Expr}, chkEs t as es = true → ResL X c as es
  | [], [], _ => ⟨s_nil, trivial, rfl, rfl⟩
  | a :: as, e :: es, h => by
    obtain ⟨h1, h2⟩ := and_e (show (!starB e && (chkE t a e && chkEs t as es)) = true from h)
    obtain ⟨h2, h3⟩ := and_e h2
    have h1 : starB e = false := by simpa using h1
    have i1 := E X t c F L hm a e h2
    obtain ⟨r1, r2, r3, r4⟩ := resl_of E F L hm h3
    exact ⟨s_cons i1.1 r1 (star_ne h1), ⟨⟨h1, i1.1⟩, r2⟩, by unfold plainL; rw [h1, r3]; rfl, by rw [List.length_cons, List.length_cons, r4]⟩
  | [], _ :: _, h => by cases h
  | _ :: _, [], h => by cases h
theorem chkEs_star : ∀ {as : List CE} {es : List Expr}, chkEs t as es = true → ∀ e ∈ es, starB e = false
  | [], [], _, e, h => by cases h
  | a :: as, e0 :: es, h, e, he => by
    obtain ⟨h1, h2⟩ := and_e (show (!starB e0 && (chkE t a e0 && chkEs t as es)) = true from h)
    obtain ⟨h2, h3⟩ := and_e h2
    rcases List.mem_cons.mp he with rfl | he
    · simpa using h1
    · exact chkEs_star h3 e he
  | [], _ :: _, h, _, _ => by cases h
  | _ :: _, [], h, _, _ => by cases h
theorem chkNames_len : ∀ {is : List Nat} {es : List Expr}, chkNames t is es = true → is.length = es.length
  | [], [], _ => rfl
  | i :: is, e :: es, h => by
    cases e with
    | Name x p =>
      obtain ⟨_, h2⟩ := and_e (show (chkW t i x && chkNames t is es) = true from h)
      rw [List.length_cons, List.length_cons, chkNames_len h2]
    | _ => cases h
  | [], _ :: _, h => by cases h
  | _ :: _, [], h => by cases h
theorem ps_lc (E : ESound Z k) (F : Fit X t) (L : Cll Z X t c k) (hm : Mod X.K X.mg X.base) {ce : CE} {el : Expr} {gs : List Comprehension} {scope : Scope} {p py pos : Pos} {i : Nat} {x : Str} (hc : chkE t ce (.ListComp el gs scope p) = true) (hi : X.N[i]? = some x) (hx : X.env.scope.names.lookup x = some .local)
    (hsw : swapsWith (.ListComp el gs scope p) (some (.Name x py)) pos.line X.env = pure true) : PS X (.Assign [.Name x py] (.ListComp el gs scope p) pos) (tSt X.K c (.asg i ce)) := by
  cases ce with
  | comp tg it args conds own elt =>
    match gs, hc, hsw with
    | [⟨tge, iter, ifs, 0⟩], h, hsw =>
      obtain ⟨h1, h2⟩ := and_e (show ((L2.blkC t.N t.sc scope (own.map fun i => (t.N.getD i Str.empty, i)) && (match itArgs t it iter with | some xs => chkEs t args xs | none => false)) && (((chkTg (inBlk t scope) tg tge && tupTg it tge) && (decide (ifs.length ≤ 1) && tg.slots.all fun i => decide (i ∈ own))) && (chkEs (inBlk t scope) conds ifs && chkE (inBlk t scope) elt el))) = true from h)
      obtain ⟨h1, h3⟩ := and_e h1
      obtain ⟨h2, h4⟩ := and_e h2
      obtain ⟨h2, h5⟩ := and_e h2
      obtain ⟨h2, h6⟩ := and_e h2
      obtain ⟨h5, h7⟩ := and_e h5
      obtain ⟨h4, h8⟩ := and_e h4
      split at h3
      · rename_i xs hxs
        have ra := resl_of E F L hm h3
        have hit := it_of F hxs ra h6 h2
        have ok : BlkOk X.N X.env.scope scope (own.map fun i => (t.N.getD i Str.empty, i)) := by
          rw [F.N, F.sc]
          exact blkOk_by h1
        have ho : (own.map fun i => (t.N.getD i Str.empty, i)).map (·.2) = own := by
          rw [List.map_map]
          exact List.map_id _
        have hg : ∀ (s : Shared) (H : Hp) (C : Addr) (cl : List (Str × Addr)) (fp : List Addr), PG (X.blk s H scope (compEnvC scope cl C X.env) fp) tge (gT X.K c.quiet tg) := fun s H C cl fp => pg_of (fit_blk F) h2
        have hcl : conds.length ≤ 1 := by
          rw [← chkEs_len h4]
          exact dec_e h5
        have ht : ∀ (s : Shared) (H : Hp) (C : Addr) (cl : List (Str × Addr)) (fp : List Addr), PTs (X.blk s H scope (compEnvC scope cl C X.env) fp) ifs (tCs X.K c.quiet conds) := fun s H C cl fp => by
          match conds, ifs, h4, hcl with
          | [], [], _, _ => exact pts_nil
          | [k1], [e1], h4, _ =>
            obtain ⟨_, h9⟩ := and_e (show (!starB e1 && (chkE (inBlk t scope) k1 e1 && chkEs (inBlk t scope) [] [])) = true from h4)
            obtain ⟨h9, _⟩ := and_e h9
            exact pts_one (E (X.blk s H scope (compEnvC scope cl C X.env) fp) (inBlk t scope) c.quiet (fit_blk F) (cll_blk L) hm k1 e1 h9).2
        have he : ∀ (s : Shared) (H : Hp) (C : Addr) (cl : List (Str × Addr)) (fp : List Addr), PE (X.blk s H scope (compEnvC scope cl C X.env) fp) el (tE X.K c.quiet elt) := fun s H C cl fp => (E (X.blk s H scope (compEnvC scope cl C X.env) fp) (inBlk t scope) c.quiet (fit_blk F) (cll_blk L) hm elt el h8).1
        have hfo := fold_ok iter X.env (it_noset hxs h3)
        refine (ps_setLc F.calm F.nd hi hx hsw hit ok hg ht he hfo).imp fun DD σ H h => ?_
        exact s_comp (pos := p) F hit ok ho hg ht he (fun j hj => dec_e (List.all_eq_true.mp h7 j hj)) hfo hcl σ H _ (w_asg h)
      · cases h3
  | never =>
    refine ps_never.imp fun DD σ H ⟨lm, σD, M, s, p⟩ => ?_
    unfold evS at p
    unfold evE at p
    exact p.elim
  | _ => cases hc
theorem sw_false {x : Str} {py p : Pos} {el : Expr} {gs : List Comprehension} {scope : Scope} {l : Nat} {env : Env} (hsc : env.scope = t.sc) (h : swB t x py (.ListComp el gs scope p) = false) : swapsWith (.ListComp el gs scope p) (some (.Name x py)) l env = pure false := by
  have h : (decide (t.sc.names.lookup x = some .local) && ((py.line == p.line) && !(scope.names.any fun (n, k) => n == x && (k == .local || k == .cell)))) = false := h
  have e : swapsWith (.ListComp el gs scope p) (some (.Name x py)) l env = pure (env.blockKind == .function && env.kindOf x == some .local && py.line == p.line && !(scope.names.any fun (n, k) => n == x && (k == .local || k == .cell))) := rfl
  rw [e]
  have e2 : (env.kindOf x == some NameKind.local) = decide (t.sc.names.lookup x = some .local) := by
    show (env.scope.names.lookup x == some NameKind.local) = _
    rw [hsc]
    cases hq : decide (t.sc.names.lookup x = some .local) with
    | true => exact beq_iff_eq.mpr (dec_e hq)
    | false => exact beq_eq_false_iff_ne.mpr (of_decide_eq_false hq)
  rw [e2, Bool.and_assoc, Bool.and_assoc, h, Bool.and_false]
theorem q_asg (E : ESound Z k) (F : Fit X t) (L : Cll Z X t c k) (hm : Mod X.K X.mg X.base) {ce : CE} {v : Expr} {py pos : Pos} {i : Nat} {x : Str} (hw : chkW t i x = true) (hc : chkE t ce v = true) (hl : (!isComp v || isLC v) = true) : PS X (.Assign [.Name x py] v pos) (tSt X.K c (.asg i ce)) := by
  obtain ⟨w1, w2, w3⟩ := F.w hw
  have plain : swapsWith v (some (.Name x py)) pos.line X.env = pure false → PS X (.Assign [.Name x py] v pos) (tSt X.K c (.asg i ce)) := fun hs =>
    (ps_set F.nd w1 w2 (E X t c F L hm ce v hc).1 hs w3).imp fun DD σ H => w_asg
  by_cases hv : isComp v = true
  · rw [hv] at hl
    cases v with
    | ListComp el gs scope p =>
      cases hsw : swB t x py (.ListComp el gs scope p) with
      | false => exact plain (sw_false F.sc hsw)
      | true =>
        obtain ⟨g1, g2⟩ := and_e (show (decide (t.sc.names.lookup x = some .local) && ((py.line == p.line) && !(scope.names.any fun (n, k) => n == x && (k == .local || k == .cell)))) = true from hsw)
        obtain ⟨g2, g3⟩ := and_e g2
        refine ps_kind fun hk => ?_
        have hx : X.env.scope.names.lookup x = some .local := by
          rw [F.sc]
          exact dec_e g1
        exact ps_lc E F L hm hc w1 hx (sw_true hk hx g2 (by simpa using g3))
    | _ => first | cases hl | cases hv
  · refine plain ?_
    cases v <;> first | rfl | exact absurd rfl hv
theorem fit_tr (F : Fit X t) {pn : List (Addr × Obj)} {xe : Value → Shared → Prop} : Fit (X.tr pn xe) t := ⟨F.N, F.nd, F.sc, F.calm, F.units, F.fr, F.nums, F.top, F.own⟩
theorem cll_tr {c : Cv} (L : Cll Z X t c k) {pn : List (Addr × Obj)} {xe : Value → Shared → Prop} {W : WX} (tk : Takes (X.tr pn xe) W) : Cll Z (X.tr pn xe) t { c with W := W } k :=
  ⟨L.P, L.w, L.K, L.mg, L.T, L.g, L.er, L.same, L.tab, L.room, tk, L.lam⟩
/-! ### every statement -/
theorem inv_try {t : Tc} {b : List CS} {hs : List Hn} {st : Stmt} (h : chkS t (.try_ b hs) st = true) : ∃ p hds pos, st = .Try p hds [] [] pos ∧ chkS t (.try_ b hs) (.Try p hds [] [] pos) = true := by
  cases st with
  | Try p hds e f pos =>
    cases e with
    | nil =>
      cases f with
      | nil => exact ⟨_, _, _, rfl, h⟩
      | cons _ _ => cases h
    | cons _ _ => cases h
  | _ => cases h
theorem inv_raise {t : Tc} {ci : Nat} {es : List CE} {st : Stmt} (h : chkS t (.raise ci es) st = true) : ∃ x p1 as p2 p3, st = .Raise (some (.Call (.Name x p1) as [] p2)) none p3 ∧ chkS t (.raise ci es) (.Raise (some (.Call (.Name x p1) as [] p2)) none p3) = true := by
  cases st with
  | Raise e cz p3 =>
    cases e with
    | none => cases h
    | some e =>
      cases e with
      | Call f as kw p2 =>
        cases f with
        | Name x p1 =>
          cases kw with
          | nil =>
            cases cz with
            | none => exact ⟨_, _, _, _, _, rfl, h⟩
            | some _ => cases h
          | cons _ _ => cases h
        | _ => cases h
      | _ => cases h
  | _ => cases h
mutual
theorem snd_s (Zk : Zok Z) (E : ESound Z k) : ∀ (s : CS) (X : Cx) (c : Cv), Fit X t → Cll Z X t c k → Mod X.K X.mg X.base → PassesOwn (model X.prog X.w) X.A X.env X.xe → (X.stack = X.env :: X.outer ∧ X.env.frame = some X.env.locals) → ∀ (st : Stmt), chkS t s st = true → PS X st (tSt X.K c s)
  | .pass, X, c, F, L, hm, ho, hst, st, h => by
    cases st with
    | Pass p => exact q_pass ps_pass
    | Expr e p =>
      cases e with
      | Constant v j q =>
        cases v with
        | str z => exact q_pass ps_doc
        | _ => cases h
      | _ => cases h
    | _ => cases h
  | .expr e, X, c, F, L, hm, ho, hst, st, h => by
    cases st with
    | Expr x p =>
      obtain ⟨h1, h2⟩ := and_e (show (!isComp x && chkE t e x) = true from h)
      exact q_expr (E X t c F L hm e x h2).1 (by simpa using h1)
    | _ => cases h
  | .asg i e, X, c, F, L, hm, ho, hst, st, h => by
    cases st with
    | Assign ts v p =>
      match ts, h with
      | [.Name x py], h =>
        obtain ⟨h1, h2⟩ := and_e (show (chkW t i x && (chkE t e v && (!isComp v || isLC v))) = true from h)
        obtain ⟨h2, h3⟩ := and_e h2
        exact q_asg E F L hm h1 h2 h3
    | _ => cases h
  | .unp is e, X, c, F, L, hm, ho, hst, st, h => by
    cases st with
    | Assign ts v p =>
      match ts, h with
      | [.Tuple es kk q], h =>
        obtain ⟨h1, h2⟩ := and_e (show (!isTupE v && (chkNames t is es && chkE t e v)) = true from h)
        obtain ⟨h2, h3⟩ := and_e h2
        exact q_unp F (E X t c F L hm e v h3).1 h2 (by simpa using h1)
    | _ => cases h
  | .par i j a b, X, c, F, L, hm, ho, hst, st, h => by
    cases st with
    | Assign ts v p =>
      match ts, v, h with
      | [.Tuple [.Name x px, .Name y py] kt pt], .Tuple [va, vb] k2 p2, h =>
        obtain ⟨h1, h2⟩ := and_e (show (((chkW t i x && chkW t j y) && (decide (i ≠ j) && (parB t x y px py va vb).isSome)) && ((!starB va && !starB vb) && (chkE t a va && chkE t b vb))) = true from h)
        obtain ⟨h1, h3⟩ := and_e h1
        obtain ⟨h1, h4⟩ := and_e h1
        obtain ⟨h3, h5⟩ := and_e h3
        obtain ⟨h2, h6⟩ := and_e h2
        obtain ⟨h2, h7⟩ := and_e h2
        obtain ⟨h6, h8⟩ := and_e h6
        exact q_par F h1 h4 (dec_e h3) h5 (by simpa using h2) (by simpa using h7) (E X t c F L hm a va h6).1 (E X t c F L hm b vb h8).1
    | _ => cases h
  | .parN is es, X, c, F, L, hm, ho, hst, st, h => by
    cases st with
    | Assign tgs v p =>
      cases tgs with
      | nil => cases h
      | cons tg tgs =>
        cases tgs with
        | cons _ _ => cases tg <;> cases h
        | nil =>
          cases tg with
          | Tuple ts kt pt =>
            cases v with
            | Tuple vs k2 p2 =>
              obtain ⟨h1, h9⟩ := and_e (show (chkPar t is ts vs && chkEs t es vs) = true from h)
              have ra := resl_of E F L hm h9
              unfold chkPar at h1
              split at h1
              · obtain ⟨h1, h2⟩ := and_e h1
                obtain ⟨h1, h3⟩ := and_e h1
                obtain ⟨h1, h4⟩ := and_e h1
                obtain ⟨h4, h5⟩ := and_e h4
                obtain ⟨h3, h6⟩ := and_e h3
                obtain ⟨h6, h7⟩ := and_e h6
                obtain ⟨h7, h8⟩ := and_e h7
                exact q_par3 F h1 h4 h5 (dec_e h3) (dec_e h6) (dec_e h7) h8 (dec_e h2) (chkEs_star h9) ra.1
              · obtain ⟨h1, h3⟩ := and_e h1
                have e2 := dec_e h1
                exact q_parT F h3 (by rw [chkNames_len h3]; exact Nat.le_trans (Nat.le_of_lt e2.2) (by decide)) ra.1 (sw_long e2.1)
            | _ => cases h
          | _ => cases h
    | _ => cases h
  | .setix o i e, X, c, F, L, hm, ho, hst, st, h => by
    cases st with
    | Assign ts v p =>
      match ts, h with
      | [.Subscript ov iv q], h =>
        obtain ⟨h1, h2⟩ := and_e (show (!isSl iv && (chkE t e v && (chkE t o ov && chkE t i iv))) = true from h)
        obtain ⟨h2, h3⟩ := and_e h2
        obtain ⟨h3, h4⟩ := and_e h3
        exact q_set (E X t c F L hm e v h2).1 (E X t c F L hm o ov h3).1 (E X t c F L hm i iv h4).1 (by simpa using h1)
    | _ => cases h
  | .dset d kx e, X, c, F, L, hm, ho, hst, st, h => by
    cases st with
    | Assign ts v p =>
      match ts, h with
      | [.Subscript ov iv q], h =>
        obtain ⟨h1, h2⟩ := and_e (show (!isSl0 iv && (chkE t e v && (chkE t d ov && chkE t kx iv))) = true from h)
        obtain ⟨h2, h3⟩ := and_e h2
        obtain ⟨h3, h4⟩ := and_e h3
        exact q_dset (by rw [L.T]; exact L.w.symm) F.units (E X t c F L hm e v h2).1 (E X t c F L hm d ov h3).1 (E X t c F L hm kx iv h4).1
    | _ => cases h
  | .ite e a b, X, c, F, L, hm, ho, hst, st, h => by
    cases st with
    | If x p q pos =>
      obtain ⟨h1, h2⟩ := and_e (show (chkE t e x && (chkSs t a p && chkSs t b q)) = true from h)
      obtain ⟨h2, h3⟩ := and_e h2
      exact (ps_if (E X t c F L hm e x h1).2 (snd_ss Zk E a X c F L hm ho hst p h2) (snd_ss Zk E b X c F L hm ho hst q h3)).imp fun DD σ H => w_ite
    | _ => cases h
  | .whl e b, X, c, F, L, hm, ho, hst, st, h => by
    cases st with
    | While x p q pos =>
      cases q with
      | cons _ _ => cases h
      | nil =>
        obtain ⟨h1, h2⟩ := and_e (show (chkE t e x && chkSs t b p) = true from h)
        exact (ps_while ho (E X t c F L hm e x h1).2 (snd_ss Zk E b X c F L hm ho hst p h2)).imp fun DD σ H => w_whl
    | _ => cases h
  | .for_ tg it args b, X, c, F, L, hm, ho, hst, st, h => by
    cases st with
    | For g iter p q pos =>
      cases q with
      | cons _ _ => cases h
      | nil =>
        obtain ⟨h1, h2⟩ := and_e (show (((match itArgs t it iter with | some xs => chkEs t args xs | none => false) && (chkTg t tg g && tupTg it g)) && chkSs t b p) = true from h)
        obtain ⟨h1, h3⟩ := and_e h1
        obtain ⟨h3, h4⟩ := and_e h3
        split at h1
        · rename_i xs hxs
          have ra := resl_of E F L hm h1
          exact (ps_for ho F.calm (it_of F hxs ra h4 h3) (pg_of F h3) (snd_ss Zk E b X c F L hm ho hst p h2) (fold_ok iter X.env (it_noset hxs h1))).imp fun DD σ H => w_for
        · cases h1
    | _ => cases h
  | .ret e, X, c, F, L, hm, ho, hst, st, h => by
    cases st with
    | Return v p =>
      cases v with
      | some x => exact q_ret (E X t c F L hm e x h).1
      | none => cases h
    | _ => cases h
  | .retN, X, c, F, L, hm, ho, hst, st, h => by
    cases st with
    | Return v p =>
      cases v with
      | none => exact q_retN
      | some x => cases h
    | _ => cases h
  | .brk, X, c, F, L, hm, ho, hst, st, h => by
    cases st with
    | Break p => exact q_brk
    | _ => cases h
  | .cont, X, c, F, L, hm, ho, hst, st, h => by
    cases st with
    | Continue p => exact q_cont
    | _ => cases h
  | .raise ci es, X, c, F, L, hm, ho, hst, st, h => by
    obtain ⟨x, p1, as, p2, p3, rfl, h⟩ := inv_raise h
    · have h0 : ((glo t x && decide (t.cls.lookup x = some ci)) && ((match t.inis[ci]? with
        | some none => decide (as.length = 0)
        | some (some _) => decide (as.length = 1)
        | none => false) && chkEs t es as)) = true := h
      obtain ⟨_, h2⟩ := and_e h0
      obtain ⟨_, h3⟩ := and_e h2
      have ra := resl_of E F L hm h3
      exact q_raise Zk.cl Zk.er F L h0 ra.1 (chkEs_star h3) ra.2.2.2
  | .try_ b hs, X, c, F, L, hm, ho, hst, st, h => by
    obtain ⟨p, hds, pos, rfl, h⟩ := inv_try h
    · obtain ⟨h1, h2⟩ := and_e (show (chkSs t b p && chkHs t hs hds) = true from h)
      refine q_try Zk.cl Zk.er F L hst h2 fun W pn xe tk po => ?_
      exact snd_ss Zk E b (X.tr pn xe) { c with W := W } (fit_tr F) (cll_tr L tk) hm po hst p h1
  | .never, X, c, F, L, hm, ho, hst, st, h => q_never
theorem snd_ss (Zk : Zok Z) (E : ESound Z k) : ∀ (ss : List CS) (X : Cx) (c : Cv), Fit X t → Cll Z X t c k → Mod X.K X.mg X.base → PassesOwn (model X.prog X.w) X.A X.env X.xe → (X.stack = X.env :: X.outer ∧ X.env.frame = some X.env.locals) → ∀ (sts : List Stmt), chkSs t ss sts = true → PSs X sts (tSs X.K c ss)
  | [], X, c, F, L, hm, ho, hst, sts, h => by
    cases sts with
    | nil => exact q_nil
    | cons _ _ => cases h
  | s :: ss, X, c, F, L, hm, ho, hst, sts, h => by
    cases sts with
    | nil => cases h
    | cons st sts =>
      obtain ⟨h1, h2⟩ := and_e (show (chkS t s st && chkSs t ss sts) = true from h)
      exact q_cons (snd_s Zk E s X c F L hm ho hst st h1) (snd_ss Zk E ss X c F L hm ho hst sts h2)
end
end
end Ev

end

/-! ## Ev16 -/
section
set_option Elab.async false
set_option linter.all false
set_option maxRecDepth 100000
set_option maxHeartbeats 2000000
/-! The program; the law. -/
namespace Ev
open PySem PySem.Spec PyProof.Rows L2 LamX
/-- a def of the program is what its core says -/
structure DefOk (Z : Zp) (g : Nat) (d : Df) : Prop where
  ex : ∃ (x qual : Str) (params : Arguments) (body : List Stmt) (scope : Scope) (t : Tc), FunD Z.K x qual params body scope [] [] (Z.fn g) (Z.fd g) ∧ FnScope t.N (Z.ps g) scope ∧ t.sc = scope ∧ t.cs = none ∧ SameT t Z.t ∧ chkSs t d.body body = true ∧ d.nN = t.N.length ∧ d.ps = (Z.ps g).length ∧
    (t.lm = true → ∃ p, Z.fn g = He.fAd Z.K p ∧ He.cT Z.K p ∈ Z.cs ∧ ((He.cT Z.K p).2, qual ++ ".<locals>." ++ "<lambda>") ∈ Z.T)
theorem relS_start {K : PySem.W.Frag} {lm fs : List Addr} {H : Hp} {ds : List D} {vs : List V} {N : List Str} (h1 : Reps K lm fs H ds vs) (hn : vs.length ≤ N.length) : RelS K lm fs H (L2.start N vs) (Ev.start N.length ds) := by
  have l1 := h1.len
  unfold L2.start Ev.start
  refine ⟨by simp only [List.length_append, List.length_map, List.length_replicate]; omega, fun i d e => ?_⟩
  by_cases hi : i < ds.length
  · rw [List.getElem?_append_left (by rw [List.length_map]; exact hi), List.getElem?_map] at e
    have e2 : ds[i]? = some d := by
      cases q : ds[i]? with
      | none => rw [q] at e; cases e
      | some a => rw [q] at e; cases e; rfl
    obtain ⟨v, f1, f2⟩ := h1.get e2
    refine ⟨v, ?_, f2⟩
    rw [List.getElem?_append_left (by rw [List.length_map, ← l1]; exact hi), List.getElem?_map, f1]
    rfl
  · rw [List.getElem?_append_right (by rw [List.length_map]; omega), List.getElem?_replicate] at e
    split at e <;> cases e
theorem fsound {Z : Zp} (Zk : Zok Z) (hd : ∀ g d, Z.pr[g]? = some d → DefOk Z g d) : ∀ k, FSound Z k ∧ ESound Z k := by
  intro k
  induction k with
  | zero =>
    have f0 : FSound Z 0 := fun base hm tab g d e => by
      refine ⟨fun vs H Q E h => ?_, fun A outer s H args us vs Q E hr e0 hb r hsp => ?_⟩
      · obtain ⟨_, _, _, _, _, hl, _⟩ := h
        exact hl
      · obtain ⟨_, _, _, _, _, _, _, _, p⟩ := hsp
        exact p.elim
    exact ⟨f0, esound Zk f0 fun j hj => by cases hj⟩
  | succ k ih =>
    obtain ⟨fk, ek⟩ := ih
    have f1 : FSound Z (k + 1) := fun base hm tab g d e => by
      obtain ⟨x, qual, params, body, scope, t, FD, S, tsc, tcs, tsame, hchk, hnN, hps, hlam⟩ := (hd g d e).ex
      obtain ⟨oc, od, dV, kV, doc, pm, an, cdv, ct, osl, hfd, lk, hcd, _, _⟩ := FD.ex
      rw [hfd] at lk ⊢
      refine fn_of lk hcd S (fun vs H Q E h => ?_) fun A outer s H vs Q E hr hsp => ?_
      · obtain ⟨_, _, _, _, _, hl, _⟩ := h
        exact hl
      · obtain ⟨C, fs, lm, M, ds, hl, m, r, p⟩ := hsp
        have hr2 := hr
        have Ft : Fit (cxOf (L2.CX Z.P Z.w) Z.P Z.w Z.K Z.mg base t.N qual scope (Z.fn g) cdv A outer s H E) t := by
          refine ⟨rfl, S.nd, tsc.symm, rfl, ?_, fun x hx => ?_, fun x i hx => ?_, fun _ _ _ _ => rfl, fun s h => ?_⟩
          · have := hr2.un
            show (A.deeper (envOfC qual scope s.heap.objs.size (Z.fn g) cdv)).units + 64 < cLine
            omega
          · exact Zk.free x (by rw [← tsame.free]; exact hx)
          · exact Zk.nums x i (by rw [← tsame.nums]; exact hx)
          · rw [tcs] at h
            cases h
        have Lt : Cll Z (cxOf (L2.CX Z.P Z.w) Z.P Z.w Z.K Z.mg base t.N qual scope (Z.fn g) cdv A outer s H E) t { C := C, fs := fs, g := gOf Z.pr Z.fuel k C, W := fun cls d _ H' => E cls d H', T := tiOf Z base C fs, er := Z.er } k := by
          refine ⟨rfl, rfl, rfl, rfl, rfl, rfl, rfl, tsame, tab, hr2, takes_of rfl rfl rfl rfl, fun h => ⟨fun _ => rfl, ?_⟩⟩
          obtain ⟨p, h1, h2, h3⟩ := hlam h
          obtain ⟨c0, hc0⟩ := He.codeIn_ref hcd
          have h4 : He.codeOf Z.K p = c0 := by
            rw [h1] at lk
            exact He.codeOf_eq lk hc0
          refine ⟨c0, (He.cT Z.K p).2, hc0, ?_, h3⟩
          have this : He.cT Z.K p = (c0, (He.cT Z.K p).2) := by
            have e : (He.cT Z.K p).1 = c0 := h4
            rw [← e]
          rw [← this]
          exact h2
        refine ⟨_, snd_ss Zk ek d.body _ _ Ft Lt hm (passes_of rfl) ⟨rfl, rfl⟩ body hchk, ⟨lm, Ev.start d.nN ds, M, ⟨?_, m⟩, ?_⟩⟩
        · rw [hnN]
          refine relS_start r ?_
          rw [hl]
          have q := congrArg List.length S.pre
          rw [List.length_take] at q
          omega
        · have hds : ds.length = d.ps := by rw [r.len, hl, hps]
          unfold run at p
          simp only [e, hds, if_true] at p
          have p : PostF Z.K (tiOf Z base C fs) Z.er fs Q E lm H (finF M.length d.retRef (evSs (gOf Z.pr Z.fuel k C) d.body (Ev.start d.nN ds) M)) := p
          show PostS Z.K _ _ lm H (evSs (gOf Z.pr Z.fuel k C) d.body (Ev.start d.nN ds) M)
          cases q : evSs (gOf Z.pr Z.fuel k C) d.body (Ev.start d.nN ds) M with
          | bad =>
            rw [q] at p
            exact p.elim
          | exc y M' =>
            rw [q] at p
            intro cls dd lm' H' σ' x m' he
            obtain ⟨more, rfl⟩ := x.more
            have x0 : Ext lm H lm H' := x.drop ⟨[], by simp⟩
            have m0 := m'.drop x0 m
            rw [m.m.len] at m0
            exact p cls dd lm H' x0 m0 he
          | ok f M' =>
            rw [q] at p
            cases f with
            | brk _ => exact p.elim
            | cont _ => exact p.elim
            | nx σ2 =>
              intro σ' lm' H' x m' r'
              obtain ⟨more, rfl⟩ := x.more
              have x0 : Ext lm H lm H' := x.drop ⟨[], by simp⟩
              have m0 := m'.drop x0 m
              rw [m.m.len] at m0
              exact p .non lm H' x0 m0 .non
            | ret dv =>
              intro v lm' H' x m' r'
              have p2 : Post Z.K { C := C, fs := fs, g := gOf Z.pr Z.fuel k C, W := fun cls d _ H' => E cls d H', T := tiOf Z base C fs, er := Z.er } [] Q lm H (fin M.length d.retRef dv M') := by
                have p : PostF Z.K (tiOf Z base C fs) Z.er fs Q E lm H (fin M.length d.retRef dv M') := p
                cases hq : fin M.length d.retRef dv M' with
                | ok a b =>
                  rw [hq] at p
                  exact p
                | exc a b =>
                  rw [hq] at p
                  exact p
                | bad =>
                  rw [hq] at p
                  exact p
              exact fin_post (c := { C := C, fs := fs, g := gOf Z.pr Z.fuel k C, W := fun cls d _ H' => E cls d H', T := tiOf Z base C fs, er := Z.er }) m p2 x m' r'
    exact ⟨f1, esound Zk f1 fun j hj => by cases hj; exact ek⟩
/-! ### the law -/
theorem Hx_nil (H : Hp) : Hx [] H = H := by
  funext a
  unfold Hx
  simp
theorem dv_ints {K : PySem.W.Frag} {H : Hp} : ∀ ns : List Int, DvAll K H (ns.map V.int) (ns.map PyData.int)
  | [] => .nil
  | n :: ns => .cons (.int n) (dv_ints ns)
/-- the law's promise, from the evaluator's answer -/
theorem law_at {Z : Zp} (Zk : Zok Z) (hd : ∀ g d, Z.pr[g]? = some d → DefOk Z g d) {l : PySem.W.OpenLaw} {n k gl : Nat} {x : Str} {fa : Addr} {h : Heap} (hP : l.prog = Z.P) (hfa : Z.fn gl = fa) (hps : Z.ps gl = [x])
    (h1 : ∀ p ∈ Z.cs, h.get? p.2 = some { cls := .none, data := .fields #[] }) (h2 : ∀ p ∈ Z.cs, Z.K.lookup p.2 = none) (h3 : ∀ p ∈ Z.cs, PySem.W.CodeHd h p.1 p.2) (hb : ∀ (s : Shared) (u : Value), BindsTo s (Z.fd gl) ⟨[u], []⟩ [(x, u)])
    (hT : ∀ q ∈ Z.T, ∃ p ∈ Z.cs, p.2 = q.1) (hpr : ∃ d, Z.pr[gl]? = some d)
    (answer : ∀ ns : List Int, ns.length ≤ n → ∃ M, run Z.pr Z.fuel k [] (.fn gl) [.scr (ns.map .int)] [] = .ok (.p (.bool true)) M) : LawAtS l Z.w Z.K (L2.CX Z.P Z.w) (k + 2) n x Z.mg fa h := by
  refine ⟨Z.fd gl, Z.cs, fun vs H Q E => ∀ base, spF Z k base gl vs H Q E, h1, h2, h3, hb, fun H a ns hl _ hH hS base => ?_, fun base hK hG hTab => ?_⟩
  · obtain ⟨M, hM⟩ := answer ns hl
    refine ⟨[], [], [], [], [.scr (ns.map .int)], by rw [hps]; rfl, ⟨⟨rfl, List.nodup_nil, fun i a xs e _ => by simp at e⟩, fun q hq => ?_, rfl, fun n c e => by simp at e⟩, ⟨⟨a, ns.map V.int, rfl, by rw [Hx_nil]; exact hS, dv_ints ns⟩, trivial⟩, ?_⟩
    · obtain ⟨p, hp, e⟩ := hT q hq
      refine TabS.nil ?_
      rw [← e]
      exact hH p hp
    · rw [hM]
      intro v lm' H' x m r
      have r : Dv Z.K (Hx lm' H') v (.bool true) := r
      cases r
      rfl
  · obtain ⟨d, hd1⟩ := hpr
    rw [hP, ← hfa, ← hps]
    refine ⟨fun vs H Q E q => ?_, fun A outer s H args us vs Q E hr e0 hbb r hsp => ?_⟩
    · obtain ⟨_, _, _, _, _, hl, _⟩ := q base
      exact hl
    · exact ((fsound Zk hd k).1 base e0.mod hTab gl d hd1).run A outer s H args us vs Q E hr e0 hbb r (hsp base)
end Ev

end

/-! ## Ev17 -/
section
set_option Elab.async false
set_option linter.all false
set_option maxRecDepth 100000
set_option maxHeartbeats 2000000
/-! A program's defs as data; the law from the head's facts. -/
namespace Ev
open PySem PySem.Spec PyProof.Rows L2 LamX
def defsFrom : Nat → List DI → List (Str × Nat)
  | _, [] => []
  | n, i :: r => (i.name, n) :: defsFrom (n + 1) r
theorem defs_at {x : Str} {g : Nat} : ∀ {dis : List DI} {n : Nat}, (defsFrom n dis).lookup x = some g → ∃ i, n ≤ g ∧ dis[g - n]? = some i ∧ i.name = x
  | [], _, h => by cases h
  | i :: r, n, h => by
    unfold defsFrom at h
    rw [List.lookup_cons] at h
    cases hb : x == i.name with
    | true =>
      rw [hb] at h
      cases h
      exact ⟨i, Nat.le_refl _, by rw [Nat.sub_self]; rfl, (beq_iff_eq.mp hb).symm⟩
    | false =>
      rw [hb] at h
      obtain ⟨j, h1, h2, h3⟩ := defs_at h
      refine ⟨j, by omega, ?_, h3⟩
      have e : g - n = (g - (n + 1)) + 1 := by omega
      rw [e]
      exact h2
theorem nodup_inj {α β : Type} {f : α → β} : ∀ {l : List α}, (l.map f).Nodup → ∀ {a b : α}, a ∈ l → b ∈ l → f a = f b → a = b
  | [], _, _, _, h, _, _ => by cases h
  | x :: l, nd, a, b, ha, hb, e => by
    rw [List.map_cons, List.nodup_cons] at nd
    rcases List.mem_cons.mp ha with ha1 | ha <;> rcases List.mem_cons.mp hb with hb1 | hb
    · rw [ha1, hb1]
    · rw [ha1] at e
      exact absurd (List.mem_map.mpr ⟨b, hb, e.symm⟩) nd.1
    · rw [hb1] at e
      exact absurd (List.mem_map.mpr ⟨a, ha, e⟩) nd.1
    · exact nodup_inj nd.2 ha hb e
def clsFrom : Nat → List CI → List (Str × Nat)
  | _, [] => []
  | n, i :: r => (i.name, n) :: clsFrom (n + 1) r
theorem cls_at {x : Str} {g : Nat} : ∀ {dis : List CI} {n : Nat}, (clsFrom n dis).lookup x = some g → ∃ i, n ≤ g ∧ dis[g - n]? = some i ∧ i.name = x
  | [], _, h => by cases h
  | i :: r, n, h => by
    unfold clsFrom at h
    rw [List.lookup_cons] at h
    cases hb : x == i.name with
    | true =>
      rw [hb] at h
      cases h
      exact ⟨i, Nat.le_refl _, by rw [Nat.sub_self]; rfl, (beq_iff_eq.mp hb).symm⟩
    | false =>
      rw [hb] at h
      obtain ⟨j, h1, h2, h3⟩ := cls_at h
      refine ⟨j, by omega, ?_, h3⟩
      have e : g - n = (g - (n + 1)) + 1 := by omega
      rw [e]
      exact h2
def Prg.defs (p : Prg) : List (Str × Nat) := defsFrom 0 p.dis
def Prg.tc (p : Prg) (i : DI) : Tc := ⟨i.N, defScope (p.top i.ix), p.defs, p.nums, clsFrom 0 p.cls, none, true, p.free, i.lm, p.cls.map (·.subs), p.cls.map (·.kit), p.cls.map (·.ini), p.cons, p.wds⟩
def Prg.pr (p : Prg) : Pr := p.dis.map (·.d)
def fnscB (N ps : List Str) (sc : Scope) : Bool :=
  decide (sc.kind = .function) && (!sc.isCoroutine && (!sc.isGenerator && (decide N.Nodup && (decide (N.take ps.length = ps) && (ps.all (fun x => decide (sc.names.lookup x = some .local) || decide (sc.names.lookup x = some .cell)) && sc.names.all fun y => !decide (y.2 = .free))))))
theorem fnsc_by {N ps : List Str} {sc : Scope} (h : fnscB N ps sc = true) : FnScope N ps sc := by
  unfold fnscB at h
  simp only [Bool.and_eq_true, Bool.not_eq_true', decide_eq_true_eq, List.all_eq_true, Bool.or_eq_true, decide_eq_false_iff_not] at h
  obtain ⟨h1, h2, h3, h4, h5, h6, h7⟩ := h
  exact ⟨h1, h2, h3, h4, h5, h6, h7⟩
def Prg.ok (p : Prg) (i : DI) : Bool := !(i.name == ("__debug__" : Str)) && (fnscB i.N i.ps (defScope (p.top i.ix)) && (chkSs (p.tc i) i.d.body (defBody (p.top i.ix)) && (decide (i.d.nN = i.N.length) && decide (i.d.ps = i.ps.length))))
/-- an __init__ that stores its argument -/
def Prg.iniB (p : Prg) (q : CI) : Bool := match q.ini with
  | none => true
  | some f => (match defBody (initSt (p.top q.ix)) with
    | [.Assign [.Attribute (.Name s _) g _] (.Name m _) _] => decide (g = f) && (fnscB [s, m] [s, m] (defScope (initSt (p.top q.ix))) && (decide ((defScope (initSt (p.top q.ix))).names.lookup s = some .local) && (decide ((defScope (initSt (p.top q.ix))).names.lookup m = some .local) && (okName s && okName m))))
    | _ => false)
def iniPs (st : Stmt) : List Str := match defBody st with
  | [.Assign [.Attribute (.Name s _) _ _] (.Name m _) _] => [s, m]
  | _ => []
def Prg.BdI (p : Prg) (q : CI) : Prop := q.ini ≠ none → ∀ (kV doc pm : Value) (an : Option Addr) (cdv ct : Value) (us : List Value), us.length = (iniPs (initSt (p.top q.ix))).length → bindArgs (PySem.W.fnOf "__init__" (q.name ++ ".__init__") (defArgs (initSt (p.top q.ix))) (defBody (initSt (p.top q.ix))) (defScope (initSt (p.top q.ix))) .none kV doc pm an cdv ct) ⟨us, []⟩ = pure ((iniPs (initSt (p.top q.ix))).zip us)
/-- each def binds its arguments as they stand -/
def Prg.Bd (p : Prg) (i : DI) : Prop := ∀ (kV doc pm : Value) (an : Option Addr) (cdv ct : Value) (us : List Value), us.length = i.ps.length → bindArgs (PySem.W.fnOf i.name i.name (defArgs (p.top i.ix)) (defBody (p.top i.ix)) (defScope (p.top i.ix)) .none kV doc pm an cdv ct) ⟨us, []⟩ = pure (i.ps.zip us)
def Prg.nameAt (p : Prg) (g : Nat) : Str := match p.dis[g]? with
  | some i => i.name
  | none => Str.empty
def Prg.psAt (p : Prg) (g : Nat) : List Str := match p.dis[g]? with
  | some i => i.ps
  | none => []
def Prg.clsAt (p : Prg) (g : Nat) : Str := match p.cls[g]? with
  | some i => i.name
  | none => Str.empty
def Prg.iniAt (p : Prg) (g : Nat) : List Str := match p.cls[g]? with
  | some i => iniPs (initSt (p.top i.ix))
  | none => []
theorem okName_of {x : Str} (h : okName x = true) : (x == ("__debug__" : Str)) = false ∧ (x == ("__classdict__" : Str)) = false := by
  unfold okName at h
  simp only [Bool.and_eq_true, decide_eq_true_eq] at h
  exact ⟨h.1.1, h.1.2⟩
theorem oex_of {K : PySem.W.Frag} {C : Addr} (h : oexB K C = true) (hb : xbaseB K C = true) : OexC K C := by
  obtain ⟨h1, h2⟩ := and_e (show (_ && _) = true from h)
  obtain ⟨b1, b2⟩ := and_e (show (_ && _) = true from hb)
  obtain ⟨b2, b3⟩ := and_e b2
  refine ⟨?_, He.eqO_ok h2, dec_e b2, dec_e b3, b1⟩
  split at h1
  · rename_i dd cd sl hl
    split at h1
    · rename_i C' bm k0 k1 k2 k3 n k5 hm hs
      simp only [Bool.and_eq_true, decide_eq_true_eq, Bool.not_eq_true', beq_iff_eq] at h1
      obtain ⟨h1, h3, h4, h5, h6⟩ := h1
      subst h1 h3
      obtain ⟨nm, bs, mro, N, q, hd, sn, sub, ab, col, hdl⟩ := cd
      simp only at hm h4 h5
      subst hm h4 h5
      have hs : sl = #[k0, k1, k2, k3, some (.builtin "ValueError.__new__"), k5] := by
        rw [← hs]
      subst hs
      exact ⟨_, _, _, _, _, _, _, _, _, _, _, _, _, _, _, hl, h6⟩
    · cases h1
  · cases h1
theorem excC_of {K : PySem.W.Frag} {C : Addr} (h : excCB K C = true) : ExcC K C := by
  obtain ⟨h1, h⟩ := and_e (show (_ && _) = true from h)
  obtain ⟨h2, h⟩ := and_e h
  obtain ⟨h3, h⟩ := and_e h
  obtain ⟨h4, h⟩ := and_e h
  obtain ⟨h5, h⟩ := and_e h
  obtain ⟨h6, h⟩ := and_e h
  obtain ⟨h7, h8⟩ := and_e h
  exact ⟨He.eqO_ok h1, He.eqO_ok h2, dec_e h3, h4, He.eqO_ok h5, He.eqO_ok h6, dec_e h7, dec_e h8⟩
def Prg.zp (p : Prg) (P : Program) (w : World) (K : PySem.W.Frag) (mg : Str → Option Value) (fuel : Nat) (fd fid : Nat → FuncData) : Zp where
  P := P
  w := w
  K := K
  mg := mg
  pr := p.pr
  fuel := fuel
  T := p.tf.map fun q => ((He.cT K q).2, q.1 ++ ".<locals>." ++ "<lambda>")
  cs := p.tf.map (He.cT K)
  t := ⟨[], defScope (p.top 0), p.defs, p.nums, clsFrom 0 p.cls, none, true, p.free, false, p.cls.map (·.subs), p.cls.map (·.kit), p.cls.map (·.ini), p.cons, p.wds⟩
  fn := fun g => He.fAd K (p.nameAt g, none)
  fd := fd
  ps := p.psAt
  ca := fun c => He.ga K (p.clsAt c)
  fi := fun c => He.ma K (He.ga K (p.clsAt c)) "__init__"
  fid := fid
  fip := p.iniAt
  er := fun x cls dd _ => cls = .ref (He.ga K (p.clsAt x.cls)) ∧ x.cls < (p.cls.map (·.ini)).length ∧ ((p.cls.map (·.ini))[x.cls]? = some none → dd = none)
mutual
theorem relK_ok {K : PySem.W.Frag} : ∀ {d : PyData} {u : Value}, relK K d u = true → ∃ v, RelV v u ∧ ∀ H, Dv K H v d
  | .none, u, h => by
    unfold relK at h
    split at h
    · exact ⟨.non, rfl, fun _ => .non⟩
    · cases h
  | .bool a, u, h => by
    unfold relK at h
    split at h
    · rw [beq_iff_eq.mp h]
      exact ⟨.bl _, rfl, fun _ => .bl _⟩
    · cases h
  | .int i, u, h => by
    unfold relK at h
    split at h
    · rw [of_decide_eq_true h]
      exact ⟨.int _, ⟨_, rfl⟩, fun _ => .int _⟩
    · cases h
  | .str x, u, h => by
    unfold relK at h
    split at h
    · rw [of_decide_eq_true h]
      exact ⟨.str _, ⟨_, rfl⟩, fun _ => .str _⟩
    · cases h
  | .tuple ds, u, h => by
    unfold relK at h
    split at h
    · rename_i a
      split at h
      · rename_i c its n sl e
        simp only [Bool.and_eq_true, decide_eq_true_eq] at h
        obtain ⟨h1, h2, h3⟩ := h
        obtain ⟨vs, h4, h5⟩ := relKs_ok h3
        subst h1
        exact ⟨.ref a, rfl, fun H => .tup (.inr ⟨_, its, n, e, rfl, rfl, rfl, by rw [sizeLine_eq]; omega, h4⟩) (h5 H)⟩
      · cases h
    · cases h
  | .list _, _, h => by
    unfold relK at h
    cases h
  | .dict _, _, h => by
    unfold relK at h
    cases h
theorem relKs_ok {K : PySem.W.Frag} : ∀ {ds : List PyData} {us : List Value}, relKs K ds us = true → ∃ vs, Vals vs us ∧ ∀ H, DvAll K H vs ds
  | [], us, h => by
    unfold relKs at h
    cases us with
    | nil => exact ⟨[], .nil, fun _ => .nil⟩
    | cons _ _ => cases h
  | d :: ds, us, h => by
    unfold relKs at h
    cases us with
    | nil => cases h
    | cons u us =>
      obtain ⟨h1, h2⟩ := and_e h
      obtain ⟨v, h3, h4⟩ := relK_ok h1
      obtain ⟨vs, h5, h6⟩ := relKs_ok h2
      exact ⟨v :: vs, .cons h3 h5, fun H => .cons (h4 H) (h6 H)⟩
end
theorem relN_ok {K : PySem.W.Frag} {a : Addr} {x : Str} {d : PyData} (h : relN K a x d = true) : ∃ u, PySem.W.nsIn K a x = some (some u) ∧ relK K d u = true := by
  unfold relN at h
  split at h
  · rename_i u e
    exact ⟨u, e, h⟩
  · cases h
theorem keysIn_find {P : Params} {x : Str} : ∀ {es : List DictEntry} {ks : List Str}, es.map He.keyOf = He.keysIn P ks → x ∉ ks → es.find? (·.key.isStr x) = none ∧ es.any (·.refKey) = false
  | [], _, _, _ => ⟨rfl, rfl⟩
  | e :: es, [], h, _ => by cases h
  | e :: es, k :: ks, h, hx => by
    have h : He.keyOf e :: es.map He.keyOf = some (k, PyData.keyHash P k) :: He.keysIn P ks := h
    injection h with h1 h2
    obtain ⟨i1, i2⟩ := keysIn_find h2 fun z => hx (List.mem_cons_of_mem _ z)
    unfold He.keyOf at h1
    split at h1
    · rename_i y t q
      have hy : y = k := (Prod.mk.inj (Option.some.inj h1)).1
      have e1 : e.key.isStr x = false := by
        rw [q]
        exact beq_eq_false_iff_ne.mpr fun z => hx (by rw [← z, hy]; exact List.mem_cons_self)
      have e2 : e.refKey = false := by
        unfold DictEntry.refKey
        rw [q]
      rw [List.find?_cons_of_neg (by rw [e1]; exact Bool.false_ne_true), List.any_cons, e2]
      exact ⟨i1, i2⟩
    · cases h1
theorem ns_none_keys {K : PySem.W.Frag} {P : Params} {a : Addr} {ks : List Str} {x : Str} (h : He.dicW K a = some (He.keysIn P ks)) (hx : x ∉ ks) : PySem.W.nsIn K a x = some none := by
  unfold He.dicW at h
  split at h
  · rename_i c es n sl e
    split at h
    · obtain ⟨h1, h2⟩ := keysIn_find (Option.some.inj h) hx
      unfold PySem.W.nsIn
      rw [e]
      simp only [h1, h2]
      rfl
    · cases h
  · cases h
theorem lookup_not {α : Type} {x : Str × α} : ∀ {l : List (Str × α)}, l.lookup x.1 = none → x ∉ l
  | [], _, h => by cases h
  | y :: l, h, hm => by
    rw [List.lookup_cons] at h
    cases hb : x.1 == y.1 with
    | true =>
      rw [hb] at h
      cases h
    | false =>
      rw [hb] at h
      rcases List.mem_cons.mp hm with rfl | hm
      · rw [beq_self_eq_true] at hb
        cases hb
      · exact lookup_not h hm
theorem _root_.He.SaysT.dic_at {fa : List He.Fa} {fn : List He.DefD} {ts : List He.Tab} {w : World} {K : PySem.W.Frag} (c : He.SaysT fa fn ts w K) {i : Nat} {t : He.Tab} (h : ts[i]? = some t) : He.dicW K (t.1 K) = some (He.keysIn w.params t.2) := by
  have e : ts.map (fun t => He.dicW K (t.1 K)) = ts.map fun t => some (He.keysIn w.params t.2) := congrArg (fun z : He.AlT => z.2) c
  have e2 : (ts.map fun t => He.dicW K (t.1 K))[i]? = (ts.map fun t => some (He.keysIn w.params t.2))[i]? := by rw [e]
  rw [List.getElem?_map, List.getElem?_map, h] at e2
  exact Option.some.inj e2
theorem law_from {p : Prg} (hok : p.dis.all p.ok = true) (hbd : ∀ i ∈ p.dis, p.Bd i) (hci : p.cls.all p.iniB = true) (hbi : ∀ q ∈ p.cls, p.BdI q) {l : PySem.W.OpenLaw} {n k fuel gl : Nat} {x : Str} {lw : DI} (hl : p.dis[gl]? = some lw) (hlp : lw.ps = [x]) {w : World} {mg : Str → Option Value} {fa : Addr} {h : Heap} {K : PySem.W.Frag} (KX : K.In h) (G : h.Ns mainGlobals mg)
    (c : He.SaysX p.fa p.fns p.ts p.tf p.ex w h K) (hmg : mg lw.name = some (.ref fa))
    (answer : ∀ ns : List Int, ns.length ≤ n → ∃ M, run p.pr fuel k [] (.fn gl) [.scr (ns.map .int)] [] = .ok (.p (.bool true)) M) : LawAtS l w K (L2.CX l.prog w) (k + 2) n x mg fa h := by
  classical
  have cd : He.SaysD p.fa p.fns K := c.t.d
  have fn_at : ∀ (g : Nat) (i : DI), p.dis[g]? = some i → ∃ fd, FunD K i.name i.name (defArgs (p.top i.ix)) (defBody (p.top i.ix)) (defScope (p.top i.ix)) [] [] (He.fAd K (i.name, none)) fd := fun g i e => by
    obtain ⟨fd, F⟩ := cd.def_ g (d := p.mkD i) (by unfold Prg.fns; rw [List.getElem?_append_left (by rw [List.length_map]; exact (List.getElem?_eq_some_iff.mp e).1), List.getElem?_map, e] <;> rfl)
    exact ⟨fd, F⟩
  obtain ⟨fd0, F0⟩ := fn_at gl lw hl
  have ch : ∀ g : Nat, ∃ fd : FuncData, ∀ i, p.dis[g]? = some i → FunD K i.name i.name (defArgs (p.top i.ix)) (defBody (p.top i.ix)) (defScope (p.top i.ix)) [] [] (He.fAd K (i.name, none)) fd := fun g => by
    cases e : p.dis[g]? with
    | none => exact ⟨fd0, fun i z => by cases z⟩
    | some i =>
      obtain ⟨fd, F⟩ := fn_at g i e
      exact ⟨fd, fun j z => by cases z; exact F⟩
  have glo_mem : ∀ i ∈ p.dis, mg i.name = some (.ref (He.ga K i.name)) := fun i hi => He.glo_ok KX G (cd.facts (f := .glo i.name) (List.mem_append_left _ (List.mem_map.mpr ⟨i, hi, rfl⟩)))
  have nameAt_eq : ∀ {g : Nat} {i : DI}, p.dis[g]? = some i → p.nameAt g = i.name := fun {g i} e => by
    unfold Prg.nameAt
    rw [e]
  have ini_at : ∀ (q : CI), q ∈ p.cls → q.ini ≠ none → ∃ fd, FunD K "__init__" (q.name ++ ".__init__") (defArgs (initSt (p.top q.ix))) (defBody (initSt (p.top q.ix))) (defScope (initSt (p.top q.ix))) [] [] (He.ma K (He.ga K q.name) "__init__") fd := fun q hq hi => by
    have hm : q ∈ p.cls.filter fun q => q.ini.isSome := List.mem_filter.mpr ⟨hq, by cases e : q.ini with
      | none => exact absurd e hi
      | some _ => rfl⟩
    obtain ⟨j, hj⟩ := List.getElem?_of_mem hm
    obtain ⟨fd, F⟩ := cd.def_ (p.dis.length + j) (d := p.mkI q) (by unfold Prg.fns; rw [List.getElem?_append_right (by rw [List.length_map]; omega), List.length_map, Nat.add_sub_cancel_left, List.getElem?_map, hj] <;> rfl)
    exact ⟨fd, F⟩
  have ch2 : ∀ g : Nat, ∃ fd : FuncData, ∀ q, p.cls[g]? = some q → q.ini ≠ none → FunD K "__init__" (q.name ++ ".__init__") (defArgs (initSt (p.top q.ix))) (defBody (initSt (p.top q.ix))) (defScope (initSt (p.top q.ix))) [] [] (He.ma K (He.ga K q.name) "__init__") fd := fun g => by
    cases e : p.cls[g]? with
    | none => exact ⟨fd0, fun i z => by cases z⟩
    | some q =>
      by_cases hi : q.ini = none
      · exact ⟨fd0, fun i z z2 => by cases z; exact absurd hi z2⟩
      · obtain ⟨fd, F⟩ := ini_at q (List.mem_of_getElem? e) hi
        exact ⟨fd, fun j z _ => by cases z; exact F⟩
  let Z : Zp := p.zp l.prog w K mg fuel (fun g => Classical.choose (ch g)) fun g => Classical.choose (ch2 g)
  have clsAt_eq : ∀ {g : Nat} {q : CI}, p.cls[g]? = some q → p.clsAt g = q.name := fun {g q} e => by
    unfold Prg.clsAt
    rw [e]
  have exK0 : decide ((p.tf.map fun q => (He.cT K q).2).Nodup) = true ∧ (p.clsB K && p.conB K) = true := and_e c.more
  have exK : decide ((p.tf.map fun q => (He.cT K q).2).Nodup) = true ∧ p.clsB K = true := ⟨exK0.1, (and_e exK0.2).1⟩
  have exC : p.conB K = true := (and_e exK0.2).2
  obtain ⟨exC, exW⟩ := and_e (show (_ && _) = true from exC)
  obtain ⟨ec1, ec2⟩ := and_e (show (_ && _) = true from exK.2)
  have ec1 := fun {q : CI} (hq : q ∈ p.cls) => List.all_eq_true.mp ec1 q hq
  have ec2 := fun {g : Nat} {q d : CI} (e : p.cls[g]? = some q) (hd : d ∈ p.cls) => and_e (List.all_eq_true.mp (List.all_eq_true.mp ec2 (q, g) (by rw [List.mk_mem_zipIdx_iff_getElem?]; exact e)) d hd)
  have Zcl : Zcl Z := by
    have lenI : ∀ {g : Nat}, g < Z.t.inis.length → ∃ q, p.cls[g]? = some q := fun {g} hg => by
      have hg : g < (p.cls.map (·.ini)).length := hg
      rw [List.length_map] at hg
      exact ⟨p.cls[g], List.getElem?_eq_getElem hg⟩
    have iniI : ∀ {g : Nat} {o : Option Str}, Z.t.inis[g]? = some o → ∃ q, p.cls[g]? = some q ∧ q.ini = o := fun {g o} e => by
      have e : (p.cls.map (·.ini))[g]? = some o := e
      rw [List.getElem?_map] at e
      exact map_some e
    refine ⟨fun y g e => ?_, fun g hg => ?_, fun g hg => ?_, fun g f hg => ?_, fun g d ids hd hg => ?_, fun g d ids hd hg => ?_⟩
    · obtain ⟨q, _, h2, h3⟩ := cls_at (n := 0) (show (clsFrom 0 p.cls).lookup y = some g from e)
      rw [Nat.sub_zero] at h2
      refine ⟨?_, ?_⟩
      · rw [← h3]
        show mg q.name = some (.ref (He.ga K (p.clsAt g)))
        rw [clsAt_eq h2]
        exact He.glo_ok KX G (cd.facts (f := .glo q.name) (List.mem_append_right _ (List.mem_append_right _ (List.mem_append_left _ (List.mem_append_right _ (List.mem_map.mpr ⟨q, List.mem_of_getElem? h2, rfl⟩))))))
      · show g < (p.cls.map (·.ini)).length
        rw [List.length_map]
        exact (List.getElem?_eq_some_iff.mp h2).1
    · obtain ⟨q, e1, e2⟩ := iniI hg
      obtain ⟨_, h2⟩ := and_e (ec1 (List.mem_of_getElem? e1))
      obtain ⟨_, h3⟩ := and_e h2
      rw [e2] at h3
      show PySem.W.excIn K (He.ga K (p.clsAt g)) _ _ = true
      rw [clsAt_eq e1]
      exact h3
    · obtain ⟨q, e1⟩ := lenI hg
      obtain ⟨h1, _⟩ := and_e (ec1 (List.mem_of_getElem? e1))
      obtain ⟨b1, b2⟩ := and_e (show (_ && _) = true from h1)
      obtain ⟨b2, b3⟩ := and_e b2
      show PySem.W.keepIn K (.ref (He.ga K (p.clsAt g))) = true ∧ PySem.W.subIn K (.ref (He.ga K (p.clsAt g))) _ = _ ∧ PySem.W.typeIn K (.ref (He.ga K (p.clsAt g))) = _
      rw [clsAt_eq e1]
      exact ⟨b1, dec_e b2, dec_e b3⟩
    · obtain ⟨q, e1, e2⟩ := iniI hg
      have hq := List.mem_of_getElem? e1
      have hne : q.ini ≠ none := by rw [e2]; exact fun z => by cases z
      obtain ⟨h1, h2⟩ := and_e (ec1 hq)
      obtain ⟨_, h3⟩ := and_e h2
      rw [e2] at h3
      obtain ⟨h3, h4⟩ := and_e (show (_ && _) = true from h3)
      obtain ⟨h4, h5⟩ := and_e h4
      obtain ⟨h5, h6⟩ := and_e h5
      have F := Classical.choose_spec (ch2 g) q e1 hne
      have fipE : Z.fip g = iniPs (initSt (p.top q.ix)) := by
        show p.iniAt g = _
        unfold Prg.iniAt
        rw [e1]
      have hB : p.iniB q = true := List.all_eq_true.mp hci q hq
      show OexC K (He.ga K (p.clsAt g)) ∧ PySem.W.findIn K (.ref (He.ga K (p.clsAt g))) f = some none ∧ PySem.W.findIn K (.ref (He.ga K (p.clsAt g))) "__init__" = some (some (.ref (He.ma K (He.ga K (p.clsAt g)) "__init__"))) ∧ PySem.W.typeIn K (.ref (He.ma K (He.ga K (p.clsAt g)) "__init__")) = some (.type "function") ∧ (∀ base, FnOk l.prog w K mg base (L2.CX l.prog w) 1 (He.ma K (He.ga K (p.clsAt g)) "__init__") (Classical.choose (ch2 g)) (Z.fip g) (sp1 K f)) ∧ Binds K (Classical.choose (ch2 g)) (Z.fip g) []
      rw [clsAt_eq e1, fipE]
      refine ⟨oex_of h3 h1, He.eqO_ok h4, He.eqO_ok h5, dec_e h6, fun base => ?_, F.bindsN (hbi q hq hne)⟩
      unfold Prg.iniB at hB
      rw [e2] at hB
      simp only at hB
      obtain ⟨oc, od, dV, kV, doc, pm, an, cdv, ct, osl, hfd, lk, hcd, _, _⟩ := F.ex
      split at hB
      · rename_i s p1 g' p2 m p3 p4 hbody
        obtain ⟨t1, hB⟩ := and_e hB
        obtain ⟨t2, hB⟩ := and_e hB
        obtain ⟨t3, hB⟩ := and_e hB
        obtain ⟨t4, hB⟩ := and_e hB
        obtain ⟨t5, t6⟩ := and_e hB
        have t1 := dec_e t1
        subst t1
        have o1 := okName_of t5
        have o2 := okName_of t6
        have hps : iniPs (initSt (p.top q.ix)) = [s, m] := by
          unfold iniPs
          rw [hbody]
        rw [hfd] at lk ⊢
        rw [hps]
        rw [hbody] at lk ⊢
        exact init1_ok lk hcd (fnsc_by t2) (dec_e t3) (dec_e t4) o1.1 o1.2 o2.1 o2.2
      · cases hB
    · obtain ⟨q, e1⟩ := lenI hg
      have hd : (p.cls.map (·.subs))[d]? = some (some ids) := hd
      rw [List.getElem?_map] at hd
      obtain ⟨r, e2, e3⟩ := map_some hd
      obtain ⟨h1, _⟩ := ec2 e1 (List.mem_of_getElem? e2)
      rw [e3] at h1
      show PySem.W.exmOne K (.ref (He.ga K (p.clsAt g))) (.ref (He.ga K (p.clsAt d))) = _
      rw [clsAt_eq e1, clsAt_eq e2]
      exact dec_e h1
    · obtain ⟨q, e1⟩ := lenI hg
      have hd : (p.cls.map (·.kit))[d]? = some (some ids) := hd
      rw [List.getElem?_map] at hd
      obtain ⟨r, e2, e3⟩ := map_some hd
      obtain ⟨_, h1⟩ := ec2 e1 (List.mem_of_getElem? e2)
      rw [e3] at h1
      obtain ⟨_, h2⟩ := and_e (ec1 (List.mem_of_getElem? e1))
      obtain ⟨h2, _⟩ := and_e h2
      have ha : (p.cls.any fun d => d.kit.isSome) = true := List.any_eq_true.mpr ⟨r, List.mem_of_getElem? e2, by rw [e3]; rfl⟩
      rw [ha] at h2
      show PySem.W.kitOne K (.ref (He.ga K (p.clsAt g))) (.ref (He.ga K (p.clsAt d))) = _ ∧ ExcC K (He.ga K (p.clsAt g))
      rw [clsAt_eq e1, clsAt_eq e2]
      exact ⟨dec_e h1, excC_of h2⟩
  have fdZ : ∀ {g : Nat} {i : DI}, p.dis[g]? = some i → FunD K i.name i.name (defArgs (p.top i.ix)) (defBody (p.top i.ix)) (defScope (p.top i.ix)) [] [] (Z.fn g) (Z.fd g) := fun {g i} e => by
    have := Classical.choose_spec (ch g) i e
    show FunD K _ _ _ _ _ _ _ (He.fAd K (p.nameAt g, none)) _
    rw [nameAt_eq e]
    exact this
  have psZ : ∀ {g : Nat} {i : DI}, p.dis[g]? = some i → Z.ps g = i.ps := fun {g i} e => by
    show p.psAt g = i.ps
    unfold Prg.psAt
    rw [e]
  have prZ : ∀ {g : Nat} {d : Df}, Z.pr[g]? = some d → ∃ i, p.dis[g]? = some i ∧ i.d = d := fun {g d} e => by
    have e : (p.dis.map (·.d))[g]? = some d := e
    rw [List.getElem?_map] at e
    exact map_some e
  have okZ : ∀ {g : Nat} {i : DI}, p.dis[g]? = some i → FnScope i.N i.ps (defScope (p.top i.ix)) ∧ chkSs (p.tc i) i.d.body (defBody (p.top i.ix)) = true ∧ i.d.nN = i.N.length ∧ i.d.ps = i.ps.length := fun {g i} e => by
    have h0 := List.all_eq_true.mp hok i (List.mem_of_getElem? e)
    obtain ⟨_, h0⟩ := and_e h0
    obtain ⟨h1, h2⟩ := and_e h0
    obtain ⟨h2, h3⟩ := and_e h2
    obtain ⟨h3, h4⟩ := and_e h3
    exact ⟨fnsc_by h1, h2, dec_e h3, dec_e h4⟩
  have bdZ : ∀ {g : Nat} {i : DI}, p.dis[g]? = some i → Binds K (Z.fd g) (Z.ps g) [] := fun {g i} e => by
    rw [psZ e]
    exact (fdZ e).bindsN (hbd i (List.mem_of_getElem? e))
  have Zk : Zok Z := by
    refine ⟨Zcl, rfl, fun y hy => ?_, fun y i e => ?_, fun y d e => ?_, fun y kvs e => ?_, fun y g e => ?_, fun g d e => ?_, fun a ha b hb e => ?_⟩
    · exact He.free_ok KX G (cd.facts (f := .free y) (List.mem_append_right _ (List.mem_append_left _ (List.mem_map.mpr ⟨y, hy, rfl⟩))))
    · have e : p.nums.lookup y = some i := e
      exact He.int_ok KX G (cd.facts (f := .int y i) (List.mem_append_right _ (List.mem_append_right _ (List.mem_append_left _ (List.mem_append_left _ (List.mem_map.mpr ⟨(y, i), PySem.mem_of_lookup e, rfl⟩))))))
    · have e : p.cons.lookup y = some d := e
      obtain ⟨u, h1, h2⟩ := relN_ok (List.all_eq_true.mp exC (y, d) (PySem.mem_of_lookup e))
      obtain ⟨v, h3, h4⟩ := relK_ok h2
      exact ⟨v, u, PySem.W.mg_of KX G h1, h3, h4⟩
    · have e : p.wds.lookup y = some kvs := e
      have hm := PySem.mem_of_lookup e
      obtain ⟨i, hi⟩ := List.getElem?_of_mem hm
      have ht : p.ts[i]? = some ((fun K => He.ga K y), kvs.map (·.1)) := by
        unfold Prg.ts
        rw [List.getElem?_map, hi]
        rfl
      obtain ⟨es, n, kd⟩ := c.t.tab i ht
      have hw := c.t.dic_at ht
      refine ⟨He.ga K y, es, n, He.glo_ok KX G (cd.facts (f := .glo y) (List.mem_append_right _ (List.mem_append_right _ (List.mem_append_right _ (List.mem_map.mpr ⟨(y, kvs), hm, rfl⟩))))), kd, fun x => ⟨fun d hd => ?_, fun hn => ?_⟩⟩
      · have h1 := List.all_eq_true.mp exW (y, kvs) hm
        obtain ⟨u, h2, h3⟩ := relN_ok (List.all_eq_true.mp h1 (x, d) (PySem.mem_of_lookup hd))
        obtain ⟨v, h4, h5⟩ := relK_ok h3
        exact ⟨v, u, h2, h4, h5⟩
      · refine ns_none_keys hw fun z => ?_
        obtain ⟨q, hq, rfl⟩ := List.mem_map.mp z
        exact lookup_not hn hq
    · obtain ⟨i, _, h2, h3⟩ := defs_at (n := 0) (show (defsFrom 0 p.dis).lookup y = some g from e)
      rw [Nat.sub_zero] at h2
      refine ⟨?_, (fdZ h2).kp, bdZ h2, ?_⟩
      · rw [← h3]
        show mg i.name = some (.ref (He.fAd K (p.nameAt g, none)))
        rw [nameAt_eq h2]
        exact glo_mem i (List.mem_of_getElem? h2)
      · obtain ⟨h0, _⟩ := and_e (List.all_eq_true.mp hok i (List.mem_of_getElem? h2))
        rw [← h3]
        simpa using h0
    · obtain ⟨i, e1, rfl⟩ := prZ e
      rw [(okZ e1).2.2.2, psZ e1]
    · obtain ⟨q, hq, rfl⟩ := List.mem_map.mp ha
      obtain ⟨r, hr, rfl⟩ := List.mem_map.mp hb
      have nd : (p.tf.map fun q => (He.cT K q).2).Nodup := of_decide_eq_true exK.1
      have : q = r := by
        exact nodup_inj nd hq hr e
      rw [this]
  have hd : ∀ g d, Z.pr[g]? = some d → DefOk Z g d := fun g d e => by
    obtain ⟨i, e1, rfl⟩ := prZ e
    obtain ⟨o1, o2, o3, o4⟩ := okZ e1
    refine ⟨i.name, i.name, _, _, _, p.tc i, fdZ e1, by rw [psZ e1]; exact o1, rfl, rfl, ⟨rfl, rfl, rfl, rfl, rfl, rfl, rfl, rfl, rfl⟩, o2, o3, by rw [psZ e1]; exact o4, fun hlm => ?_⟩
    have hmem : ((i.name, none) : He.Defn) ∈ p.tf := List.mem_map.mpr ⟨i, List.mem_filter.mpr ⟨List.mem_of_getElem? e1, hlm⟩, rfl⟩
    refine ⟨(i.name, none), ?_, List.mem_map.mpr ⟨_, hmem, rfl⟩, List.mem_map.mpr ⟨_, hmem, rfl⟩⟩
    show He.fAd K (p.nameAt g, none) = He.fAd K (i.name, none)
    rw [nameAt_eq e1]
  have hfa : Z.fn gl = fa := by
    have e1 := glo_mem lw (List.mem_of_getElem? hl)
    rw [hmg] at e1
    show He.fAd K (p.nameAt gl, none) = fa
    rw [nameAt_eq hl]
    cases e1
    rfl
  refine law_at (Z := Z) Zk hd rfl hfa (by rw [psZ hl]; exact hlp) (fun q hq => ?_) (fun q hq => ?_) (fun q hq => ?_) (fun s u => ?_) (fun q hq => ?_) ⟨lw.d, ?_⟩ answer
  · obtain ⟨r, hr, rfl⟩ := List.mem_map.mp hq
    exact c.empty r hr
  · obtain ⟨r, hr, rfl⟩ := List.mem_map.mp hq
    exact c.out r hr
  · obtain ⟨r, hr, rfl⟩ := List.mem_map.mp hq
    exact PySem.W.codeHd_of_K KX (c.hd r hr)
  · have := (fdZ hl).bindsA (ps := lw.ps) (hbd lw (List.mem_of_getElem? hl)) s [u] (by rw [hlp]; rfl)
    rw [hlp] at this
    exact this
  · obtain ⟨r, hr, rfl⟩ := List.mem_map.mp hq
    exact ⟨He.cT K r, List.mem_map.mpr ⟨r, hr, rfl⟩, rfl⟩
  · show (p.dis.map (·.d))[gl]? = some lw.d
    rw [List.getElem?_map, hl]
    rfl
end Ev

end

/-! ## Pg_k68 -/
section
set_option Elab.async false
set_option linter.all false
set_option maxRecDepth 100000
set_option maxHeartbeats 0
/-! The program's core, against the row. -/
namespace Pg
open PySem PySem.Spec PyProof.Rows L2 Ev

theorem all_ini : P.cls.all P.iniB = true := by kernel_rfl
theorem pr_eq : P.pr = prL := rfl
theorem all_ok : P.dis.all P.ok = true := by kernel_rfl

theorem bd_0 : P.Bd (dis.getD 0 ⟨Str.empty, 0, [], [], false, ⟨0, 0, false, []⟩⟩) := fun _ _ _ _ _ _ us hl => match us, hl with | [_], _ => rfl
theorem bd_1 : P.Bd (dis.getD 1 ⟨Str.empty, 0, [], [], false, ⟨0, 0, false, []⟩⟩) := fun _ _ _ _ _ _ us hl => match us, hl with | [_, _, _], _ => rfl
theorem bd_2 : P.Bd (dis.getD 2 ⟨Str.empty, 0, [], [], false, ⟨0, 0, false, []⟩⟩) := fun _ _ _ _ _ _ us hl => match us, hl with | [_], _ => rfl
theorem bd_3 : P.Bd (dis.getD 3 ⟨Str.empty, 0, [], [], false, ⟨0, 0, false, []⟩⟩) := fun _ _ _ _ _ _ us hl => match us, hl with | [_, _, _], _ => rfl
theorem bd_4 : P.Bd (dis.getD 4 ⟨Str.empty, 0, [], [], false, ⟨0, 0, false, []⟩⟩) := fun _ _ _ _ _ _ us hl => match us, hl with | [_, _], _ => rfl
theorem bd_5 : P.Bd (dis.getD 5 ⟨Str.empty, 0, [], [], false, ⟨0, 0, false, []⟩⟩) := fun _ _ _ _ _ _ us hl => match us, hl with | [_, _], _ => rfl
theorem bd_6 : P.Bd (dis.getD 6 ⟨Str.empty, 0, [], [], false, ⟨0, 0, false, []⟩⟩) := fun _ _ _ _ _ _ us hl => match us, hl with | [_, _], _ => rfl
theorem bd_7 : P.Bd (dis.getD 7 ⟨Str.empty, 0, [], [], false, ⟨0, 0, false, []⟩⟩) := fun _ _ _ _ _ _ us hl => match us, hl with | [_], _ => rfl
theorem bd_8 : P.Bd (dis.getD 8 ⟨Str.empty, 0, [], [], false, ⟨0, 0, false, []⟩⟩) := fun _ _ _ _ _ _ us hl => match us, hl with | [_], _ => rfl
theorem bd_9 : P.Bd (dis.getD 9 ⟨Str.empty, 0, [], [], false, ⟨0, 0, false, []⟩⟩) := fun _ _ _ _ _ _ us hl => match us, hl with | [_, _], _ => rfl
theorem bd_10 : P.Bd (dis.getD 10 ⟨Str.empty, 0, [], [], false, ⟨0, 0, false, []⟩⟩) := fun _ _ _ _ _ _ us hl => match us, hl with | [_], _ => rfl
theorem bd_11 : P.Bd (dis.getD 11 ⟨Str.empty, 0, [], [], false, ⟨0, 0, false, []⟩⟩) := fun _ _ _ _ _ _ us hl => match us, hl with | [_, _], _ => rfl
theorem bd_12 : P.Bd (dis.getD 12 ⟨Str.empty, 0, [], [], false, ⟨0, 0, false, []⟩⟩) := fun _ _ _ _ _ _ us hl => match us, hl with | [_, _], _ => rfl
theorem bd_13 : P.Bd (dis.getD 13 ⟨Str.empty, 0, [], [], false, ⟨0, 0, false, []⟩⟩) := fun _ _ _ _ _ _ us hl => match us, hl with | [_, _], _ => rfl
theorem bd_14 : P.Bd (dis.getD 14 ⟨Str.empty, 0, [], [], false, ⟨0, 0, false, []⟩⟩) := fun _ _ _ _ _ _ us hl => match us, hl with | [_, _, _, _], _ => rfl
theorem bd_15 : P.Bd (dis.getD 15 ⟨Str.empty, 0, [], [], false, ⟨0, 0, false, []⟩⟩) := fun _ _ _ _ _ _ us hl => match us, hl with | [_], _ => rfl
theorem bd_16 : P.Bd (dis.getD 16 ⟨Str.empty, 0, [], [], false, ⟨0, 0, false, []⟩⟩) := fun _ _ _ _ _ _ us hl => match us, hl with | [_, _, _, _], _ => rfl
theorem bd_17 : P.Bd (dis.getD 17 ⟨Str.empty, 0, [], [], false, ⟨0, 0, false, []⟩⟩) := fun _ _ _ _ _ _ us hl => match us, hl with | [_], _ => rfl
theorem bd_18 : P.Bd (dis.getD 18 ⟨Str.empty, 0, [], [], false, ⟨0, 0, false, []⟩⟩) := fun _ _ _ _ _ _ us hl => match us, hl with | [_], _ => rfl
theorem bd_19 : P.Bd (dis.getD 19 ⟨Str.empty, 0, [], [], false, ⟨0, 0, false, []⟩⟩) := fun _ _ _ _ _ _ us hl => match us, hl with | [_], _ => rfl
theorem bd_20 : P.Bd (dis.getD 20 ⟨Str.empty, 0, [], [], false, ⟨0, 0, false, []⟩⟩) := fun _ _ _ _ _ _ us hl => match us, hl with | [_, _], _ => rfl
theorem bd_21 : P.Bd (dis.getD 21 ⟨Str.empty, 0, [], [], false, ⟨0, 0, false, []⟩⟩) := fun _ _ _ _ _ _ us hl => match us, hl with | [_, _], _ => rfl
theorem bd_22 : P.Bd (dis.getD 22 ⟨Str.empty, 0, [], [], false, ⟨0, 0, false, []⟩⟩) := fun _ _ _ _ _ _ us hl => match us, hl with | [_, _], _ => rfl
theorem bd_23 : P.Bd (dis.getD 23 ⟨Str.empty, 0, [], [], false, ⟨0, 0, false, []⟩⟩) := fun _ _ _ _ _ _ us hl => match us, hl with | [_, _], _ => rfl
theorem bd_24 : P.Bd (dis.getD 24 ⟨Str.empty, 0, [], [], false, ⟨0, 0, false, []⟩⟩) := fun _ _ _ _ _ _ us hl => match us, hl with | [_, _], _ => rfl
theorem bd_25 : P.Bd (dis.getD 25 ⟨Str.empty, 0, [], [], false, ⟨0, 0, false, []⟩⟩) := fun _ _ _ _ _ _ us hl => match us, hl with | [_, _], _ => rfl
theorem bd_26 : P.Bd (dis.getD 26 ⟨Str.empty, 0, [], [], false, ⟨0, 0, false, []⟩⟩) := fun _ _ _ _ _ _ us hl => match us, hl with | [_, _], _ => rfl
theorem bd_27 : P.Bd (dis.getD 27 ⟨Str.empty, 0, [], [], false, ⟨0, 0, false, []⟩⟩) := fun _ _ _ _ _ _ us hl => match us, hl with | [_], _ => rfl
theorem bd_28 : P.Bd (dis.getD 28 ⟨Str.empty, 0, [], [], false, ⟨0, 0, false, []⟩⟩) := fun _ _ _ _ _ _ us hl => match us, hl with | [_, _], _ => rfl
theorem bd_29 : P.Bd (dis.getD 29 ⟨Str.empty, 0, [], [], false, ⟨0, 0, false, []⟩⟩) := fun _ _ _ _ _ _ us hl => match us, hl with | [_, _], _ => rfl
theorem bd_30 : P.Bd (dis.getD 30 ⟨Str.empty, 0, [], [], false, ⟨0, 0, false, []⟩⟩) := fun _ _ _ _ _ _ us hl => match us, hl with | [_, _], _ => rfl
theorem bd_31 : P.Bd (dis.getD 31 ⟨Str.empty, 0, [], [], false, ⟨0, 0, false, []⟩⟩) := fun _ _ _ _ _ _ us hl => match us, hl with | [_, _], _ => rfl
theorem bd_32 : P.Bd (dis.getD 32 ⟨Str.empty, 0, [], [], false, ⟨0, 0, false, []⟩⟩) := fun _ _ _ _ _ _ us hl => match us, hl with | [_, _], _ => rfl
theorem bd_33 : P.Bd (dis.getD 33 ⟨Str.empty, 0, [], [], false, ⟨0, 0, false, []⟩⟩) := fun _ _ _ _ _ _ us hl => match us, hl with | [_, _], _ => rfl
theorem bd_34 : P.Bd (dis.getD 34 ⟨Str.empty, 0, [], [], false, ⟨0, 0, false, []⟩⟩) := fun _ _ _ _ _ _ us hl => match us, hl with | [_, _], _ => rfl
theorem bd_35 : P.Bd (dis.getD 35 ⟨Str.empty, 0, [], [], false, ⟨0, 0, false, []⟩⟩) := fun _ _ _ _ _ _ us hl => match us, hl with | [_, _], _ => rfl
theorem bd_36 : P.Bd (dis.getD 36 ⟨Str.empty, 0, [], [], false, ⟨0, 0, false, []⟩⟩) := fun _ _ _ _ _ _ us hl => match us, hl with | [_, _], _ => rfl
theorem bd_37 : P.Bd (dis.getD 37 ⟨Str.empty, 0, [], [], false, ⟨0, 0, false, []⟩⟩) := fun _ _ _ _ _ _ us hl => match us, hl with | [_, _], _ => rfl
theorem bd_38 : P.Bd (dis.getD 38 ⟨Str.empty, 0, [], [], false, ⟨0, 0, false, []⟩⟩) := fun _ _ _ _ _ _ us hl => match us, hl with | [_], _ => rfl
theorem bd_39 : P.Bd (dis.getD 39 ⟨Str.empty, 0, [], [], false, ⟨0, 0, false, []⟩⟩) := fun _ _ _ _ _ _ us hl => match us, hl with | [_, _], _ => rfl
theorem bd_40 : P.Bd (dis.getD 40 ⟨Str.empty, 0, [], [], false, ⟨0, 0, false, []⟩⟩) := fun _ _ _ _ _ _ us hl => match us, hl with | [_], _ => rfl
theorem bd_41 : P.Bd (dis.getD 41 ⟨Str.empty, 0, [], [], false, ⟨0, 0, false, []⟩⟩) := fun _ _ _ _ _ _ us hl => match us, hl with | [_], _ => rfl
theorem bd_42 : P.Bd (dis.getD 42 ⟨Str.empty, 0, [], [], false, ⟨0, 0, false, []⟩⟩) := fun _ _ _ _ _ _ us hl => match us, hl with | [_, _], _ => rfl
theorem bd_43 : P.Bd (dis.getD 43 ⟨Str.empty, 0, [], [], false, ⟨0, 0, false, []⟩⟩) := fun _ _ _ _ _ _ us hl => match us, hl with | [_, _], _ => rfl
theorem bd_44 : P.Bd (dis.getD 44 ⟨Str.empty, 0, [], [], false, ⟨0, 0, false, []⟩⟩) := fun _ _ _ _ _ _ us hl => match us, hl with | [_, _, _], _ => rfl
theorem bd_45 : P.Bd (dis.getD 45 ⟨Str.empty, 0, [], [], false, ⟨0, 0, false, []⟩⟩) := fun _ _ _ _ _ _ us hl => match us, hl with | [_, _], _ => rfl
theorem bd_46 : P.Bd (dis.getD 46 ⟨Str.empty, 0, [], [], false, ⟨0, 0, false, []⟩⟩) := fun _ _ _ _ _ _ us hl => match us, hl with | [_, _], _ => rfl
theorem bd_47 : P.Bd (dis.getD 47 ⟨Str.empty, 0, [], [], false, ⟨0, 0, false, []⟩⟩) := fun _ _ _ _ _ _ us hl => match us, hl with | [_], _ => rfl
theorem bd_48 : P.Bd (dis.getD 48 ⟨Str.empty, 0, [], [], false, ⟨0, 0, false, []⟩⟩) := fun _ _ _ _ _ _ us hl => match us, hl with | [_, _, _], _ => rfl
theorem bd_49 : P.Bd (dis.getD 49 ⟨Str.empty, 0, [], [], false, ⟨0, 0, false, []⟩⟩) := fun _ _ _ _ _ _ us hl => match us, hl with | [_, _], _ => rfl
theorem bd_50 : P.Bd (dis.getD 50 ⟨Str.empty, 0, [], [], false, ⟨0, 0, false, []⟩⟩) := fun _ _ _ _ _ _ us hl => match us, hl with | [_, _], _ => rfl
theorem bd_51 : P.Bd (dis.getD 51 ⟨Str.empty, 0, [], [], false, ⟨0, 0, false, []⟩⟩) := fun _ _ _ _ _ _ us hl => match us, hl with | [_], _ => rfl
theorem bd_52 : P.Bd (dis.getD 52 ⟨Str.empty, 0, [], [], false, ⟨0, 0, false, []⟩⟩) := fun _ _ _ _ _ _ us hl => match us, hl with | [_, _], _ => rfl
theorem bd_53 : P.Bd (dis.getD 53 ⟨Str.empty, 0, [], [], false, ⟨0, 0, false, []⟩⟩) := fun _ _ _ _ _ _ us hl => match us, hl with | [_, _, _], _ => rfl
theorem bd_54 : P.Bd (dis.getD 54 ⟨Str.empty, 0, [], [], false, ⟨0, 0, false, []⟩⟩) := fun _ _ _ _ _ _ us hl => match us, hl with | [_, _, _], _ => rfl
theorem bd_55 : P.Bd (dis.getD 55 ⟨Str.empty, 0, [], [], false, ⟨0, 0, false, []⟩⟩) := fun _ _ _ _ _ _ us hl => match us, hl with | [_, _, _], _ => rfl
theorem bd_56 : P.Bd (dis.getD 56 ⟨Str.empty, 0, [], [], false, ⟨0, 0, false, []⟩⟩) := fun _ _ _ _ _ _ us hl => match us, hl with | [_, _, _], _ => rfl
theorem bd_57 : P.Bd (dis.getD 57 ⟨Str.empty, 0, [], [], false, ⟨0, 0, false, []⟩⟩) := fun _ _ _ _ _ _ us hl => match us, hl with | [_, _, _], _ => rfl
theorem bd_58 : P.Bd (dis.getD 58 ⟨Str.empty, 0, [], [], false, ⟨0, 0, false, []⟩⟩) := fun _ _ _ _ _ _ us hl => match us, hl with | [_, _, _], _ => rfl
theorem bd_59 : P.Bd (dis.getD 59 ⟨Str.empty, 0, [], [], false, ⟨0, 0, false, []⟩⟩) := fun _ _ _ _ _ _ us hl => match us, hl with | [_, _, _, _], _ => rfl
theorem bd_60 : P.Bd (dis.getD 60 ⟨Str.empty, 0, [], [], false, ⟨0, 0, false, []⟩⟩) := fun _ _ _ _ _ _ us hl => match us, hl with | [_], _ => rfl
theorem bd_61 : P.Bd (dis.getD 61 ⟨Str.empty, 0, [], [], false, ⟨0, 0, false, []⟩⟩) := fun _ _ _ _ _ _ us hl => match us, hl with | [_], _ => rfl
theorem bd_62 : P.Bd (dis.getD 62 ⟨Str.empty, 0, [], [], false, ⟨0, 0, false, []⟩⟩) := fun _ _ _ _ _ _ us hl => match us, hl with | [_], _ => rfl
theorem bd_63 : P.Bd (dis.getD 63 ⟨Str.empty, 0, [], [], false, ⟨0, 0, false, []⟩⟩) := fun _ _ _ _ _ _ us hl => match us, hl with | [_], _ => rfl
theorem bd_64 : P.Bd (dis.getD 64 ⟨Str.empty, 0, [], [], false, ⟨0, 0, false, []⟩⟩) := fun _ _ _ _ _ _ us hl => match us, hl with | [_], _ => rfl
theorem bd_65 : P.Bd (dis.getD 65 ⟨Str.empty, 0, [], [], false, ⟨0, 0, false, []⟩⟩) := fun _ _ _ _ _ _ us hl => match us, hl with | [_], _ => rfl
theorem bd_66 : P.Bd (dis.getD 66 ⟨Str.empty, 0, [], [], false, ⟨0, 0, false, []⟩⟩) := fun _ _ _ _ _ _ us hl => match us, hl with | [_], _ => rfl
theorem bd_67 : P.Bd (dis.getD 67 ⟨Str.empty, 0, [], [], false, ⟨0, 0, false, []⟩⟩) := fun _ _ _ _ _ _ us hl => match us, hl with | [_, _], _ => rfl
theorem bd_68 : P.Bd (dis.getD 68 ⟨Str.empty, 0, [], [], false, ⟨0, 0, false, []⟩⟩) := fun _ _ _ _ _ _ us hl => match us, hl with | [_, _, _], _ => rfl
theorem bd_69 : P.Bd (dis.getD 69 ⟨Str.empty, 0, [], [], false, ⟨0, 0, false, []⟩⟩) := fun _ _ _ _ _ _ us hl => match us, hl with | [_, _, _], _ => rfl
theorem bd_70 : P.Bd (dis.getD 70 ⟨Str.empty, 0, [], [], false, ⟨0, 0, false, []⟩⟩) := fun _ _ _ _ _ _ us hl => match us, hl with | [_, _], _ => rfl
theorem bd_71 : P.Bd (dis.getD 71 ⟨Str.empty, 0, [], [], false, ⟨0, 0, false, []⟩⟩) := fun _ _ _ _ _ _ us hl => match us, hl with | [_], _ => rfl
theorem bd_72 : P.Bd (dis.getD 72 ⟨Str.empty, 0, [], [], false, ⟨0, 0, false, []⟩⟩) := fun _ _ _ _ _ _ us hl => match us, hl with | [_], _ => rfl
theorem bd_73 : P.Bd (dis.getD 73 ⟨Str.empty, 0, [], [], false, ⟨0, 0, false, []⟩⟩) := fun _ _ _ _ _ _ us hl => match us, hl with | [_], _ => rfl
theorem bd_74 : P.Bd (dis.getD 74 ⟨Str.empty, 0, [], [], false, ⟨0, 0, false, []⟩⟩) := fun _ _ _ _ _ _ us hl => match us, hl with | [_], _ => rfl
theorem bd_75 : P.Bd (dis.getD 75 ⟨Str.empty, 0, [], [], false, ⟨0, 0, false, []⟩⟩) := fun _ _ _ _ _ _ us hl => match us, hl with | [_, _], _ => rfl
theorem bd_76 : P.Bd (dis.getD 76 ⟨Str.empty, 0, [], [], false, ⟨0, 0, false, []⟩⟩) := fun _ _ _ _ _ _ us hl => match us, hl with | [_, _], _ => rfl
theorem bd_77 : P.Bd (dis.getD 77 ⟨Str.empty, 0, [], [], false, ⟨0, 0, false, []⟩⟩) := fun _ _ _ _ _ _ us hl => match us, hl with | [_], _ => rfl
theorem bd_78 : P.Bd (dis.getD 78 ⟨Str.empty, 0, [], [], false, ⟨0, 0, false, []⟩⟩) := fun _ _ _ _ _ _ us hl => match us, hl with | [_, _], _ => rfl
theorem bd_79 : P.Bd (dis.getD 79 ⟨Str.empty, 0, [], [], false, ⟨0, 0, false, []⟩⟩) := fun _ _ _ _ _ _ us hl => match us, hl with | [_, _], _ => rfl
theorem bd_80 : P.Bd (dis.getD 80 ⟨Str.empty, 0, [], [], false, ⟨0, 0, false, []⟩⟩) := fun _ _ _ _ _ _ us hl => match us, hl with | [_, _], _ => rfl
theorem bd_81 : P.Bd (dis.getD 81 ⟨Str.empty, 0, [], [], false, ⟨0, 0, false, []⟩⟩) := fun _ _ _ _ _ _ us hl => match us, hl with | [_, _], _ => rfl
theorem bd_82 : P.Bd (dis.getD 82 ⟨Str.empty, 0, [], [], false, ⟨0, 0, false, []⟩⟩) := fun _ _ _ _ _ _ us hl => match us, hl with | [_], _ => rfl
theorem bd_83 : P.Bd (dis.getD 83 ⟨Str.empty, 0, [], [], false, ⟨0, 0, false, []⟩⟩) := fun _ _ _ _ _ _ us hl => match us, hl with | [_, _, _], _ => rfl
theorem bd_84 : P.Bd (dis.getD 84 ⟨Str.empty, 0, [], [], false, ⟨0, 0, false, []⟩⟩) := fun _ _ _ _ _ _ us hl => match us, hl with | [_, _], _ => rfl
theorem bd_85 : P.Bd (dis.getD 85 ⟨Str.empty, 0, [], [], false, ⟨0, 0, false, []⟩⟩) := fun _ _ _ _ _ _ us hl => match us, hl with | [_, _, _], _ => rfl
theorem bd_86 : P.Bd (dis.getD 86 ⟨Str.empty, 0, [], [], false, ⟨0, 0, false, []⟩⟩) := fun _ _ _ _ _ _ us hl => match us, hl with | [_, _, _], _ => rfl
theorem bd_87 : P.Bd (dis.getD 87 ⟨Str.empty, 0, [], [], false, ⟨0, 0, false, []⟩⟩) := fun _ _ _ _ _ _ us hl => match us, hl with | [_, _, _], _ => rfl
theorem bd_88 : P.Bd (dis.getD 88 ⟨Str.empty, 0, [], [], false, ⟨0, 0, false, []⟩⟩) := fun _ _ _ _ _ _ us hl => match us, hl with | [_, _, _, _], _ => rfl
theorem bd_89 : P.Bd (dis.getD 89 ⟨Str.empty, 0, [], [], false, ⟨0, 0, false, []⟩⟩) := fun _ _ _ _ _ _ us hl => match us, hl with | [_, _, _, _], _ => rfl
theorem bd_90 : P.Bd (dis.getD 90 ⟨Str.empty, 0, [], [], false, ⟨0, 0, false, []⟩⟩) := fun _ _ _ _ _ _ us hl => match us, hl with | [_, _], _ => rfl
theorem bd_91 : P.Bd (dis.getD 91 ⟨Str.empty, 0, [], [], false, ⟨0, 0, false, []⟩⟩) := fun _ _ _ _ _ _ us hl => match us, hl with | [_], _ => rfl
theorem all_bd : ∀ i ∈ P.dis, P.Bd i := List.forall_mem_cons.mpr ⟨bd_0, List.forall_mem_cons.mpr ⟨bd_1, List.forall_mem_cons.mpr ⟨bd_2, List.forall_mem_cons.mpr ⟨bd_3, List.forall_mem_cons.mpr ⟨bd_4, List.forall_mem_cons.mpr ⟨bd_5, List.forall_mem_cons.mpr ⟨bd_6, List.forall_mem_cons.mpr ⟨bd_7, List.forall_mem_cons.mpr ⟨bd_8, List.forall_mem_cons.mpr ⟨bd_9, List.forall_mem_cons.mpr ⟨bd_10, List.forall_mem_cons.mpr ⟨bd_11, List.forall_mem_cons.mpr ⟨bd_12, List.forall_mem_cons.mpr ⟨bd_13, List.forall_mem_cons.mpr ⟨bd_14, List.forall_mem_cons.mpr ⟨bd_15, List.forall_mem_cons.mpr ⟨bd_16, List.forall_mem_cons.mpr ⟨bd_17, List.forall_mem_cons.mpr ⟨bd_18, List.forall_mem_cons.mpr ⟨bd_19, List.forall_mem_cons.mpr ⟨bd_20, List.forall_mem_cons.mpr ⟨bd_21, List.forall_mem_cons.mpr ⟨bd_22, List.forall_mem_cons.mpr ⟨bd_23, List.forall_mem_cons.mpr ⟨bd_24, List.forall_mem_cons.mpr ⟨bd_25, List.forall_mem_cons.mpr ⟨bd_26, List.forall_mem_cons.mpr ⟨bd_27, List.forall_mem_cons.mpr ⟨bd_28, List.forall_mem_cons.mpr ⟨bd_29, List.forall_mem_cons.mpr ⟨bd_30, List.forall_mem_cons.mpr ⟨bd_31, List.forall_mem_cons.mpr ⟨bd_32, List.forall_mem_cons.mpr ⟨bd_33, List.forall_mem_cons.mpr ⟨bd_34, List.forall_mem_cons.mpr ⟨bd_35, List.forall_mem_cons.mpr ⟨bd_36, List.forall_mem_cons.mpr ⟨bd_37, List.forall_mem_cons.mpr ⟨bd_38, List.forall_mem_cons.mpr ⟨bd_39, List.forall_mem_cons.mpr ⟨bd_40, List.forall_mem_cons.mpr ⟨bd_41, List.forall_mem_cons.mpr ⟨bd_42, List.forall_mem_cons.mpr ⟨bd_43, List.forall_mem_cons.mpr ⟨bd_44, List.forall_mem_cons.mpr ⟨bd_45, List.forall_mem_cons.mpr ⟨bd_46, List.forall_mem_cons.mpr ⟨bd_47, List.forall_mem_cons.mpr ⟨bd_48, List.forall_mem_cons.mpr ⟨bd_49, List.forall_mem_cons.mpr ⟨bd_50, List.forall_mem_cons.mpr ⟨bd_51, List.forall_mem_cons.mpr ⟨bd_52, List.forall_mem_cons.mpr ⟨bd_53, List.forall_mem_cons.mpr ⟨bd_54, List.forall_mem_cons.mpr ⟨bd_55, List.forall_mem_cons.mpr ⟨bd_56, List.forall_mem_cons.mpr ⟨bd_57, List.forall_mem_cons.mpr ⟨bd_58, List.forall_mem_cons.mpr ⟨bd_59, List.forall_mem_cons.mpr ⟨bd_60, List.forall_mem_cons.mpr ⟨bd_61, List.forall_mem_cons.mpr ⟨bd_62, List.forall_mem_cons.mpr ⟨bd_63, List.forall_mem_cons.mpr ⟨bd_64, List.forall_mem_cons.mpr ⟨bd_65, List.forall_mem_cons.mpr ⟨bd_66, List.forall_mem_cons.mpr ⟨bd_67, List.forall_mem_cons.mpr ⟨bd_68, List.forall_mem_cons.mpr ⟨bd_69, List.forall_mem_cons.mpr ⟨bd_70, List.forall_mem_cons.mpr ⟨bd_71, List.forall_mem_cons.mpr ⟨bd_72, List.forall_mem_cons.mpr ⟨bd_73, List.forall_mem_cons.mpr ⟨bd_74, List.forall_mem_cons.mpr ⟨bd_75, List.forall_mem_cons.mpr ⟨bd_76, List.forall_mem_cons.mpr ⟨bd_77, List.forall_mem_cons.mpr ⟨bd_78, List.forall_mem_cons.mpr ⟨bd_79, List.forall_mem_cons.mpr ⟨bd_80, List.forall_mem_cons.mpr ⟨bd_81, List.forall_mem_cons.mpr ⟨bd_82, List.forall_mem_cons.mpr ⟨bd_83, List.forall_mem_cons.mpr ⟨bd_84, List.forall_mem_cons.mpr ⟨bd_85, List.forall_mem_cons.mpr ⟨bd_86, List.forall_mem_cons.mpr ⟨bd_87, List.forall_mem_cons.mpr ⟨bd_88, List.forall_mem_cons.mpr ⟨bd_89, List.forall_mem_cons.mpr ⟨bd_90, List.forall_mem_cons.mpr ⟨bd_91, fun _ h => by cases h⟩⟩⟩⟩⟩⟩⟩⟩⟩⟩⟩⟩⟩⟩⟩⟩⟩⟩⟩⟩⟩⟩⟩⟩⟩⟩⟩⟩⟩⟩⟩⟩⟩⟩⟩⟩⟩⟩⟩⟩⟩⟩⟩⟩⟩⟩⟩⟩⟩⟩⟩⟩⟩⟩⟩⟩⟩⟩⟩⟩⟩⟩⟩⟩⟩⟩⟩⟩⟩⟩⟩⟩⟩⟩⟩⟩⟩⟩⟩⟩⟩⟩⟩⟩⟩⟩⟩⟩⟩⟩⟩⟩
theorem all_bdi : ∀ q ∈ P.cls, P.BdI q := List.forall_mem_cons.mpr ⟨fun h => absurd rfl h, List.forall_mem_cons.mpr ⟨fun h => absurd rfl h, List.forall_mem_cons.mpr ⟨fun h => absurd rfl h, List.forall_mem_cons.mpr ⟨fun h => absurd rfl h, List.forall_mem_cons.mpr ⟨fun h => absurd rfl h, List.forall_mem_cons.mpr ⟨fun h => absurd rfl h, List.forall_mem_cons.mpr ⟨fun h => absurd rfl h, List.forall_mem_cons.mpr ⟨fun h => absurd rfl h, List.forall_mem_cons.mpr ⟨fun h => absurd rfl h, List.forall_mem_cons.mpr ⟨fun _ _ _ _ _ _ _ us hl => match us, hl with | [_, _], _ => rfl, fun _ h => by cases h⟩⟩⟩⟩⟩⟩⟩⟩⟩⟩
end Pg
end

/-! ## Ba -/
section
set_option Elab.async false
set_option linter.all false
set_option maxRecDepth 100000
set_option maxHeartbeats 1000000
/-! How a run is computed by simp. -/
namespace Pg
open PySem hiding run start
open Ev
variable {pr : Pr} {F : Nat}
theorem run_fn {k : Nat} {C : List Clo} {g : Nat} {ds : List D} {M : Mem} {d : Df} (h : pr[g]? = some d) (hl : ds.length = d.ps) : run pr F (k + 1) C (.fn g) ds M = finF M.length d.retRef (evSs (gOf pr F k C) d.body (start d.nN ds) M) := by
  unfold run
  simp only [h, hl, if_true]
  rfl
theorem run_clo {k : Nat} {C : List Clo} {n : Nat} {ds : List D} {M : Mem} {c : Clo} (h : C[n]? = some c) (hl : ds.length = c.ps) : run pr F (k + 1) C (.clo n) ds M = finE M.length (evE (gOf pr F k C) c.body (start c.nN (ds ++ c.caps)) M) := by
  unfold run
  simp only [h, hl, if_true]
  rfl
section
variable {g : G} {σ : Sg} {M : Mem} {a b c : CE} {es : List CE} {α β : Type}
@[simp] theorem call_eq {k : Nat} {C : List Clo} {f : Nat} {ds : List D} : (gOf pr F k C).call f ds M = run pr F k C (.fn f) ds M := Eq.trans rfl rfl
@[simp] theorem cl_eq {k : Nat} {C : List Clo} {f : Nat} {ds : List D} : (gOf pr F k C).cl f ds M = run pr F k C (.clo f) ds M := Eq.trans rfl rfl
@[simp] theorem lam_eq {k : Nat} {C : List Clo} {f : Nat} {ds : List D} {c : Clo} : (gOf pr F k C).lam f ds c M = run pr F k (C ++ [c]) (.fn f) (ds ++ [.clo C.length]) M := Eq.trans rfl rfl
@[simp] theorem fuel_eq {k : Nat} {C : List Clo} : (gOf pr F k C).fuel = F := Eq.trans rfl rfl
@[simp] theorem bind_ok {a : α} {k : α → Mem → R β} : (R.ok a M).bind k = k a M := Eq.trans rfl rfl
@[simp] theorem tst_ok {b : Bool} {k : Bool → Mem → R α} : (R.ok (D.p (.bool b)) M).tst k = k b M := Eq.trans rfl rfl
@[simp] theorem opt_some {a : α} : R.opt M (some a) = .ok a M := Eq.trans rfl rfl
@[simp] theorem start_eq {n : Nat} {ds : List D} : start n ds = ds.map some ++ List.replicate (n - ds.length) none := Eq.trans rfl rfl
@[simp] theorem ev_0 {d : D} {r : Sg} : evE g (.var 0) (some d :: r) M = .ok d M := Eq.trans rfl rfl
@[simp] theorem st_0 {x y : Option D} {r : Sg} : List.set (y :: r) 0 x = x :: r := Eq.trans rfl rfl
@[simp] theorem ev_1 {d : D} {h0 : Option D} {r : Sg} : evE g (.var 1) (h0 :: some d :: r) M = .ok d M := Eq.trans rfl rfl
@[simp] theorem st_1 {x y : Option D} {h0 : Option D} {r : Sg} : List.set (h0 :: y :: r) 1 x = h0 :: x :: r := Eq.trans rfl rfl
@[simp] theorem ev_2 {d : D} {h0 h1 : Option D} {r : Sg} : evE g (.var 2) (h0 :: h1 :: some d :: r) M = .ok d M := Eq.trans rfl rfl
@[simp] theorem st_2 {x y : Option D} {h0 h1 : Option D} {r : Sg} : List.set (h0 :: h1 :: y :: r) 2 x = h0 :: h1 :: x :: r := Eq.trans rfl rfl
@[simp] theorem ev_3 {d : D} {h0 h1 h2 : Option D} {r : Sg} : evE g (.var 3) (h0 :: h1 :: h2 :: some d :: r) M = .ok d M := Eq.trans rfl rfl
@[simp] theorem st_3 {x y : Option D} {h0 h1 h2 : Option D} {r : Sg} : List.set (h0 :: h1 :: h2 :: y :: r) 3 x = h0 :: h1 :: h2 :: x :: r := Eq.trans rfl rfl
@[simp] theorem ev_4 {d : D} {h0 h1 h2 h3 : Option D} {r : Sg} : evE g (.var 4) (h0 :: h1 :: h2 :: h3 :: some d :: r) M = .ok d M := Eq.trans rfl rfl
@[simp] theorem st_4 {x y : Option D} {h0 h1 h2 h3 : Option D} {r : Sg} : List.set (h0 :: h1 :: h2 :: h3 :: y :: r) 4 x = h0 :: h1 :: h2 :: h3 :: x :: r := Eq.trans rfl rfl
@[simp] theorem ev_5 {d : D} {h0 h1 h2 h3 h4 : Option D} {r : Sg} : evE g (.var 5) (h0 :: h1 :: h2 :: h3 :: h4 :: some d :: r) M = .ok d M := Eq.trans rfl rfl
@[simp] theorem st_5 {x y : Option D} {h0 h1 h2 h3 h4 : Option D} {r : Sg} : List.set (h0 :: h1 :: h2 :: h3 :: h4 :: y :: r) 5 x = h0 :: h1 :: h2 :: h3 :: h4 :: x :: r := Eq.trans rfl rfl
@[simp] theorem ev_6 {d : D} {h0 h1 h2 h3 h4 h5 : Option D} {r : Sg} : evE g (.var 6) (h0 :: h1 :: h2 :: h3 :: h4 :: h5 :: some d :: r) M = .ok d M := Eq.trans rfl rfl
@[simp] theorem st_6 {x y : Option D} {h0 h1 h2 h3 h4 h5 : Option D} {r : Sg} : List.set (h0 :: h1 :: h2 :: h3 :: h4 :: h5 :: y :: r) 6 x = h0 :: h1 :: h2 :: h3 :: h4 :: h5 :: x :: r := Eq.trans rfl rfl
@[simp] theorem ev_7 {d : D} {h0 h1 h2 h3 h4 h5 h6 : Option D} {r : Sg} : evE g (.var 7) (h0 :: h1 :: h2 :: h3 :: h4 :: h5 :: h6 :: some d :: r) M = .ok d M := Eq.trans rfl rfl
@[simp] theorem st_7 {x y : Option D} {h0 h1 h2 h3 h4 h5 h6 : Option D} {r : Sg} : List.set (h0 :: h1 :: h2 :: h3 :: h4 :: h5 :: h6 :: y :: r) 7 x = h0 :: h1 :: h2 :: h3 :: h4 :: h5 :: h6 :: x :: r := Eq.trans rfl rfl
@[simp] theorem ev_8 {d : D} {h0 h1 h2 h3 h4 h5 h6 h7 : Option D} {r : Sg} : evE g (.var 8) (h0 :: h1 :: h2 :: h3 :: h4 :: h5 :: h6 :: h7 :: some d :: r) M = .ok d M := Eq.trans rfl rfl
@[simp] theorem st_8 {x y : Option D} {h0 h1 h2 h3 h4 h5 h6 h7 : Option D} {r : Sg} : List.set (h0 :: h1 :: h2 :: h3 :: h4 :: h5 :: h6 :: h7 :: y :: r) 8 x = h0 :: h1 :: h2 :: h3 :: h4 :: h5 :: h6 :: h7 :: x :: r := Eq.trans rfl rfl
@[simp] theorem ev_9 {d : D} {h0 h1 h2 h3 h4 h5 h6 h7 h8 : Option D} {r : Sg} : evE g (.var 9) (h0 :: h1 :: h2 :: h3 :: h4 :: h5 :: h6 :: h7 :: h8 :: some d :: r) M = .ok d M := Eq.trans rfl rfl
@[simp] theorem st_9 {x y : Option D} {h0 h1 h2 h3 h4 h5 h6 h7 h8 : Option D} {r : Sg} : List.set (h0 :: h1 :: h2 :: h3 :: h4 :: h5 :: h6 :: h7 :: h8 :: y :: r) 9 x = h0 :: h1 :: h2 :: h3 :: h4 :: h5 :: h6 :: h7 :: h8 :: x :: r := Eq.trans rfl rfl
@[simp] theorem ev_10 {d : D} {h0 h1 h2 h3 h4 h5 h6 h7 h8 h9 : Option D} {r : Sg} : evE g (.var 10) (h0 :: h1 :: h2 :: h3 :: h4 :: h5 :: h6 :: h7 :: h8 :: h9 :: some d :: r) M = .ok d M := Eq.trans rfl rfl
@[simp] theorem st_10 {x y : Option D} {h0 h1 h2 h3 h4 h5 h6 h7 h8 h9 : Option D} {r : Sg} : List.set (h0 :: h1 :: h2 :: h3 :: h4 :: h5 :: h6 :: h7 :: h8 :: h9 :: y :: r) 10 x = h0 :: h1 :: h2 :: h3 :: h4 :: h5 :: h6 :: h7 :: h8 :: h9 :: x :: r := Eq.trans rfl rfl
@[simp] theorem ev_11 {d : D} {h0 h1 h2 h3 h4 h5 h6 h7 h8 h9 h10 : Option D} {r : Sg} : evE g (.var 11) (h0 :: h1 :: h2 :: h3 :: h4 :: h5 :: h6 :: h7 :: h8 :: h9 :: h10 :: some d :: r) M = .ok d M := Eq.trans rfl rfl
@[simp] theorem st_11 {x y : Option D} {h0 h1 h2 h3 h4 h5 h6 h7 h8 h9 h10 : Option D} {r : Sg} : List.set (h0 :: h1 :: h2 :: h3 :: h4 :: h5 :: h6 :: h7 :: h8 :: h9 :: h10 :: y :: r) 11 x = h0 :: h1 :: h2 :: h3 :: h4 :: h5 :: h6 :: h7 :: h8 :: h9 :: h10 :: x :: r := Eq.trans rfl rfl
@[simp] theorem ev_12 {d : D} {h0 h1 h2 h3 h4 h5 h6 h7 h8 h9 h10 h11 : Option D} {r : Sg} : evE g (.var 12) (h0 :: h1 :: h2 :: h3 :: h4 :: h5 :: h6 :: h7 :: h8 :: h9 :: h10 :: h11 :: some d :: r) M = .ok d M := Eq.trans rfl rfl
@[simp] theorem st_12 {x y : Option D} {h0 h1 h2 h3 h4 h5 h6 h7 h8 h9 h10 h11 : Option D} {r : Sg} : List.set (h0 :: h1 :: h2 :: h3 :: h4 :: h5 :: h6 :: h7 :: h8 :: h9 :: h10 :: h11 :: y :: r) 12 x = h0 :: h1 :: h2 :: h3 :: h4 :: h5 :: h6 :: h7 :: h8 :: h9 :: h10 :: h11 :: x :: r := Eq.trans rfl rfl
@[simp] theorem ev_13 {d : D} {h0 h1 h2 h3 h4 h5 h6 h7 h8 h9 h10 h11 h12 : Option D} {r : Sg} : evE g (.var 13) (h0 :: h1 :: h2 :: h3 :: h4 :: h5 :: h6 :: h7 :: h8 :: h9 :: h10 :: h11 :: h12 :: some d :: r) M = .ok d M := Eq.trans rfl rfl
@[simp] theorem st_13 {x y : Option D} {h0 h1 h2 h3 h4 h5 h6 h7 h8 h9 h10 h11 h12 : Option D} {r : Sg} : List.set (h0 :: h1 :: h2 :: h3 :: h4 :: h5 :: h6 :: h7 :: h8 :: h9 :: h10 :: h11 :: h12 :: y :: r) 13 x = h0 :: h1 :: h2 :: h3 :: h4 :: h5 :: h6 :: h7 :: h8 :: h9 :: h10 :: h11 :: h12 :: x :: r := Eq.trans rfl rfl
@[simp] theorem ev_14 {d : D} {h0 h1 h2 h3 h4 h5 h6 h7 h8 h9 h10 h11 h12 h13 : Option D} {r : Sg} : evE g (.var 14) (h0 :: h1 :: h2 :: h3 :: h4 :: h5 :: h6 :: h7 :: h8 :: h9 :: h10 :: h11 :: h12 :: h13 :: some d :: r) M = .ok d M := Eq.trans rfl rfl
@[simp] theorem st_14 {x y : Option D} {h0 h1 h2 h3 h4 h5 h6 h7 h8 h9 h10 h11 h12 h13 : Option D} {r : Sg} : List.set (h0 :: h1 :: h2 :: h3 :: h4 :: h5 :: h6 :: h7 :: h8 :: h9 :: h10 :: h11 :: h12 :: h13 :: y :: r) 14 x = h0 :: h1 :: h2 :: h3 :: h4 :: h5 :: h6 :: h7 :: h8 :: h9 :: h10 :: h11 :: h12 :: h13 :: x :: r := Eq.trans rfl rfl
@[simp] theorem ev_15 {d : D} {h0 h1 h2 h3 h4 h5 h6 h7 h8 h9 h10 h11 h12 h13 h14 : Option D} {r : Sg} : evE g (.var 15) (h0 :: h1 :: h2 :: h3 :: h4 :: h5 :: h6 :: h7 :: h8 :: h9 :: h10 :: h11 :: h12 :: h13 :: h14 :: some d :: r) M = .ok d M := Eq.trans rfl rfl
@[simp] theorem st_15 {x y : Option D} {h0 h1 h2 h3 h4 h5 h6 h7 h8 h9 h10 h11 h12 h13 h14 : Option D} {r : Sg} : List.set (h0 :: h1 :: h2 :: h3 :: h4 :: h5 :: h6 :: h7 :: h8 :: h9 :: h10 :: h11 :: h12 :: h13 :: h14 :: y :: r) 15 x = h0 :: h1 :: h2 :: h3 :: h4 :: h5 :: h6 :: h7 :: h8 :: h9 :: h10 :: h11 :: h12 :: h13 :: h14 :: x :: r := Eq.trans rfl rfl
@[simp] theorem ev_16 {d : D} {h0 h1 h2 h3 h4 h5 h6 h7 h8 h9 h10 h11 h12 h13 h14 h15 : Option D} {r : Sg} : evE g (.var 16) (h0 :: h1 :: h2 :: h3 :: h4 :: h5 :: h6 :: h7 :: h8 :: h9 :: h10 :: h11 :: h12 :: h13 :: h14 :: h15 :: some d :: r) M = .ok d M := Eq.trans rfl rfl
@[simp] theorem st_16 {x y : Option D} {h0 h1 h2 h3 h4 h5 h6 h7 h8 h9 h10 h11 h12 h13 h14 h15 : Option D} {r : Sg} : List.set (h0 :: h1 :: h2 :: h3 :: h4 :: h5 :: h6 :: h7 :: h8 :: h9 :: h10 :: h11 :: h12 :: h13 :: h14 :: h15 :: y :: r) 16 x = h0 :: h1 :: h2 :: h3 :: h4 :: h5 :: h6 :: h7 :: h8 :: h9 :: h10 :: h11 :: h12 :: h13 :: h14 :: h15 :: x :: r := Eq.trans rfl rfl
@[simp] theorem ev_17 {d : D} {h0 h1 h2 h3 h4 h5 h6 h7 h8 h9 h10 h11 h12 h13 h14 h15 h16 : Option D} {r : Sg} : evE g (.var 17) (h0 :: h1 :: h2 :: h3 :: h4 :: h5 :: h6 :: h7 :: h8 :: h9 :: h10 :: h11 :: h12 :: h13 :: h14 :: h15 :: h16 :: some d :: r) M = .ok d M := Eq.trans rfl rfl
@[simp] theorem st_17 {x y : Option D} {h0 h1 h2 h3 h4 h5 h6 h7 h8 h9 h10 h11 h12 h13 h14 h15 h16 : Option D} {r : Sg} : List.set (h0 :: h1 :: h2 :: h3 :: h4 :: h5 :: h6 :: h7 :: h8 :: h9 :: h10 :: h11 :: h12 :: h13 :: h14 :: h15 :: h16 :: y :: r) 17 x = h0 :: h1 :: h2 :: h3 :: h4 :: h5 :: h6 :: h7 :: h8 :: h9 :: h10 :: h11 :: h12 :: h13 :: h14 :: h15 :: h16 :: x :: r := Eq.trans rfl rfl
@[simp] theorem ev_18 {d : D} {h0 h1 h2 h3 h4 h5 h6 h7 h8 h9 h10 h11 h12 h13 h14 h15 h16 h17 : Option D} {r : Sg} : evE g (.var 18) (h0 :: h1 :: h2 :: h3 :: h4 :: h5 :: h6 :: h7 :: h8 :: h9 :: h10 :: h11 :: h12 :: h13 :: h14 :: h15 :: h16 :: h17 :: some d :: r) M = .ok d M := Eq.trans rfl rfl
@[simp] theorem st_18 {x y : Option D} {h0 h1 h2 h3 h4 h5 h6 h7 h8 h9 h10 h11 h12 h13 h14 h15 h16 h17 : Option D} {r : Sg} : List.set (h0 :: h1 :: h2 :: h3 :: h4 :: h5 :: h6 :: h7 :: h8 :: h9 :: h10 :: h11 :: h12 :: h13 :: h14 :: h15 :: h16 :: h17 :: y :: r) 18 x = h0 :: h1 :: h2 :: h3 :: h4 :: h5 :: h6 :: h7 :: h8 :: h9 :: h10 :: h11 :: h12 :: h13 :: h14 :: h15 :: h16 :: h17 :: x :: r := Eq.trans rfl rfl
@[simp] theorem ev_19 {d : D} {h0 h1 h2 h3 h4 h5 h6 h7 h8 h9 h10 h11 h12 h13 h14 h15 h16 h17 h18 : Option D} {r : Sg} : evE g (.var 19) (h0 :: h1 :: h2 :: h3 :: h4 :: h5 :: h6 :: h7 :: h8 :: h9 :: h10 :: h11 :: h12 :: h13 :: h14 :: h15 :: h16 :: h17 :: h18 :: some d :: r) M = .ok d M := Eq.trans rfl rfl
@[simp] theorem st_19 {x y : Option D} {h0 h1 h2 h3 h4 h5 h6 h7 h8 h9 h10 h11 h12 h13 h14 h15 h16 h17 h18 : Option D} {r : Sg} : List.set (h0 :: h1 :: h2 :: h3 :: h4 :: h5 :: h6 :: h7 :: h8 :: h9 :: h10 :: h11 :: h12 :: h13 :: h14 :: h15 :: h16 :: h17 :: h18 :: y :: r) 19 x = h0 :: h1 :: h2 :: h3 :: h4 :: h5 :: h6 :: h7 :: h8 :: h9 :: h10 :: h11 :: h12 :: h13 :: h14 :: h15 :: h16 :: h17 :: h18 :: x :: r := Eq.trans rfl rfl
@[simp] theorem ev_20 {d : D} {h0 h1 h2 h3 h4 h5 h6 h7 h8 h9 h10 h11 h12 h13 h14 h15 h16 h17 h18 h19 : Option D} {r : Sg} : evE g (.var 20) (h0 :: h1 :: h2 :: h3 :: h4 :: h5 :: h6 :: h7 :: h8 :: h9 :: h10 :: h11 :: h12 :: h13 :: h14 :: h15 :: h16 :: h17 :: h18 :: h19 :: some d :: r) M = .ok d M := Eq.trans rfl rfl
@[simp] theorem st_20 {x y : Option D} {h0 h1 h2 h3 h4 h5 h6 h7 h8 h9 h10 h11 h12 h13 h14 h15 h16 h17 h18 h19 : Option D} {r : Sg} : List.set (h0 :: h1 :: h2 :: h3 :: h4 :: h5 :: h6 :: h7 :: h8 :: h9 :: h10 :: h11 :: h12 :: h13 :: h14 :: h15 :: h16 :: h17 :: h18 :: h19 :: y :: r) 20 x = h0 :: h1 :: h2 :: h3 :: h4 :: h5 :: h6 :: h7 :: h8 :: h9 :: h10 :: h11 :: h12 :: h13 :: h14 :: h15 :: h16 :: h17 :: h18 :: h19 :: x :: r := Eq.trans rfl rfl
@[simp] theorem ev_21 {d : D} {h0 h1 h2 h3 h4 h5 h6 h7 h8 h9 h10 h11 h12 h13 h14 h15 h16 h17 h18 h19 h20 : Option D} {r : Sg} : evE g (.var 21) (h0 :: h1 :: h2 :: h3 :: h4 :: h5 :: h6 :: h7 :: h8 :: h9 :: h10 :: h11 :: h12 :: h13 :: h14 :: h15 :: h16 :: h17 :: h18 :: h19 :: h20 :: some d :: r) M = .ok d M := Eq.trans rfl rfl
@[simp] theorem st_21 {x y : Option D} {h0 h1 h2 h3 h4 h5 h6 h7 h8 h9 h10 h11 h12 h13 h14 h15 h16 h17 h18 h19 h20 : Option D} {r : Sg} : List.set (h0 :: h1 :: h2 :: h3 :: h4 :: h5 :: h6 :: h7 :: h8 :: h9 :: h10 :: h11 :: h12 :: h13 :: h14 :: h15 :: h16 :: h17 :: h18 :: h19 :: h20 :: y :: r) 21 x = h0 :: h1 :: h2 :: h3 :: h4 :: h5 :: h6 :: h7 :: h8 :: h9 :: h10 :: h11 :: h12 :: h13 :: h14 :: h15 :: h16 :: h17 :: h18 :: h19 :: h20 :: x :: r := Eq.trans rfl rfl
@[simp] theorem ev_22 {d : D} {h0 h1 h2 h3 h4 h5 h6 h7 h8 h9 h10 h11 h12 h13 h14 h15 h16 h17 h18 h19 h20 h21 : Option D} {r : Sg} : evE g (.var 22) (h0 :: h1 :: h2 :: h3 :: h4 :: h5 :: h6 :: h7 :: h8 :: h9 :: h10 :: h11 :: h12 :: h13 :: h14 :: h15 :: h16 :: h17 :: h18 :: h19 :: h20 :: h21 :: some d :: r) M = .ok d M := Eq.trans rfl rfl
@[simp] theorem st_22 {x y : Option D} {h0 h1 h2 h3 h4 h5 h6 h7 h8 h9 h10 h11 h12 h13 h14 h15 h16 h17 h18 h19 h20 h21 : Option D} {r : Sg} : List.set (h0 :: h1 :: h2 :: h3 :: h4 :: h5 :: h6 :: h7 :: h8 :: h9 :: h10 :: h11 :: h12 :: h13 :: h14 :: h15 :: h16 :: h17 :: h18 :: h19 :: h20 :: h21 :: y :: r) 22 x = h0 :: h1 :: h2 :: h3 :: h4 :: h5 :: h6 :: h7 :: h8 :: h9 :: h10 :: h11 :: h12 :: h13 :: h14 :: h15 :: h16 :: h17 :: h18 :: h19 :: h20 :: h21 :: x :: r := Eq.trans rfl rfl
@[simp] theorem ev_23 {d : D} {h0 h1 h2 h3 h4 h5 h6 h7 h8 h9 h10 h11 h12 h13 h14 h15 h16 h17 h18 h19 h20 h21 h22 : Option D} {r : Sg} : evE g (.var 23) (h0 :: h1 :: h2 :: h3 :: h4 :: h5 :: h6 :: h7 :: h8 :: h9 :: h10 :: h11 :: h12 :: h13 :: h14 :: h15 :: h16 :: h17 :: h18 :: h19 :: h20 :: h21 :: h22 :: some d :: r) M = .ok d M := Eq.trans rfl rfl
@[simp] theorem st_23 {x y : Option D} {h0 h1 h2 h3 h4 h5 h6 h7 h8 h9 h10 h11 h12 h13 h14 h15 h16 h17 h18 h19 h20 h21 h22 : Option D} {r : Sg} : List.set (h0 :: h1 :: h2 :: h3 :: h4 :: h5 :: h6 :: h7 :: h8 :: h9 :: h10 :: h11 :: h12 :: h13 :: h14 :: h15 :: h16 :: h17 :: h18 :: h19 :: h20 :: h21 :: h22 :: y :: r) 23 x = h0 :: h1 :: h2 :: h3 :: h4 :: h5 :: h6 :: h7 :: h8 :: h9 :: h10 :: h11 :: h12 :: h13 :: h14 :: h15 :: h16 :: h17 :: h18 :: h19 :: h20 :: h21 :: h22 :: x :: r := Eq.trans rfl rfl
@[simp] theorem ev_24 {d : D} {h0 h1 h2 h3 h4 h5 h6 h7 h8 h9 h10 h11 h12 h13 h14 h15 h16 h17 h18 h19 h20 h21 h22 h23 : Option D} {r : Sg} : evE g (.var 24) (h0 :: h1 :: h2 :: h3 :: h4 :: h5 :: h6 :: h7 :: h8 :: h9 :: h10 :: h11 :: h12 :: h13 :: h14 :: h15 :: h16 :: h17 :: h18 :: h19 :: h20 :: h21 :: h22 :: h23 :: some d :: r) M = .ok d M := Eq.trans rfl rfl
@[simp] theorem st_24 {x y : Option D} {h0 h1 h2 h3 h4 h5 h6 h7 h8 h9 h10 h11 h12 h13 h14 h15 h16 h17 h18 h19 h20 h21 h22 h23 : Option D} {r : Sg} : List.set (h0 :: h1 :: h2 :: h3 :: h4 :: h5 :: h6 :: h7 :: h8 :: h9 :: h10 :: h11 :: h12 :: h13 :: h14 :: h15 :: h16 :: h17 :: h18 :: h19 :: h20 :: h21 :: h22 :: h23 :: y :: r) 24 x = h0 :: h1 :: h2 :: h3 :: h4 :: h5 :: h6 :: h7 :: h8 :: h9 :: h10 :: h11 :: h12 :: h13 :: h14 :: h15 :: h16 :: h17 :: h18 :: h19 :: h20 :: h21 :: h22 :: h23 :: x :: r := Eq.trans rfl rfl
@[simp] theorem ev_25 {d : D} {h0 h1 h2 h3 h4 h5 h6 h7 h8 h9 h10 h11 h12 h13 h14 h15 h16 h17 h18 h19 h20 h21 h22 h23 h24 : Option D} {r : Sg} : evE g (.var 25) (h0 :: h1 :: h2 :: h3 :: h4 :: h5 :: h6 :: h7 :: h8 :: h9 :: h10 :: h11 :: h12 :: h13 :: h14 :: h15 :: h16 :: h17 :: h18 :: h19 :: h20 :: h21 :: h22 :: h23 :: h24 :: some d :: r) M = .ok d M := Eq.trans rfl rfl
@[simp] theorem st_25 {x y : Option D} {h0 h1 h2 h3 h4 h5 h6 h7 h8 h9 h10 h11 h12 h13 h14 h15 h16 h17 h18 h19 h20 h21 h22 h23 h24 : Option D} {r : Sg} : List.set (h0 :: h1 :: h2 :: h3 :: h4 :: h5 :: h6 :: h7 :: h8 :: h9 :: h10 :: h11 :: h12 :: h13 :: h14 :: h15 :: h16 :: h17 :: h18 :: h19 :: h20 :: h21 :: h22 :: h23 :: h24 :: y :: r) 25 x = h0 :: h1 :: h2 :: h3 :: h4 :: h5 :: h6 :: h7 :: h8 :: h9 :: h10 :: h11 :: h12 :: h13 :: h14 :: h15 :: h16 :: h17 :: h18 :: h19 :: h20 :: h21 :: h22 :: h23 :: h24 :: x :: r := Eq.trans rfl rfl
@[simp] theorem ev_26 {d : D} {h0 h1 h2 h3 h4 h5 h6 h7 h8 h9 h10 h11 h12 h13 h14 h15 h16 h17 h18 h19 h20 h21 h22 h23 h24 h25 : Option D} {r : Sg} : evE g (.var 26) (h0 :: h1 :: h2 :: h3 :: h4 :: h5 :: h6 :: h7 :: h8 :: h9 :: h10 :: h11 :: h12 :: h13 :: h14 :: h15 :: h16 :: h17 :: h18 :: h19 :: h20 :: h21 :: h22 :: h23 :: h24 :: h25 :: some d :: r) M = .ok d M := Eq.trans rfl rfl
@[simp] theorem st_26 {x y : Option D} {h0 h1 h2 h3 h4 h5 h6 h7 h8 h9 h10 h11 h12 h13 h14 h15 h16 h17 h18 h19 h20 h21 h22 h23 h24 h25 : Option D} {r : Sg} : List.set (h0 :: h1 :: h2 :: h3 :: h4 :: h5 :: h6 :: h7 :: h8 :: h9 :: h10 :: h11 :: h12 :: h13 :: h14 :: h15 :: h16 :: h17 :: h18 :: h19 :: h20 :: h21 :: h22 :: h23 :: h24 :: h25 :: y :: r) 26 x = h0 :: h1 :: h2 :: h3 :: h4 :: h5 :: h6 :: h7 :: h8 :: h9 :: h10 :: h11 :: h12 :: h13 :: h14 :: h15 :: h16 :: h17 :: h18 :: h19 :: h20 :: h21 :: h22 :: h23 :: h24 :: h25 :: x :: r := Eq.trans rfl rfl
@[simp] theorem ev_27 {d : D} {h0 h1 h2 h3 h4 h5 h6 h7 h8 h9 h10 h11 h12 h13 h14 h15 h16 h17 h18 h19 h20 h21 h22 h23 h24 h25 h26 : Option D} {r : Sg} : evE g (.var 27) (h0 :: h1 :: h2 :: h3 :: h4 :: h5 :: h6 :: h7 :: h8 :: h9 :: h10 :: h11 :: h12 :: h13 :: h14 :: h15 :: h16 :: h17 :: h18 :: h19 :: h20 :: h21 :: h22 :: h23 :: h24 :: h25 :: h26 :: some d :: r) M = .ok d M := Eq.trans rfl rfl
@[simp] theorem st_27 {x y : Option D} {h0 h1 h2 h3 h4 h5 h6 h7 h8 h9 h10 h11 h12 h13 h14 h15 h16 h17 h18 h19 h20 h21 h22 h23 h24 h25 h26 : Option D} {r : Sg} : List.set (h0 :: h1 :: h2 :: h3 :: h4 :: h5 :: h6 :: h7 :: h8 :: h9 :: h10 :: h11 :: h12 :: h13 :: h14 :: h15 :: h16 :: h17 :: h18 :: h19 :: h20 :: h21 :: h22 :: h23 :: h24 :: h25 :: h26 :: y :: r) 27 x = h0 :: h1 :: h2 :: h3 :: h4 :: h5 :: h6 :: h7 :: h8 :: h9 :: h10 :: h11 :: h12 :: h13 :: h14 :: h15 :: h16 :: h17 :: h18 :: h19 :: h20 :: h21 :: h22 :: h23 :: h24 :: h25 :: h26 :: x :: r := Eq.trans rfl rfl
@[simp] theorem ev_28 {d : D} {h0 h1 h2 h3 h4 h5 h6 h7 h8 h9 h10 h11 h12 h13 h14 h15 h16 h17 h18 h19 h20 h21 h22 h23 h24 h25 h26 h27 : Option D} {r : Sg} : evE g (.var 28) (h0 :: h1 :: h2 :: h3 :: h4 :: h5 :: h6 :: h7 :: h8 :: h9 :: h10 :: h11 :: h12 :: h13 :: h14 :: h15 :: h16 :: h17 :: h18 :: h19 :: h20 :: h21 :: h22 :: h23 :: h24 :: h25 :: h26 :: h27 :: some d :: r) M = .ok d M := Eq.trans rfl rfl
@[simp] theorem st_28 {x y : Option D} {h0 h1 h2 h3 h4 h5 h6 h7 h8 h9 h10 h11 h12 h13 h14 h15 h16 h17 h18 h19 h20 h21 h22 h23 h24 h25 h26 h27 : Option D} {r : Sg} : List.set (h0 :: h1 :: h2 :: h3 :: h4 :: h5 :: h6 :: h7 :: h8 :: h9 :: h10 :: h11 :: h12 :: h13 :: h14 :: h15 :: h16 :: h17 :: h18 :: h19 :: h20 :: h21 :: h22 :: h23 :: h24 :: h25 :: h26 :: h27 :: y :: r) 28 x = h0 :: h1 :: h2 :: h3 :: h4 :: h5 :: h6 :: h7 :: h8 :: h9 :: h10 :: h11 :: h12 :: h13 :: h14 :: h15 :: h16 :: h17 :: h18 :: h19 :: h20 :: h21 :: h22 :: h23 :: h24 :: h25 :: h26 :: h27 :: x :: r := Eq.trans rfl rfl
@[simp] theorem ev_29 {d : D} {h0 h1 h2 h3 h4 h5 h6 h7 h8 h9 h10 h11 h12 h13 h14 h15 h16 h17 h18 h19 h20 h21 h22 h23 h24 h25 h26 h27 h28 : Option D} {r : Sg} : evE g (.var 29) (h0 :: h1 :: h2 :: h3 :: h4 :: h5 :: h6 :: h7 :: h8 :: h9 :: h10 :: h11 :: h12 :: h13 :: h14 :: h15 :: h16 :: h17 :: h18 :: h19 :: h20 :: h21 :: h22 :: h23 :: h24 :: h25 :: h26 :: h27 :: h28 :: some d :: r) M = .ok d M := Eq.trans rfl rfl
@[simp] theorem st_29 {x y : Option D} {h0 h1 h2 h3 h4 h5 h6 h7 h8 h9 h10 h11 h12 h13 h14 h15 h16 h17 h18 h19 h20 h21 h22 h23 h24 h25 h26 h27 h28 : Option D} {r : Sg} : List.set (h0 :: h1 :: h2 :: h3 :: h4 :: h5 :: h6 :: h7 :: h8 :: h9 :: h10 :: h11 :: h12 :: h13 :: h14 :: h15 :: h16 :: h17 :: h18 :: h19 :: h20 :: h21 :: h22 :: h23 :: h24 :: h25 :: h26 :: h27 :: h28 :: y :: r) 29 x = h0 :: h1 :: h2 :: h3 :: h4 :: h5 :: h6 :: h7 :: h8 :: h9 :: h10 :: h11 :: h12 :: h13 :: h14 :: h15 :: h16 :: h17 :: h18 :: h19 :: h20 :: h21 :: h22 :: h23 :: h24 :: h25 :: h26 :: h27 :: h28 :: x :: r := Eq.trans rfl rfl
@[simp] theorem e_non : evE g .non σ M = .ok (.p .none) M := Eq.trans rfl rfl
@[simp] theorem e_bl {b : Bool} : evE g (.bl b) σ M = .ok (.p (.bool b)) M := Eq.trans rfl rfl
@[simp] theorem e_int {b : Int} : evE g (.int b) σ M = .ok (.p (.int b)) M := Eq.trans rfl rfl
@[simp] theorem e_str {b : Str} : evE g (.str b) σ M = .ok (.p (.str b)) M := Eq.trans rfl rfl
def binR (op : Bop) (x y : D) (M : Mem) : R D := match x, y with
  | .p d, .p e => R.opt M ((opBin op d e).map D.p)
  | _, _ => .bad
@[simp] theorem binR_p {op : Bop} {d e : PyData} : binR op (.p d) (.p e) M = R.opt M ((opBin op d e).map D.p) := Eq.trans rfl rfl
@[simp] theorem e_bin {op : Bop} : evE g (.bin op a b) σ M = (evE g a σ M).bind fun x M1 => (evE g b σ M1).bind fun y M2 => binR op x y M2 := Eq.trans rfl rfl
@[simp] theorem e_cmp {op : Cop} : evE g (.cmp op a b) σ M = (evE g a σ M).bind fun x M1 => (evE g b σ M1).bind fun y M2 => R.opt M2 ((opCmpD M2 op x y).map fun k => .p (.bool k)) := Eq.trans rfl rfl
@[simp] theorem cmpD_p {op : Cop} {d e : PyData} : opCmpD M op (.p d) (.p e) = opCmp op d e := Eq.trans rfl rfl
def chR (o : Option Bool) (A B : R D) : R D := match o with
  | some true => A
  | some false => B
  | none => .bad
@[simp] theorem chR_some {b : Bool} {A B : R D} : chR (some b) A B = if b = true then A else B := by cases b <;> rfl
@[simp] theorem e_chain {o o' : Cop} : evE g (.chain o o' a b c) σ M = (evE g a σ M).bind fun x M1 => (evE g b σ M1).bind fun y M2 => chR (opCmpD M2 o x y) ((evE g c σ M2).bind fun z M3 => R.opt M3 ((opCmpD M3 o' y z).map fun k => .p (.bool k))) (.ok (.p (.bool false)) M2) := by
  conv => lhs; unfold evE
  congr 1
@[simp] theorem e_and : evE g (.and a b) σ M = (evE g a σ M).tst fun k M1 => if k = true then (evE g b σ M1).tst fun k' M2 => .ok (.p (.bool k')) M2 else .ok (.p (.bool false)) M1 := Eq.trans rfl rfl
@[simp] theorem e_or : evE g (.or a b) σ M = (evE g a σ M).tst fun k M1 => if k = true then .ok (.p (.bool true)) M1 else (evE g b σ M1).tst fun k' M2 => .ok (.p (.bool k')) M2 := Eq.trans rfl rfl
@[simp] theorem e_not : evE g (.not a) σ M = (evE g a σ M).tst fun k M1 => .ok (.p (.bool (!k))) M1 := Eq.trans rfl rfl
@[simp] theorem e_ife : evE g (.ife c a b) σ M = (evE g c σ M).tst fun k M1 => if k = true then evE g a σ M1 else evE g b σ M1 := Eq.trans rfl rfl
@[simp] theorem e_nil : evEs g [] σ M = .ok [] M := Eq.trans rfl rfl
@[simp] theorem e_cons : evEs g (a :: es) σ M = (evE g a σ M).bind fun d M1 => (evEs g es σ M1).bind fun ds M2 => .ok (d :: ds) M2 := Eq.trans rfl rfl
def tupR (ds : List D) (M : Mem) : R D := match allP ds with
  | some xs => if xs.length ≤ sizeLine then .ok (.p (.tuple xs)) M else .bad
  | none => .bad
@[simp] theorem e_tup : evE g (.tup es) σ M = (evEs g es σ M).bind tupR := Eq.trans rfl rfl
def lstR (ds : List D) (M : Mem) : R D := match allP ds with
  | some xs => if xs.length ≤ sizeLine then .ok (.p (.list xs)) M else .bad
  | none => .bad
@[simp] theorem e_lst : evE g (.lst es) σ M = (evEs g es σ M).bind lstR := Eq.trans rfl rfl
def lstMR (ds : List D) (M : Mem) : R D := match allP ds with
  | some xs => if xs.length ≤ sizeLine then .ok (.loc M.length) (M ++ [xs]) else .bad
  | none => .bad
def listMR (ds : List D) (M : Mem) : R D := match ds with
  | [d] => (match itemsR M d with
    | some xs => .ok (.loc M.length) (M ++ [xs])
    | none => .bad)
  | _ => .bad
theorem e_listM : evE g (.listM es) σ M = (evEs g es σ M).bind listMR := Eq.trans rfl rfl
theorem listMR_t {xs : List PyData} : listMR [.p (.tuple xs)] M = .ok (.loc M.length) (M ++ [xs]) := rfl
theorem listMR_l {xs : List PyData} : listMR [.p (.list xs)] M = .ok (.loc M.length) (M ++ [xs]) := rfl
@[simp] theorem e_lstM : evE g (.lstM es) σ M = (evEs g es σ M).bind lstMR := Eq.trans rfl rfl
@[simp] theorem allP_nil : allP [] = some [] := Eq.trans rfl rfl
@[simp] theorem allP_cons {d : PyData} {r : List D} : allP (.p d :: r) = (allP r).map (d :: ·) := Eq.trans rfl rfl
@[simp] theorem e_idx {i : CE} : evE g (.idx a i) σ M = (evE g a σ M).bind fun x M1 => (evE g i σ M1).bind fun y M2 => R.opt M2 (opIdx M2 x y) := Eq.trans rfl rfl
@[simp] theorem e_bi {k : Bi} : evE g (.bi k es) σ M = (evEs g es σ M).bind fun ds M1 => R.opt M1 (opBi M1 k ds) := Eq.trans rfl rfl
@[simp] theorem e_isi {ts : List Ty} : evE g (.isi a ts) σ M = (evE g a σ M).bind fun x M1 => R.opt M1 ((isTys x ts).map fun k => .p (.bool k)) := Eq.trans rfl rfl
@[simp] theorem e_call {f : Nat} : evE g (.call f es) σ M = (evEs g es σ M).bind fun ds M1 => g.call f ds M1 := Eq.trans rfl rfl
def isNR (x : D) (M : Mem) : R D := match x with
  | .p .none => .ok (.p (.bool true)) M
  | _ => .ok (.p (.bool false)) M
@[simp] theorem e_isN : evE g (.isN a) σ M = (evE g a σ M).bind isNR := Eq.trans rfl rfl
def notNR (x : D) (M : Mem) : R D := match x with
  | .p .none => .ok (.p (.bool false)) M
  | _ => .ok (.p (.bool true)) M
@[simp] theorem e_notN : evE g (.notN a) σ M = (evE g a σ M).bind notNR := Eq.trans rfl rfl
/-! statements -/
variable {s : CS} {ss A B : List CS} {e : CE}
def seqR (f : Fl) (k : Sg → Mem → R Fl) (M : Mem) : R Fl := match f with
  | .nx σ1 => k σ1 M
  | f => .ok f M
@[simp] theorem seq_nx {σ1 : Sg} {k : Sg → Mem → R Fl} : seqR (.nx σ1) k M = k σ1 M := Eq.trans rfl rfl
@[simp] theorem seq_ret {d : D} {k : Sg → Mem → R Fl} : seqR (.ret d) k M = .ok (.ret d) M := Eq.trans rfl rfl
@[simp] theorem seq_brk {d : Sg} {k : Sg → Mem → R Fl} : seqR (.brk d) k M = .ok (.brk d) M := Eq.trans rfl rfl
@[simp] theorem s_nil : evSs g [] σ M = .ok (.nx σ) M := Eq.trans rfl rfl
@[simp] theorem s_cons : evSs g (s :: ss) σ M = (evS g s σ M).bind fun f M1 => seqR f (evSs g ss) M1 := by
  conv => lhs; unfold evSs
  congr 1
@[simp] theorem s_expr : evS g (.expr e) σ M = (evE g e σ M).bind fun _ M1 => .ok (.nx σ) M1 := Eq.trans rfl rfl
@[simp] theorem s_asg {i : Nat} : evS g (.asg i e) σ M = (evE g e σ M).bind fun d M1 => .ok (.nx (σ.set i (some d))) M1 := Eq.trans rfl rfl
def unpR (is : List Nat) (σ : Sg) (d : D) (M : Mem) : R Fl := match d with
  | .p (.tuple ds) => (match setAll is ds σ with
    | some σ' => .ok (.nx σ') M
    | none => .bad)
  | _ => .bad
@[simp] theorem s_unp {is : List Nat} : evS g (.unp is e) σ M = (evE g e σ M).bind (unpR is σ) := Eq.trans rfl rfl
@[simp] theorem s_par {i j : Nat} : evS g (.par i j a b) σ M = (evE g a σ M).bind fun x M1 => (evE g b σ M1).bind fun y M2 => .ok (.nx ((σ.set i (some x)).set j (some y))) M2 := Eq.trans rfl rfl
@[simp] theorem s_ite : evS g (.ite e A B) σ M = (evE g e σ M).tst fun k M1 => if k = true then evSs g A σ M1 else evSs g B σ M1 := Eq.trans rfl rfl
@[simp] theorem s_ret : evS g (.ret e) σ M = (evE g e σ M).bind fun d M1 => .ok (.ret d) M1 := Eq.trans rfl rfl
@[simp] theorem s_retN : evS g .retN σ M = .ok (.ret (.p .none)) M := Eq.trans rfl rfl
@[simp] theorem s_pass : evS g .pass σ M = .ok (.nx σ) M := Eq.trans rfl rfl
@[simp] theorem s_brk : evS g .brk σ M = .ok (.brk σ) M := Eq.trans rfl rfl
@[simp] theorem finF_ret {n : Nat} {r : Bool} {d : PyData} : finF n r (.ok (.ret (.p d)) M) = .ok (.p d) (M.take n) := Eq.trans rfl rfl
@[simp] theorem finF_nx {n : Nat} {r : Bool} : finF n r (.ok (.nx σ) M) = .ok (.p .none) (M.take n) := Eq.trans rfl rfl
@[simp] theorem finE_ok {n : Nat} {d : PyData} : finE n (.ok (.p d) M) = .ok (.p d) (M.take n) := Eq.trans rfl rfl
/-! operators -/
@[simp] theorem b_add {i j : Int} : opBin .add (.int i) (.int j) = some (.int (i + j)) := Eq.trans rfl rfl
@[simp] theorem b_sub {i j : Int} : opBin .sub (.int i) (.int j) = some (.int (i - j)) := Eq.trans rfl rfl
@[simp] theorem c_lt {i j : Int} : opCmp .lt (.int i) (.int j) = some (decide (i < j)) := Eq.trans rfl rfl
@[simp] theorem c_le {i j : Int} : opCmp .le (.int i) (.int j) = some (decide (i ≤ j)) := Eq.trans rfl rfl
@[simp] theorem c_gt {i j : Int} : opCmp .gt (.int i) (.int j) = some (decide (j < i)) := Eq.trans rfl rfl
@[simp] theorem c_ge {i j : Int} : opCmp .ge (.int i) (.int j) = some (decide (j ≤ i)) := Eq.trans rfl rfl
@[simp] theorem c_eqI {i j : Int} : opCmp .eq (.int i) (.int j) = some (decide (i = j)) := by
  show (if (SeqAt.shaped (.int i) && SeqAt.shaped (.int j)) = true then some (PyData.eqv (.int i) (.int j)) else none) = _
  rfl
end
end Pg

end

/-! ## Bb -/
section
set_option Elab.async false
set_option linter.all false
set_option maxRecDepth 100000
set_option maxHeartbeats 1000000
/-! Subscripts, comprehensions, loops. -/
namespace Pg
open PySem hiding run start
open Ev
variable {pr : Pr} {F : Nat}
section
variable {g : G} {σ : Sg} {M M1 : Mem} {ds : List D} {args : List CE} {elt cond : CE} {own : List Nat} {i : Nat} {it : Ev.It} {xs : List PyData}
/-! ### subscripts -/
theorem atI_nat {α : Type} {xs : List α} {n : Nat} : L2.atI xs (n : Int) = xs[n]? := by
  unfold L2.atI L2.ixN
  by_cases h : n < xs.length
  · have e : ((n : Int) < (xs.length : Int)) := by omega
    simp [e]
  · have e : ¬ ((n : Int) < (xs.length : Int)) := by omega
    simp only [Int.natCast_nonneg, if_true, e, if_false]
    rw [List.getElem?_eq_none (by omega)]
    rfl
theorem atI_int {α : Type} {xs : List α} {i : Int} (h : 0 ≤ i) : L2.atI xs i = xs[i.toNat]? := by
  have e : ((i.toNat : Nat) : Int) = i := by omega
  have := atI_nat (xs := xs) (n := i.toNat)
  rw [e] at this
  exact this
theorem atI_last {α : Type} {xs : List α} (h : xs ≠ []) : L2.atI xs (-1) = xs[xs.length - 1]? := by
  unfold L2.atI L2.ixN
  have hl : 0 < xs.length := List.length_pos_iff.mpr h
  have e : (-(xs.length : Int) ≤ -1) := by omega
  have e2 : ((-1 : Int) + (xs.length : Int)).toNat = xs.length - 1 := by omega
  simp [e, e2]
@[simp] theorem idx_t {i : Int} : opIdx M (.p (.tuple xs)) (.p (.int i)) = (L2.atI xs i).map D.p := Eq.trans rfl rfl
@[simp] theorem idx_l {i : Int} : opIdx M (.p (.list xs)) (.p (.int i)) = (L2.atI xs i).map D.p := Eq.trans rfl rfl
theorem idx_loc {n : Nat} {i : Int} (h : M[n]? = some xs) : opIdx M (.loc n) (.p (.int i)) = (L2.atI xs i).map D.p := by
  show (match M[n]?, D.p (PyData.int i) with
    | some xs, .p (.int i) => (L2.atI xs i).map D.p
    | _, _ => none) = _
  rw [h]
@[simp] theorem at3_0 {α : Type} {a b c : α} : L2.atI [a, b, c] 0 = some a := Eq.trans rfl rfl
@[simp] theorem at3_1 {α : Type} {a b c : α} : L2.atI [a, b, c] 1 = some b := Eq.trans rfl rfl
@[simp] theorem at3_2 {α : Type} {a b c : α} : L2.atI [a, b, c] 2 = some c := Eq.trans rfl rfl
@[simp] theorem at4_0 {α : Type} {a b c d : α} : L2.atI [a, b, c, d] 0 = some a := Eq.trans rfl rfl
@[simp] theorem at4_1 {α : Type} {a b c d : α} : L2.atI [a, b, c, d] 1 = some b := Eq.trans rfl rfl
@[simp] theorem at4_2 {α : Type} {a b c d : α} : L2.atI [a, b, c, d] 2 = some c := Eq.trans rfl rfl
@[simp] theorem at4_3 {α : Type} {a b c d : α} : L2.atI [a, b, c, d] 3 = some d := Eq.trans rfl rfl
@[simp] theorem at5_0 {α : Type} {a b c d e : α} : L2.atI [a, b, c, d, e] 0 = some a := Eq.trans rfl rfl
@[simp] theorem at5_1 {α : Type} {a b c d e : α} : L2.atI [a, b, c, d, e] 1 = some b := Eq.trans rfl rfl
@[simp] theorem at5_2 {α : Type} {a b c d e : α} : L2.atI [a, b, c, d, e] 2 = some c := Eq.trans rfl rfl
@[simp] theorem at5_3 {α : Type} {a b c d e : α} : L2.atI [a, b, c, d, e] 3 = some d := Eq.trans rfl rfl
@[simp] theorem at5_4 {α : Type} {a b c d e : α} : L2.atI [a, b, c, d, e] 4 = some e := Eq.trans rfl rfl
/-! ### built-ins -/
@[simp] theorem bi_len_t : opBi M .len [.p (.tuple xs)] = some (.p (.int xs.length)) := Eq.trans rfl rfl
@[simp] theorem bi_len_l : opBi M .len [.p (.list xs)] = some (.p (.int xs.length)) := Eq.trans rfl rfl
@[simp] theorem bi_tup_l : opBi M .tuple [.p (.list xs)] = some (.p (.tuple xs)) := Eq.trans rfl rfl
@[simp] theorem bi_abs {i : Int} : opBi M .abs [.p (.int i)] = some (.p (.int (if i < 0 then -i else i))) := Eq.trans rfl rfl
@[simp] theorem bi_int {i : Int} : opBi M .int [.p (.int i)] = some (.p (.int i)) := Eq.trans rfl rfl
@[simp] theorem bi_intb {b : Bool} : opBi M .int [.p (.bool b)] = some (.p (.int (if b then 1 else 0))) := Eq.trans rfl rfl
@[simp] theorem bi_max2 {i j : Int} : opBi M .max [.p (.int i), .p (.int j)] = some (.p (.int (if j > i then j else i))) := Eq.trans rfl rfl
@[simp] theorem bi_min2 {i j : Int} : opBi M .min [.p (.int i), .p (.int j)] = some (.p (.int (if j < i then j else i))) := Eq.trans rfl rfl
theorem bols_map : ∀ bs : List Bool, bolsOf (bs.map PyData.bool) = some bs
  | [] => rfl
  | b :: bs => by
    show (bolsOf (bs.map PyData.bool)).map (b :: ·) = some (b :: bs)
    rw [bols_map bs]
    rfl
theorem ints_map : ∀ bs : List Int, intsOf (bs.map PyData.int) = some bs
  | [] => rfl
  | b :: bs => by
    show (intsOf (bs.map PyData.int)).map (b :: ·) = some (b :: bs)
    rw [ints_map bs]
    rfl
theorem bi_all_l {bs : List Bool} : opBi M .all [.p (.list (bs.map .bool))] = some (.p (.bool (bs.all id))) := by
  show ((some (bs.map PyData.bool)).bind bolsOf).map (fun bs => D.p (.bool (bs.all id))) = _
  rw [Option.bind_some, bols_map]
  rfl
theorem bi_any_t {bs : List Bool} : opBi M .any [.p (.tuple (bs.map .bool))] = some (.p (.bool (bs.any id))) := by
  show ((some (bs.map PyData.bool)).bind bolsOf).map (fun bs => D.p (.bool (bs.any id))) = _
  rw [Option.bind_some, bols_map]
  rfl
/-! ### comprehensions -/
theorem compL_pure {n : Nat} {turn : PyData → Mem → R (Option PyData)} {fx : PyData → Option PyData} : ∀ {xs : List PyData} {acc : List PyData} {M1 : Mem}, n = M1.length → (∀ x ∈ xs, ∀ M', turn x M' = .ok (fx x) M') → acc.length + xs.length ≤ sizeLine →
    compL n turn xs (M1 ++ [acc]) = .ok (.p (.list (acc ++ xs.filterMap fx))) M1
  | [], acc, M1, hn, _, _ => by
    have e : (M1 ++ [acc])[n]? = some acc := by rw [hn, List.getElem?_append_right (Nat.le_refl _), Nat.sub_self]; rfl
    have e2 : (M1 ++ [acc]).take n = M1 := by rw [hn, List.take_left]
    unfold compL
    rw [e, e2]
    simp
  | x :: xs, acc, M1, hn, ht, hz => by
    have e : (M1 ++ [acc])[n]? = some acc := by rw [hn, List.getElem?_append_right (Nat.le_refl _), Nat.sub_self]; rfl
    have e2 : (M1 ++ [acc]).take n = M1 := by rw [hn, List.take_left]
    unfold compL
    rw [ht x List.mem_cons_self]
    simp only [e, e2]
    rw [List.length_cons] at hz
    have ih := fun acc' h => compL_pure (n := n) (turn := turn) (fx := fx) (xs := xs) (acc := acc') (M1 := M1) hn (fun y hy => ht y (List.mem_cons_of_mem _ hy)) h
    cases q : fx x with
    | none =>
      rw [List.filterMap_cons, q]
      exact ih acc (by omega)
    | some y =>
      have hlt : acc.length < sizeLine := by omega
      simp only [hlt, if_true]
      rw [List.filterMap_cons, q, ih (acc ++ [y]) (by rw [List.length_append]; simp; omega)]
      simp
theorem ev_comp {tg : Tg} {conds : List CE} : evE g (.comp tg it args conds own elt) σ M = (evEs g args σ M).bind fun ds M1 => match itemsI M1 it ds with
    | some xs => compL M1.length (fun x M2 => match bindT tg x (wipe σ own) with
        | some σ' => (evEs g conds σ' M2).bind fun ks M3 => match ks with
          | [] => (evE g elt σ' M3).bind fun d M4 => match d with
            | .p y => .ok (some y) M4
            | _ => .bad
          | [.p (.bool true)] => (evE g elt σ' M3).bind fun d M4 => match d with
            | .p y => .ok (some y) M4
            | _ => .bad
          | [.p (.bool false)] => .ok none M3
          | _ => .bad
        | none => .bad) xs (M1 ++ [[]])
    | none => .bad := Eq.trans rfl rfl
theorem comp_any {tg : Tg} {conds : List CE} (hargs : evEs g args σ M = .ok ds M1) (hit : itemsI M1 it ds = some xs) (hl : xs.length ≤ sizeLine) {fx : PyData → Option PyData}
    (hf : ∀ x ∈ xs, ∃ σ', bindT tg x (wipe σ own) = some σ' ∧ ∀ M', (evEs g conds σ' M').bind (fun ks M3 => match ks with
          | [] => (evE g elt σ' M3).bind fun d M4 => match d with
            | .p y => .ok (some y) M4
            | _ => .bad
          | [.p (.bool true)] => (evE g elt σ' M3).bind fun d M4 => match d with
            | .p y => .ok (some y) M4
            | _ => .bad
          | [.p (.bool false)] => .ok none M3
          | _ => .bad) = .ok (fx x) M') :
    evE g (.comp tg it args conds own elt) σ M = .ok (.p (.list (xs.filterMap fx))) M1 := by
  rw [ev_comp, hargs]
  simp only [bind_ok, hit]
  have key := compL_pure (n := M1.length) (fx := fx) (xs := xs) (acc := []) (M1 := M1) (turn := fun x M2 => match bindT tg x (wipe σ own) with
        | some σ' => (evEs g conds σ' M2).bind fun ks M3 => match ks with
          | [] => (evE g elt σ' M3).bind fun d M4 => match d with
            | .p y => .ok (some y) M4
            | _ => .bad
          | [.p (.bool true)] => (evE g elt σ' M3).bind fun d M4 => match d with
            | .p y => .ok (some y) M4
            | _ => .bad
          | [.p (.bool false)] => .ok none M3
          | _ => .bad
        | none => .bad) rfl (fun x hx M' => by
          obtain ⟨σ', h1, h2⟩ := hf x hx
          simp only [h1]
          exact h2 M') (by simpa using hl)
  rw [List.nil_append] at key
  exact key
theorem comp_one (hargs : evEs g args σ M = .ok ds M1) (hit : itemsI M1 it ds = some xs) (hl : xs.length ≤ sizeLine) {f : PyData → PyData}
    (hf : ∀ x ∈ xs, ∀ M', evE g elt ((wipe σ own).set i (some (.p x))) M' = .ok (.p (f x)) M') : evE g (.comp (.one i) it args [] own elt) σ M = .ok (.p (.list (xs.map f))) M1 := by
  rw [comp_any hargs hit hl (fx := fun x => some (f x)) (fun x hx => ⟨_, rfl, fun M' => ?_⟩)]
  · rw [List.filterMap_eq_map']
  · simp only [e_nil, bind_ok, hf x hx]
theorem comp_if (hargs : evEs g args σ M = .ok ds M1) (hit : itemsI M1 it ds = some xs) (hl : xs.length ≤ sizeLine) {f : PyData → PyData} {p : PyData → Bool}
    (hp : ∀ x ∈ xs, ∀ M', evE g cond ((wipe σ own).set i (some (.p x))) M' = .ok (.p (.bool (p x))) M')
    (hf : ∀ x ∈ xs, p x = true → ∀ M', evE g elt ((wipe σ own).set i (some (.p x))) M' = .ok (.p (f x)) M') : evE g (.comp (.one i) it args [cond] own elt) σ M = .ok (.p (.list ((xs.filter p).map f))) M1 := by
  rw [comp_any hargs hit hl (fx := fun x => if p x = true then some (f x) else none) (fun x hx => ⟨_, rfl, fun M' => ?_⟩)]
  · congr 3
    clear hf hp hl hit
    induction xs with
    | nil => rfl
    | cons x xs ih =>
      rw [List.filterMap_cons, List.filter_cons]
      cases h : p x with
      | true => simp [ih]
      | false => simp [ih]
  · simp only [e_cons, e_nil, bind_ok, hp x hx]
    cases h : p x with
    | true => simp only [hf x hx h, bind_ok, if_true]
    | false => simp
/-! ### while -/
theorem whl_stop {c : Sg → Mem → R D} {body : Sg → Mem → R Fl} {n : Nat} (h : c σ M = .ok (.p (.bool false)) M) : whlL c body (n + 1) σ M = .ok (.nx σ) M := by
  unfold whlL
  rw [h]
  rfl
theorem whl_go {c : Sg → Mem → R D} {body : Sg → Mem → R Fl} {n : Nat} {σ2 : Sg} {M2 : Mem} (h : c σ M = .ok (.p (.bool true)) M) (hb : body σ M = .ok (.nx σ2) M2) : whlL c body (n + 1) σ M = whlL c body n σ2 M2 := by
  conv => lhs; unfold whlL
  rw [h]
  simp only [tst_ok, if_true, hb, bind_ok]
def whG (g : G) (c : CE) (b : List CS) (n : Nat) (σ : Sg) (M : Mem) : R Fl := whlL (fun σ M => evE g c σ M) (fun σ M => evSs g b σ M) n σ M
@[simp] theorem s_whl {c : CE} {b : List CS} : evS g (.whl c b) σ M = whG g c b g.fuel σ M := Eq.trans rfl rfl
theorem whG_stop {c : CE} {b : List CS} {n : Nat} (h : evE g c σ M = .ok (.p (.bool false)) M) : whG g c b (n + 1) σ M = .ok (.nx σ) M := whl_stop h
theorem whG_go {c : CE} {b : List CS} {n : Nat} {σ2 : Sg} {M2 : Mem} (h : evE g c σ M = .ok (.p (.bool true)) M) (hb : evSs g b σ M = .ok (.nx σ2) M2) : whG g c b (n + 1) σ M = whG g c b n σ2 M2 := whl_go h hb
/-! ### for -/
def forG (g : G) (tg : Tg) (b : List CS) (xs : List PyData) (σ : Sg) (M : Mem) : R Fl := forL tg (fun σ M => evSs g b σ M) xs σ M
def forR (g : G) (tg : Tg) (b : List CS) (xs : Option (List PyData)) (σ : Sg) (M : Mem) : R Fl := match xs with
  | some xs => forG g tg b xs σ M
  | none => .bad
@[simp] theorem forR_some {tg : Tg} {b : List CS} : forR g tg b (some xs) σ M = forG g tg b xs σ M := Eq.trans rfl rfl
@[simp] theorem s_for {tg : Tg} {b : List CS} : evS g (.for_ tg it args b) σ M = (evEs g args σ M).bind fun ds M1 => forR g tg b (itemsI M1 it ds) σ M1 := Eq.trans rfl rfl
theorem forG_nil {tg : Tg} {b : List CS} : forG g tg b [] σ M = .ok (.nx σ) M := Eq.trans rfl rfl
def forK (g : G) (tg : Tg) (b : List CS) (r : List PyData) (f : Fl) (M1 : Mem) : R Fl := match f with
  | .nx σ2 => forG g tg b r σ2 M1
  | .cont σ2 => forG g tg b r σ2 M1
  | .brk σ2 => .ok (.nx σ2) M1
  | .ret d => .ok (.ret d) M1
theorem forG_cons {tg : Tg} {b : List CS} {x : PyData} {r : List PyData} {σ1 : Sg} (h : bindT tg x σ = some σ1) : forG g tg b (x :: r) σ M = (evSs g b σ1 M).bind (forK g tg b r) := by
  unfold forG
  conv => lhs; unfold forL
  rw [h]
  rfl
@[simp] theorem forK_nx {tg : Tg} {b : List CS} {r : List PyData} : forK g tg b r (.nx σ) M = forG g tg b r σ M := Eq.trans rfl rfl
@[simp] theorem forK_ret {tg : Tg} {b : List CS} {r : List PyData} {d : D} : forK g tg b r (.ret d) M = .ok (.ret d) M := Eq.trans rfl rfl
@[simp] theorem forK_brk {tg : Tg} {b : List CS} {r : List PyData} : forK g tg b r (.brk σ) M = .ok (.nx σ) M := Eq.trans rfl rfl
theorem it_rng2 {i j : Int} (h1 : small62 i = true) (h2 : small62 j = true) : itemsI M .range [.p (.int i), .p (.int j)] = some (rng i (j - i).toNat) := by
  show (if (small62 i && small62 j) = true then some (rng i (j - i).toNat) else none) = _
  rw [h1, h2]
  rfl
theorem it_rng1 {j : Int} (h2 : small62 j = true) : itemsI M .range [.p (.int j)] = some (rng 0 j.toNat) := by
  show (if small62 j = true then some (rng 0 j.toNat) else none) = _
  rw [h2]
  rfl
theorem small_nat {n : Nat} (h : n ≤ 1000000000) : small62 (n : Int) = true := by
  unfold small62
  exact decide_eq_true (by omega)
theorem small_int {n : Int} (h : -1000000000 ≤ n) (h2 : n ≤ 1000000000) : small62 n = true := by
  unfold small62
  exact decide_eq_true (by omega)
theorem rng_map {lo : Int} {n : Nat} {f : PyData → PyData} : (rng lo n).map f = (List.range n).map fun (k : Nat) => f (.int (lo + k)) := by
  unfold rng
  rw [List.map_map]
  rfl
theorem rng_mem {lo : Int} {n : Nat} {x : PyData} (h : x ∈ rng lo n) : ∃ k : Nat, k < n ∧ x = .int (lo + k) := by
  unfold rng at h
  obtain ⟨k, hk, rfl⟩ := List.mem_map.mp h
  exact ⟨k, List.mem_range.mp hk, rfl⟩
theorem rng_length {lo : Int} {n : Nat} : (rng lo n).length = n := by
  unfold rng
  rw [List.length_map, List.length_range]
end
end Pg

end

/-! ## Bc -/
section
set_option Elab.async false
set_option linter.all false
set_option maxRecDepth 100000
set_option maxHeartbeats 1000000
/-! More rules of the evaluator, numbers as Int. -/
namespace Pg
open PySem hiding run start
open Ev
variable {pr : Pr} {F : Nat}
section
variable {g : G} {σ : Sg} {M M1 : Mem} {ds : List D} {args : List CE} {elt cond : CE} {own : List Nat} {i : Nat} {xs : List PyData} {es : List CE}
theorem line_big : 1000000 ≤ sizeLine := by decide
theorem take_M : List.take (List.length M) M = M := List.take_length
/-! ### captured slots -/
def capC (o : Option (Option D)) (r : Option (List D)) : Option (List D) := match o with
  | some (some d) => r.map (d :: ·)
  | _ => none
theorem capC_some {d : D} {r : Option (List D)} : capC (some (some d)) r = r.map (d :: ·) := Eq.trans rfl rfl
theorem caps_nil : caps σ [] = some [] := Eq.trans rfl rfl
theorem caps_cons {r : List Nat} : caps σ (i :: r) = capC σ[i]? (caps σ r) := by
  conv => lhs; unfold caps
  unfold capC
  rfl
def lamR (g : G) (f ps nN : Nat) (body : CE) (o : Option (List D)) (ds : List D) (M : Mem) : R D := match o with
  | some cs => g.lam f ds ⟨ps, nN, body, cs⟩ M
  | none => .bad
theorem e_lam {f ps nN : Nat} {js : List Nat} {body : CE} : evE g (.lam f es ps nN js body) σ M = (evEs g es σ M).bind fun ds M1 => lamR g f ps nN body (caps σ js) ds M1 := Eq.trans rfl rfl
theorem lamR_some {f ps nN : Nat} {body : CE} {cs ds : List D} : lamR g f ps nN body (some cs) ds M = g.lam f ds ⟨ps, nN, body, cs⟩ M := Eq.trans rfl rfl
def clR (g : G) (o : Option (Option D)) (k : Nat → R D) : R D := match o with
  | some (some (.clo n)) => k n
  | _ => .bad
theorem clR_some {n : Nat} {k : Nat → R D} : clR g (some (some (.clo n))) k = k n := Eq.trans rfl rfl
theorem e_clo {i : Nat} : evE g (.cl i es) σ M = clR g σ[i]? fun n => (evEs g es σ M).bind fun ds M1 => g.cl n ds M1 := by
  conv => lhs; unfold evE
  unfold clR
  rfl
theorem run_clo1 {k : Nat} {C : List Clo} {nN : Nat} {body : CE} {cs : List D} {d : D} : run pr F (k + 1) (C ++ [⟨1, nN, body, cs⟩]) (.clo C.length) [d] M = finE M.length (evE (gOf pr F k (C ++ [⟨1, nN, body, cs⟩])) body (Ev.start nN (d :: cs)) M) := run_clo (c := ⟨1, nN, body, cs⟩) (by simp) rfl
/-! ### tuples, lists -/
theorem tupR_some {ds : List D} (h : allP ds = some xs) (hl : xs.length ≤ 1000000) : tupR ds M = .ok (.p (.tuple xs)) M := by
  unfold tupR
  rw [h]
  exact if_pos (Nat.le_trans hl line_big)
theorem lstR_some {ds : List D} (h : allP ds = some xs) (hl : xs.length ≤ 1000000) : lstR ds M = .ok (.p (.list xs)) M := by
  unfold lstR
  rw [h]
  exact if_pos (Nat.le_trans hl line_big)
theorem lstMR_some {ds : List D} (h : allP ds = some xs) (hl : xs.length ≤ 1000000) : lstMR ds M = .ok (.loc M.length) (M ++ [xs]) := by
  unfold lstMR
  rw [h]
  exact if_pos (Nat.le_trans hl line_big)
variable {a b c d e f : PyData}
theorem tupR_1 : tupR [.p a] M = .ok (.p (.tuple [a])) M := tupR_some rfl (by simp)
theorem tupR_2 : tupR [.p a, .p b] M = .ok (.p (.tuple [a, b])) M := tupR_some rfl (by simp)
theorem tupR_3 : tupR [.p a, .p b, .p c] M = .ok (.p (.tuple [a, b, c])) M := tupR_some rfl (by simp)
theorem tupR_4 : tupR [.p a, .p b, .p c, .p d] M = .ok (.p (.tuple [a, b, c, d])) M := tupR_some rfl (by simp)
theorem tupR_5 : tupR [.p a, .p b, .p c, .p d, .p e] M = .ok (.p (.tuple [a, b, c, d, e])) M := tupR_some rfl (by simp)
theorem tupR_6 : tupR [.p a, .p b, .p c, .p d, .p e, .p f] M = .ok (.p (.tuple [a, b, c, d, e, f])) M := tupR_some rfl (by simp)
theorem lstR_0 : lstR [] M = .ok (.p (.list [])) M := lstR_some rfl (by simp)
theorem lstR_1 : lstR [.p a] M = .ok (.p (.list [a])) M := lstR_some rfl (by simp)
theorem lstR_2 : lstR [.p a, .p b] M = .ok (.p (.list [a, b])) M := lstR_some rfl (by simp)
theorem lstR_3 : lstR [.p a, .p b, .p c] M = .ok (.p (.list [a, b, c])) M := lstR_some rfl (by simp)
theorem lstMR_0 : lstMR [] M = .ok (.loc M.length) (M ++ [[]]) := lstMR_some rfl (by simp)
theorem lstMR_1 : lstMR [.p a] M = .ok (.loc M.length) (M ++ [[a]]) := lstMR_some rfl (by simp)
@[simp] theorem unp2 {i j : Nat} : unpR [i, j] σ (.p (.tuple [a, b])) M = .ok (.nx ((σ.set i (some (.p a))).set j (some (.p b)))) M := Eq.trans rfl rfl
@[simp] theorem unp3 {i j l : Nat} : unpR [i, j, l] σ (.p (.tuple [a, b, c])) M = .ok (.nx (((σ.set i (some (.p a))).set j (some (.p b))).set l (some (.p c)))) M := Eq.trans rfl rfl
@[simp] theorem unp4 {i j l m : Nat} : unpR [i, j, l, m] σ (.p (.tuple [a, b, c, d])) M = .ok (.nx ((((σ.set i (some (.p a))).set j (some (.p b))).set l (some (.p c))).set m (some (.p d)))) M := Eq.trans rfl rfl
/-! x, y, z = .. -/
def parR (is : List Nat) (σ : Sg) (ds : List D) (M : Mem) : R Fl := match setDs is ds σ with
  | some σ' => .ok (.nx σ') M
  | none => .bad
theorem s_parN {is : List Nat} : evS g (.parN is es) σ M = (evEs g es σ M).bind (parR is σ) := Eq.trans rfl rfl
theorem parR_3 {i j l : Nat} {x y z : D} : parR [i, j, l] σ [x, y, z] M = .ok (.nx (((σ.set i (some x)).set j (some y)).set l (some z))) M := Eq.trans rfl rfl
theorem parR_4 {i j l m : Nat} {x y z w : D} : parR [i, j, l, m] σ [x, y, z, w] M = .ok (.nx ((((σ.set i (some x)).set j (some y)).set l (some z)).set m (some w))) M := Eq.trans rfl rfl
/-! ### memory -/
theorem at_top : (M ++ [xs])[M.length]? = some xs := by rw [List.getElem?_append_right (Nat.le_refl _), Nat.sub_self]; rfl
theorem set_top {ys : List PyData} : (M ++ [xs]).set M.length ys = M ++ [ys] := by
  rw [List.set_append_right _ _ (Nat.le_refl _), Nat.sub_self]
  rfl
theorem take_top : List.take M.length (M ++ [xs]) = M := List.take_left
theorem len_top : opBi (M ++ [xs]) .len [.loc M.length] = some (.p (.int (xs.length : Nat))) := by
  have e : opBi (M ++ [xs]) .len [.loc M.length] = ((M ++ [xs])[M.length]?).map fun xs => .p (.int xs.length) := rfl
  rw [e, at_top]
  rfl
theorem tup_top : opBi (M ++ [xs]) .tuple [.loc M.length] = some (.p (.tuple xs)) := by
  have e : opBi (M ++ [xs]) .tuple [.loc M.length] = ((M ++ [xs])[M.length]?).map fun xs => .p (.tuple xs) := rfl
  rw [e, at_top]
  rfl
theorem idx_top {i : Int} : opIdx (M ++ [xs]) (.loc M.length) (.p (.int i)) = (L2.atI xs i).map D.p := idx_loc at_top
/-! ### methods -/
def meR2 (m : Me) (x : D) (ds : List D) (M : Mem) : R D := match opMe M m x ds with
  | some (d, M3) => .ok d M3
  | none => .bad
def meR1 (g : G) (m : Me) (es : List CE) (σ : Sg) (x : D) (M : Mem) : R D := if meOk M m x = true then (evEs g es σ M).bind (meR2 m x) else .bad
theorem e_me {m : Me} {o : CE} : evE g (.me m o es) σ M = (evE g o σ M).bind (meR1 g m es σ) := by
  conv => lhs; unfold evE
  congr 1
theorem me_pop : meR1 g .pop [] σ (.loc M.length) (M ++ [xs ++ [d]]) = .ok (.p d) (M ++ [xs]) := by
  have e1 : meOk (M ++ [xs ++ [d]]) .pop (.loc M.length) = true := rfl
  unfold meR1
  rw [e1, if_pos rfl, e_nil, bind_ok]
  unfold meR2
  have e2 : opMe (M ++ [xs ++ [d]]) .pop (.loc M.length) [] = ((M ++ [xs ++ [d]])[M.length]?).bind fun xs' => (xs'[xs'.length - 1]?).map fun x => (.p x, (M ++ [xs ++ [d]]).set M.length xs'.dropLast) := rfl
  rw [e2, at_top, Option.bind_some, List.length_append, List.length_singleton, Nat.add_sub_cancel, List.getElem?_append_right (Nat.le_refl _), Nat.sub_self, List.dropLast_concat, set_top]
  rfl
theorem me_extend {ys : List PyData} {e : CE} (he : evE g e σ (M ++ [xs]) = .ok (.p (.list ys)) (M ++ [xs])) (hl : xs.length + ys.length ≤ sizeLine) : meR1 g .extend [e] σ (.loc M.length) (M ++ [xs]) = .ok (.p .none) (M ++ [xs ++ ys]) := by
  have e1 : meOk (M ++ [xs]) .extend (.loc M.length) = true := rfl
  unfold meR1
  rw [e1, if_pos rfl, e_cons, he, bind_ok, e_nil, bind_ok, bind_ok]
  unfold meR2
  have e2 : opMe (M ++ [xs]) .extend (.loc M.length) [.p (.list ys)] = ((M ++ [xs])[M.length]?).bind fun xs' => if xs'.length + ys.length ≤ sizeLine then some (.p .none, (M ++ [xs]).set M.length (xs' ++ ys)) else none := rfl
  rw [e2, at_top, Option.bind_some, if_pos hl, set_top]
theorem me_append {e : CE} {M2 : Mem} {ys : List PyData} (he : evE g e σ (M ++ [xs]) = .ok (.p d) (M2 ++ [ys])) (hM : M2.length = M.length) (hl : ys.length ≤ 1000000) : meR1 g .append [e] σ (.loc M.length) (M ++ [xs]) = .ok (.p .none) (M2 ++ [ys ++ [d]]) := by
  have e1 : meOk (M ++ [xs]) .append (.loc M.length) = true := rfl
  unfold meR1
  rw [e1, if_pos rfl, e_cons, he, bind_ok, e_nil, bind_ok, bind_ok]
  unfold meR2
  have e2 : opMe (M2 ++ [ys]) .append (.loc M.length) [.p d] = ((M2 ++ [ys])[M.length]?).bind fun xs' => if xs'.length < sizeLine then some (.p .none, (M2 ++ [ys]).set M.length (xs' ++ [d])) else none := rfl
  rw [e2, ← hM, at_top, Option.bind_some, if_pos (Nat.lt_of_le_of_lt hl (by decide)), set_top]
def setR (σ : Sg) (x y v : D) (M : Mem) : Ev.R Fl := match x, y, v with
    | .loc n, .p (.int k), .p d => (match M[n]? with
      | some xs => (match L2.ixN xs.length k with
        | some j => .ok (.nx σ) (M.set n (xs.set j d))
        | none => .bad)
      | none => .bad)
    | _, _, _ => .bad
theorem s_setix {o e1 e2 : CE} : evS g (.setix o e1 e2) σ M = (evE g e2 σ M).bind fun v M1 => (evE g o σ M1).bind fun x M2 => (evE g e1 σ M2).bind fun y M3 => setR σ x y v M3 := Eq.trans rfl rfl
/-! ### slices -/
def slc1 (o : Option (Option Int)) (k : Option Int → R D) : R D := match o with
  | some i => k i
  | none => .bad
theorem slc1_some {i : Option Int} {k : Option Int → R D} : slc1 (some i) k = k i := Eq.trans rfl rfl
theorem optI_nil : optI [] = some none := Eq.trans rfl rfl
theorem optI_one {i : Int} : optI [.p (.int i)] = some (some i) := Eq.trans rfl rfl
theorem e_slc {a : CE} {lo hi : List CE} : evE g (.slc a lo hi) σ M = (evE g a σ M).bind fun x M1 => (evEs g lo σ M1).bind fun l M2 => slc1 (optI l) fun i => (evEs g hi σ M2).bind fun h M3 => slc1 (optI h) fun j => R.opt M3 (opSlc M3 x i j) := by
  conv => lhs; unfold evE
  congr 1
theorem slc_t {i j : Option Int} : opSlc M (.p (.tuple xs)) i j = some (.p (.tuple (cut xs i j))) := Eq.trans rfl rfl
theorem slc_l {i j : Option Int} : opSlc M (.p (.list xs)) i j = some (.p (.list (cut xs i j))) := Eq.trans rfl rfl
theorem slc_s {i j : Option Int} : opSlc M (.scr xs) i j = some (.p (.list (cut xs i j))) := Eq.trans rfl rfl
theorem six_nat {n d k : Nat} (h : k ≤ n) : HT.sIx n d (some (k : Int)) = k := by
  rw [HT.sIx_nat]
  omega
theorem six_big {n d k : Nat} (h : n ≤ k) : HT.sIx n d (some (k : Int)) = n := by
  rw [HT.sIx_nat]
  omega
theorem cut_from {α : Type} {xs : List α} {n : Int} (h : 0 ≤ n ∧ n ≤ xs.length) : cut xs (some n) none = xs.drop n.toNat := by
  obtain ⟨m, rfl⟩ : ∃ m : Nat, n = m := ⟨n.toNat, by omega⟩
  unfold cut
  rw [six_nat (by omega)]
  have e : HT.sIx xs.length xs.length none = xs.length := rfl
  rw [e, ← List.length_drop, List.take_length, Int.toNat_natCast]
theorem cut_to {α : Type} {xs : List α} {n : Int} (h : 0 ≤ n) : cut xs none (some n) = xs.take n.toNat := by
  obtain ⟨m, rfl⟩ : ∃ m : Nat, n = m := ⟨n.toNat, by omega⟩
  unfold cut
  have e : HT.sIx xs.length 0 none = 0 := rfl
  rw [e, List.drop_zero, Nat.sub_zero, Int.toNat_natCast]
  by_cases h : m ≤ xs.length
  · rw [six_nat h]
  · rw [six_big (by omega), List.take_length, List.take_of_length_le (by omega)]
theorem cut_mid {α : Type} {xs : List α} {m n : Int} (h : 0 ≤ m) (h2 : 0 ≤ n) : cut xs (some m) (some n) = (xs.drop m.toNat).take (n.toNat - m.toNat) := by
  obtain ⟨m, rfl⟩ : ∃ k : Nat, m = k := ⟨m.toNat, by omega⟩
  obtain ⟨n, rfl⟩ : ∃ k : Nat, n = k := ⟨n.toNat, by omega⟩
  unfold cut
  rw [HT.sIx_nat, HT.sIx_nat, Int.toNat_natCast, Int.toNat_natCast]
  by_cases h1 : m ≤ xs.length
  · rw [Nat.min_eq_left h1]
    by_cases h2 : n ≤ xs.length
    · rw [Nat.min_eq_left h2]
    · rw [Nat.min_eq_right (Nat.le_of_lt (Nat.lt_of_not_le h2)), ← List.length_drop, List.take_length, List.take_of_length_le (by rw [List.length_drop]; omega)]
  · have e1 : min m xs.length = xs.length := Nat.min_eq_right (Nat.le_of_lt (Nat.lt_of_not_le h1))
    rw [e1, List.drop_eq_nil_of_le (Nat.le_refl _), List.drop_eq_nil_of_le (Nat.le_of_lt (Nat.lt_of_not_le h1)), List.take_nil, List.take_nil]
theorem cut_map {α β : Type} {xs : List α} {m n : Option Int} (f : α → β) : cut (xs.map f) m n = (cut xs m n).map f := by
  unfold cut
  rw [List.length_map, List.map_take, List.map_drop]
/-! ### operators -/
theorem b_modP {i j : Int} (h : 0 < j) : opBin .mod (.int i) (.int j) = some (.int (i % j)) := by
  have e : opBin .mod (.int i) (.int j) = (if decide (j ≠ 0) = true then some (PyData.int (i.fmod j)) else none) := rfl
  rw [e, decide_eq_true (by omega), Int.fmod_eq_emod_of_nonneg _ (by omega)]
  rfl
theorem b_modF {i j : Int} (h : j ≠ 0) : opBin .mod (.int i) (.int j) = some (.int (i.fmod j)) := by
  have e : opBin .mod (.int i) (.int j) = (if decide (j ≠ 0) = true then some (PyData.int (i.fmod j)) else none) := rfl
  rw [e, decide_eq_true h]
  rfl
theorem b_divP {i j : Int} (h : 0 < j) (h2 : j < 18446744073709551616) : opBin .div (.int i) (.int j) = some (.int (i / j)) := by
  have e : opBin .div (.int i) (.int j) = (if decide (j ≠ 0 ∧ j.natAbs < 18446744073709551616) = true then some (PyData.int (i.fdiv j)) else none) := rfl
  rw [e, decide_eq_true ⟨by omega, by omega⟩, Int.fdiv_eq_ediv_of_nonneg _ (by omega)]
  rfl
theorem b_divF {i j : Int} (h : j ≠ 0) (h2 : -18446744073709551616 < j ∧ j < 18446744073709551616) : opBin .div (.int i) (.int j) = some (.int (i.fdiv j)) := by
  have e : opBin .div (.int i) (.int j) = (if decide (j ≠ 0 ∧ j.natAbs < 18446744073709551616) = true then some (PyData.int (i.fdiv j)) else none) := rfl
  rw [e, decide_eq_true ⟨h, by omega⟩]
  rfl
theorem b_mulL {i j : Int} (h : -18446744073709551616 < i ∧ i < 18446744073709551616) : opBin .mul (.int i) (.int j) = some (.int (i * j)) := by
  have e : opBin .mul (.int i) (.int j) = (if (smallF i || smallF j) = true then some (PyData.int (i * j)) else none) := rfl
  have e2 : smallF i = true := by
    unfold smallF
    exact decide_eq_true (by omega)
  rw [e, e2]
  rfl
theorem b_mulR {i j : Int} (h : -18446744073709551616 < j ∧ j < 18446744073709551616) : opBin .mul (.int i) (.int j) = some (.int (i * j)) := by
  have e : opBin .mul (.int i) (.int j) = (if (smallF i || smallF j) = true then some (PyData.int (i * j)) else none) := rfl
  have e2 : smallF j = true := by
    unfold smallF
    exact decide_eq_true (by omega)
  rw [e, e2, Bool.or_true]
  rfl
theorem b_pow18 : opBin .pow (.int 10) (.int 18) = some (.int 1000000000000000000) := by
  have e : opBin .pow (.int 10) (.int 18) = (if decide (0 ≤ (18 : Int) ∧ (18 : Int) ≤ 1000000 ∧ (10 : Int).natAbs < 2 ^ 64) = true then some (PyData.int ((10 : Int) ^ (Int.toNat 18))) else none) := rfl
  rw [e, if_pos (by decide)]
  rfl
theorem b_pow9 : opBin .pow (.int 10) (.int 9) = some (.int 1000000000) := by
  have e : opBin .pow (.int 10) (.int 9) = (if decide (0 ≤ (9 : Int) ∧ (9 : Int) ≤ 1000000 ∧ (10 : Int).natAbs < 2 ^ 64) = true then some (PyData.int ((10 : Int) ^ (Int.toNat 9))) else none) := rfl
  rw [e, if_pos (by decide)]
  rfl
theorem b_pow36 : opBin .pow (.int 10) (.int 36) = some (.int 1000000000000000000000000000000000000) := by
  have e : opBin .pow (.int 10) (.int 36) = (if decide (0 ≤ (36 : Int) ∧ (36 : Int) ≤ 1000000 ∧ (10 : Int).natAbs < 2 ^ 64) = true then some (PyData.int ((10 : Int) ^ (Int.toNat 36))) else none) := rfl
  rw [e, if_pos (by decide)]
  rfl
theorem e_neg {a : CE} : evE g (.neg a) σ M = (evE g a σ M).bind fun x M1 => match x with
    | .p (.int i) => .ok (.p (.int (-i))) M1
    | _ => .bad := Eq.trans rfl rfl
theorem negI {i : Int} {M : Mem} : (match (D.p (.int i)) with
    | .p (.int i) => R.ok (D.p (.int (-i))) M
    | _ => .bad) = .ok (.p (.int (-i))) M := rfl
@[simp] theorem cmp_bool (a b : Bool) : opCmp .eq (.bool a) (.bool b) = some (decide (a = b)) := by
  cases a <;> cases b <;> rfl
@[simp] theorem cmpne_bool (a b : Bool) : opCmp .ne (.bool a) (.bool b) = some (!decide (a = b)) := by
  cases a <;> cases b <;> rfl
@[simp] theorem cmpne_int (a b : Int) : opCmp .ne (.int a) (.int b) = some (!decide (a = b)) := Eq.trans rfl rfl
theorem cmp_is (a b : Bool) : opCmp .is_ (.bool a) (.bool b) = some (a == b) := Eq.trans rfl rfl
theorem cmp_isnot (a b : Bool) : opCmp .isnot (.bool a) (.bool b) = some (a != b) := Eq.trans rfl rfl
theorem isNR_none : isNR (.p .none) M = .ok (.p (.bool true)) M := Eq.trans rfl rfl
theorem isNR_int {i : Int} : isNR (.p (.int i)) M = .ok (.p (.bool false)) M := Eq.trans rfl rfl
theorem isNR_tup : isNR (.p (.tuple xs)) M = .ok (.p (.bool false)) M := Eq.trans rfl rfl
theorem notNR_none : notNR (.p .none) M = .ok (.p (.bool false)) M := Eq.trans rfl rfl
theorem notNR_int {i : Int} : notNR (.p (.int i)) M = .ok (.p (.bool true)) M := Eq.trans rfl rfl
theorem bi_tup_t : opBi M .tuple [.p (.tuple xs)] = some (.p (.tuple xs)) := Eq.trans rfl rfl
theorem bi_list_l : opBi M .list [.p (.list xs)] = some (.p (.list xs)) := Eq.trans rfl rfl
theorem bi_lrange {i j : Int} (h : 0 ≤ i ∧ i ≤ 16777216) (h2 : 0 ≤ j ∧ j ≤ 16777216) : opBi M .lrange [.p (.int i), .p (.int j)] = some (.p (.list (rng i (j - i).toNat))) := by
  have e : opBi M .lrange [.p (.int i), .p (.int j)] = (if decide (0 ≤ i ∧ i ≤ 16777216 ∧ 0 ≤ j ∧ j ≤ 16777216) = true then some (D.p (.list (rng i (j - i).toNat))) else none) := rfl
  rw [e, decide_eq_true ⟨h.1, h.2, h2.1, h2.2⟩]
  rfl
theorem abs_int (i : Int) : (if i < 0 then -i else i) = (i.natAbs : Int) := by
  split <;> omega
theorem max_int (i j : Int) : (if j > i then j else i) = max i j := by
  split <;> omega
theorem min_int (i j : Int) : (if j < i then j else i) = min i j := by
  split <;> omega
theorem ty_int {i : Int} {t : Ty} : isTys (.p (.int i)) [t] = some (decide (t = .int)) := by cases t <;> rfl
theorem ty_tup {t : Ty} : isTys (.p (.tuple xs)) [t] = some (decide (t = .tuple)) := by cases t <;> rfl
theorem ty_none {t : Ty} : isTys (.p .none) [t] = some false := by cases t <;> rfl
theorem ty_bool {b : Bool} {t : Ty} : isTys (.p (.bool b)) [t] = some (decide (t = .int) || decide (t = .bool)) := by cases t <;> rfl
/-! ### lists of ints, of bools -/
def gi (xs : List Int) (i : Int) : Int := xs.getD i.toNat 0
def gb (xs : List Bool) (i : Int) : Bool := xs.getD i.toNat false
theorem atI_ints {xs : List Int} {i : Int} (h : 0 ≤ i) (h2 : i < xs.length) : L2.atI (xs.map PyData.int) i = some (.int (gi xs i)) := by
  have hl : i.toNat < xs.length := by omega
  rw [atI_int h, List.getElem?_map, List.getElem?_eq_getElem hl]
  unfold gi
  rw [List.getD_eq_getElem?_getD, List.getElem?_eq_getElem hl]
  rfl
theorem atI_bls {xs : List Bool} {i : Int} (h : 0 ≤ i) (h2 : i < xs.length) : L2.atI (xs.map PyData.bool) i = some (.bool (gb xs i)) := by
  have hl : i.toNat < xs.length := by omega
  rw [atI_int h, List.getElem?_map, List.getElem?_eq_getElem hl]
  unfold gb
  rw [List.getD_eq_getElem?_getD, List.getElem?_eq_getElem hl]
  rfl
theorem atI_neg {α : Type} {xs : List α} {i : Int} (h : i < 0) (h2 : -(xs.length : Int) ≤ i) : L2.atI xs i = L2.atI xs (i + xs.length) := by
  unfold L2.atI L2.ixN
  have a1 : ¬ (0 ≤ i) := by omega
  have a2 : (0 : Int) ≤ i + xs.length := by omega
  have a3 : i + (xs.length : Int) < xs.length := by omega
  simp [a1, a2, a3, h2]
def rowP (f : Int → PyData) (lo hi : Int) : List PyData := (List.range (hi - lo).toNat).map fun (k : Nat) => f (lo + k)
def rowI (f : Int → Int) (lo hi : Int) : List Int := (List.range (hi - lo).toNat).map fun (k : Nat) => f (lo + k)
def rowB (f : Int → Bool) (lo hi : Int) : List Bool := (List.range (hi - lo).toNat).map fun (k : Nat) => f (lo + k)
theorem atI_head {α : Type} {x : α} {r : List α} : L2.atI (x :: r) 0 = some x := by
  rw [atI_int (Int.le_refl 0)]
  rfl
theorem rowP_int {f : Int → Int} {lo hi : Int} : rowP (fun n => .int (f n)) lo hi = (rowI f lo hi).map .int := by
  unfold rowP rowI
  rw [List.map_map]
  rfl
theorem rowP_bool {f : Int → Bool} {lo hi : Int} : rowP (fun n => .bool (f n)) lo hi = (rowB f lo hi).map .bool := by
  unfold rowP rowB
  rw [List.map_map]
  rfl
theorem len_rowP {f : Int → PyData} {lo hi : Int} : (rowP f lo hi).length = (hi - lo).toNat := by simp [rowP]
theorem len_rowI {f : Int → Int} {lo hi : Int} : (rowI f lo hi).length = (hi - lo).toNat := by simp [rowI]
theorem len_rowB {f : Int → Bool} {lo hi : Int} : (rowB f lo hi).length = (hi - lo).toNat := by simp [rowB]
theorem gi_row {f : Int → Int} {lo hi i : Int} (h : 0 ≤ i) (h2 : i < hi - lo) : gi (rowI f lo hi) i = f (lo + i) := by
  unfold gi rowI
  rw [List.getD_eq_getElem?_getD, List.getElem?_map, List.getElem?_range (by omega)]
  show f (lo + (i.toNat : Nat)) = _
  congr 1
  omega
theorem gb_row {f : Int → Bool} {lo hi i : Int} (h : 0 ≤ i) (h2 : i < hi - lo) : gb (rowB f lo hi) i = f (lo + i) := by
  unfold gb rowB
  rw [List.getD_eq_getElem?_getD, List.getElem?_map, List.getElem?_range (by omega)]
  show f (lo + (i.toNat : Nat)) = _
  congr 1
  omega
theorem row_congr {f g : Int → Int} {lo hi : Int} (h : ∀ n, lo ≤ n → n < hi → f n = g n) : rowI f lo hi = rowI g lo hi := by
  unfold rowI
  refine List.map_congr_left fun k hk => h _ (by omega) ?_
  have := List.mem_range.mp hk
  omega
theorem rowB_congr {f g : Int → Bool} {lo hi : Int} (h : ∀ n, lo ≤ n → n < hi → f n = g n) : rowB f lo hi = rowB g lo hi := by
  unfold rowB
  refine List.map_congr_left fun k hk => h _ (by omega) ?_
  have := List.mem_range.mp hk
  omega
/-- a list of ints is the row of its own items -/
theorem row_self {xs : List Int} {n : Int} (h : (xs.length : Int) = n) : rowI (gi xs) 0 n = xs := by
  refine List.ext_getElem (by rw [len_rowI]; omega) fun j h1 h2 => ?_
  have e : (rowI (gi xs) 0 n).getD (j : Int).toNat 0 = xs.getD (0 + (j : Int)).toNat 0 := gi_row (f := gi xs) (lo := 0) (hi := n) (i := (j : Int)) (by omega) (by omega)
  rw [Int.toNat_natCast, Int.zero_add, List.getD_eq_getElem?_getD, List.getElem?_eq_getElem h1, List.getD_eq_getElem?_getD, Int.toNat_natCast, List.getElem?_eq_getElem h2] at e
  exact e
/-! ### comprehensions -/
theorem it_r2 {i j : Int} (h : -1000000000 ≤ i ∧ i ≤ 1000000000) (h2 : -1000000000 ≤ j ∧ j ≤ 1000000000) : itemsI M .range [.p (.int i), .p (.int j)] = some (rng i (j - i).toNat) := it_rng2 (small_int h.1 h.2) (small_int h2.1 h2.2)
theorem it_r1 {j : Int} (h2 : -1000000000 ≤ j ∧ j ≤ 1000000000) : itemsI M .range [.p (.int j)] = some (rng 0 j.toNat) := it_rng1 (small_int h2.1 h2.2)
theorem it_t : itemsI M .seq [.p (.tuple xs)] = some xs := Eq.trans rfl rfl
theorem it_l : itemsI M .seq [.p (.list xs)] = some xs := Eq.trans rfl rfl
theorem rng_row {lo hi : Int} {f : Int → PyData} {fx : PyData → PyData} (h : ∀ n, lo ≤ n → n < hi → fx (.int n) = f n) : (rng lo (hi - lo).toNat).map fx = rowP f lo hi := by
  rw [rng_map]
  unfold rowP
  refine List.map_congr_left fun k hk => h _ (by omega) ?_
  have := List.mem_range.mp hk
  omega
/-- over range(lo, hi) -/
theorem comp_r2 {lo hi : Int} (f : Int → PyData) (hargs : evEs g args σ M = .ok [.p (.int lo), .p (.int hi)] M) (hb : -1000000000 ≤ lo ∧ lo ≤ 1000000000 ∧ -1000000000 ≤ hi ∧ hi ≤ 1000000000) (hb2 : hi - lo ≤ 1000000)
    (hf : ∀ n, lo ≤ n → n < hi → ∀ M', evE g elt ((wipe σ own).set i (some (.p (.int n)))) M' = .ok (.p (f n)) M') : evE g (.comp (.one i) .range args [] own elt) σ M = .ok (.p (.list (rowP f lo hi))) M := by
  have bz : 1000000 ≤ sizeLine := by decide
  rw [comp_one hargs (it_r2 ⟨hb.1, hb.2.1⟩ hb.2.2) (by rw [rng_length]; omega) (f := fun x => match x with | .int n => f n | _ => .none)]
  · rw [rng_row (f := f)]
    intro n _ _
    rfl
  · intro x hx M'
    obtain ⟨k, hk, rfl⟩ := rng_mem hx
    exact hf _ (by omega) (by omega) M'
theorem comp_r1 {hi : Int} (f : Int → PyData) (hargs : evEs g args σ M = .ok [.p (.int hi)] M) (hb : -1000000000 ≤ hi ∧ hi ≤ 1000000)
    (hf : ∀ n, 0 ≤ n → n < hi → ∀ M', evE g elt ((wipe σ own).set i (some (.p (.int n)))) M' = .ok (.p (f n)) M') : evE g (.comp (.one i) .range args [] own elt) σ M = .ok (.p (.list (rowP f 0 hi))) M := by
  have bz : 1000000 ≤ sizeLine := by decide
  rw [comp_one hargs (it_r1 ⟨hb.1, by omega⟩) (by rw [rng_length]; omega) (f := fun x => match x with | .int n => f n | _ => .none)]
  · have e : (hi - 0).toNat = hi.toNat := by rw [Int.sub_zero]
    rw [← e, rng_row (f := f)]
    intro n _ _
    rfl
  · intro x hx M'
    obtain ⟨k, hk, rfl⟩ := rng_mem hx
    exact hf _ (by omega) (by omega) M'
/-- the numbers of a stretch that a test lets -/
def filI (p : Int → Bool) (lo hi : Int) : List Int := ((List.range (hi - lo).toNat).filter fun k => p (lo + (k : Nat))).map fun k => lo + (k : Nat)
theorem comp_f2 {lo hi : Int} (p : Int → Bool) (f : Int → PyData) (hargs : evEs g args σ M = .ok [.p (.int lo), .p (.int hi)] M) (hb : -1000000000 ≤ lo ∧ lo ≤ 1000000000 ∧ -1000000000 ≤ hi ∧ hi ≤ 1000000000) (hb2 : hi - lo ≤ 1000000)
    (hp : ∀ n, lo ≤ n → n < hi → ∀ M', evE g cond ((wipe σ own).set i (some (.p (.int n)))) M' = .ok (.p (.bool (p n))) M')
    (hf : ∀ n, lo ≤ n → n < hi → p n = true → ∀ M', evE g elt ((wipe σ own).set i (some (.p (.int n)))) M' = .ok (.p (f n)) M') : evE g (.comp (.one i) .range args [cond] own elt) σ M = .ok (.p (.list ((filI p lo hi).map f))) M := by
  have bz : 1000000 ≤ sizeLine := by decide
  rw [comp_if hargs (it_r2 ⟨hb.1, hb.2.1⟩ hb.2.2) (by rw [rng_length]; omega) (f := fun x => match x with | .int n => f n | _ => .none) (p := fun x => match x with | .int n => p n | _ => false)]
  · unfold rng filI
    rw [List.filter_map, List.map_map, List.map_map]
    rfl
  · intro x hx M'
    obtain ⟨k, hk, rfl⟩ := rng_mem hx
    exact hp _ (by omega) (by omega) M'
  · intro x hx hpx M'
    obtain ⟨k, hk, rfl⟩ := rng_mem hx
    exact hf _ (by omega) (by omega) hpx M'
theorem comp_f1 {hi : Int} (p : Int → Bool) (f : Int → PyData) (hargs : evEs g args σ M = .ok [.p (.int hi)] M) (hb : -1000000000 ≤ hi ∧ hi ≤ 1000000)
    (hp : ∀ n, 0 ≤ n → n < hi → ∀ M', evE g cond ((wipe σ own).set i (some (.p (.int n)))) M' = .ok (.p (.bool (p n))) M')
    (hf : ∀ n, 0 ≤ n → n < hi → p n = true → ∀ M', evE g elt ((wipe σ own).set i (some (.p (.int n)))) M' = .ok (.p (f n)) M') : evE g (.comp (.one i) .range args [cond] own elt) σ M = .ok (.p (.list ((filI p 0 hi).map f))) M := by
  have bz : 1000000 ≤ sizeLine := by decide
  rw [comp_if hargs (it_r1 ⟨hb.1, by omega⟩) (by rw [rng_length]; omega) (f := fun x => match x with | .int n => f n | _ => .none) (p := fun x => match x with | .int n => p n | _ => false)]
  · unfold rng filI
    rw [List.filter_map, List.map_map, List.map_map, Int.sub_zero]
    rfl
  · intro x hx M'
    obtain ⟨k, hk, rfl⟩ := rng_mem hx
    exact hp _ (by omega) (by omega) M'
  · intro x hx hpx M'
    obtain ⟨k, hk, rfl⟩ := rng_mem hx
    exact hf _ (by omega) (by omega) hpx M'
/-- over a list of ints -/
theorem comp_ints {xs : List Int} {it : It} (f : Int → PyData) (hargs : evEs g args σ M = .ok ds M) (hit : itemsI M it ds = some (xs.map .int)) (hl : xs.length ≤ 1000000)
    (hf : ∀ n ∈ xs, ∀ M', evE g elt ((wipe σ own).set i (some (.p (.int n)))) M' = .ok (.p (f n)) M') : evE g (.comp (.one i) it args [] own elt) σ M = .ok (.p (.list (xs.map f))) M := by
  have bz : 1000000 ≤ sizeLine := by decide
  rw [comp_one hargs hit (by rw [List.length_map]; omega) (f := fun x => match x with | .int n => f n | _ => .none)]
  · rw [List.map_map]
    rfl
  · intro x hx M'
    obtain ⟨n, hn, rfl⟩ := List.mem_map.mp hx
    exact hf n hn M'
theorem comp_bls {xs : List Bool} {it : It} (f : Bool → PyData) (hargs : evEs g args σ M = .ok ds M) (hit : itemsI M it ds = some (xs.map .bool)) (hl : xs.length ≤ 1000000)
    (hf : ∀ n ∈ xs, ∀ M', evE g elt ((wipe σ own).set i (some (.p (.bool n)))) M' = .ok (.p (f n)) M') : evE g (.comp (.one i) it args [] own elt) σ M = .ok (.p (.list (xs.map f))) M := by
  have bz : 1000000 ≤ sizeLine := by decide
  rw [comp_one hargs hit (by rw [List.length_map]; omega) (f := fun x => match x with | .bool n => f n | _ => .none)]
  · rw [List.map_map]
    rfl
  · intro x hx M'
    obtain ⟨n, hn, rfl⟩ := List.mem_map.mp hx
    exact hf n hn M'
theorem comp_intsF {xs : List Int} {it : It} (p : Int → Bool) (f : Int → PyData) (hargs : evEs g args σ M = .ok ds M) (hit : itemsI M it ds = some (xs.map .int)) (hl : xs.length ≤ 1000000)
    (hp : ∀ n ∈ xs, ∀ M', evE g cond ((wipe σ own).set i (some (.p (.int n)))) M' = .ok (.p (.bool (p n))) M')
    (hf : ∀ n ∈ xs, p n = true → ∀ M', evE g elt ((wipe σ own).set i (some (.p (.int n)))) M' = .ok (.p (f n)) M') : evE g (.comp (.one i) it args [cond] own elt) σ M = .ok (.p (.list ((xs.filter p).map f))) M := by
  have bz : 1000000 ≤ sizeLine := by decide
  rw [comp_if hargs hit (by rw [List.length_map]; omega) (f := fun x => match x with | .int n => f n | _ => .none) (p := fun x => match x with | .int n => p n | _ => false)]
  · rw [List.filter_map, List.map_map]
    rfl
  · intro x hx M'
    obtain ⟨n, hn, rfl⟩ := List.mem_map.mp hx
    exact hp n hn M'
  · intro x hx hpx M'
    obtain ⟨n, hn, rfl⟩ := List.mem_map.mp hx
    exact hf n hn hpx M'
/-- over a tuple, a list -/
theorem comp_tI {xs : List Int} {a : CE} (f : Int → PyData) (hargs : evE g a σ M = .ok (.p (.tuple (xs.map .int))) M) (hl : xs.length ≤ 1000000)
    (hf : ∀ n ∈ xs, ∀ M', evE g elt ((wipe σ own).set i (some (.p (.int n)))) M' = .ok (.p (f n)) M') : evE g (.comp (.one i) .seq [a] [] own elt) σ M = .ok (.p (.list (xs.map f))) M :=
  comp_ints f (ds := [.p (.tuple (xs.map .int))]) (by rw [e_cons, hargs, bind_ok, e_nil, bind_ok]) rfl hl hf
theorem comp_lI {xs : List Int} {a : CE} (f : Int → PyData) (hargs : evE g a σ M = .ok (.p (.list (xs.map .int))) M) (hl : xs.length ≤ 1000000)
    (hf : ∀ n ∈ xs, ∀ M', evE g elt ((wipe σ own).set i (some (.p (.int n)))) M' = .ok (.p (f n)) M') : evE g (.comp (.one i) .seq [a] [] own elt) σ M = .ok (.p (.list (xs.map f))) M :=
  comp_ints f (ds := [.p (.list (xs.map .int))]) (by rw [e_cons, hargs, bind_ok, e_nil, bind_ok]) rfl hl hf
theorem comp_tB {xs : List Bool} {a : CE} (f : Bool → PyData) (hargs : evE g a σ M = .ok (.p (.tuple (xs.map .bool))) M) (hl : xs.length ≤ 1000000)
    (hf : ∀ n ∈ xs, ∀ M', evE g elt ((wipe σ own).set i (some (.p (.bool n)))) M' = .ok (.p (f n)) M') : evE g (.comp (.one i) .seq [a] [] own elt) σ M = .ok (.p (.list (xs.map f))) M :=
  comp_bls f (ds := [.p (.tuple (xs.map .bool))]) (by rw [e_cons, hargs, bind_ok, e_nil, bind_ok]) rfl hl hf
theorem comp_lIF {xs : List Int} {a : CE} (p : Int → Bool) (f : Int → PyData) (hargs : evE g a σ M = .ok (.p (.list (xs.map .int))) M) (hl : xs.length ≤ 1000000)
    (hp : ∀ n ∈ xs, ∀ M', evE g cond ((wipe σ own).set i (some (.p (.int n)))) M' = .ok (.p (.bool (p n))) M')
    (hf : ∀ n ∈ xs, p n = true → ∀ M', evE g elt ((wipe σ own).set i (some (.p (.int n)))) M' = .ok (.p (f n)) M') : evE g (.comp (.one i) .seq [a] [cond] own elt) σ M = .ok (.p (.list ((xs.filter p).map f))) M :=
  comp_intsF p f (ds := [.p (.list (xs.map .int))]) (by rw [e_cons, hargs, bind_ok, e_nil, bind_ok]) rfl hl hp hf
/-! ### all -/
theorem all_row {f : Int → Bool} {lo hi : Int} : opBi M .all [.p (.list ((rowB f lo hi).map .bool))] = some (.p (.bool ((rowB f lo hi).all id))) := bi_all_l
theorem rowB_all {f : Int → Bool} {lo hi : Int} : (rowB f lo hi).all id = true ↔ ∀ n, lo ≤ n → n < hi → f n = true := by
  unfold rowB
  rw [List.all_map, List.all_eq_true]
  constructor
  · intro h n h1 h2
    have := h (n - lo).toNat (List.mem_range.mpr (by omega))
    have e : lo + ((n - lo).toNat : Int) = n := by omega
    simp only [Function.comp, e] at this
    exact this
  · intro h k hk
    have := List.mem_range.mp hk
    exact h _ (by omega) (by omega)
theorem evSs_append {ss ts : List CS} : ∀ {σ : Sg} {M : Mem}, evSs g (ss ++ ts) σ M = (evSs g ss σ M).bind fun f M1 => seqR f (evSs g ts) M1 := by
  induction ss with
  | nil => intro σ M; rfl
  | cons a ss ih =>
    intro σ M
    rw [List.cons_append, s_cons, s_cons]
    cases evS g a σ M with
    | ok f M1 =>
      cases f with
      | nx σ1 =>
        rw [bind_ok, seq_nx, ih, bind_ok, seq_nx]
      | ret d => rfl
      | brk s => rfl
      | cont s => rfl
    | exc x M1 => rfl
    | bad => rfl
theorem evSs_app {ss : List CS} (n : Nat) {σ : Sg} {M : Mem} : evSs g ss σ M = (evSs g (ss.take n) σ M).bind fun f M1 => seqR f (evSs g (ss.drop n)) M1 := by
  rw [← evSs_append, List.take_append_drop]
/-! ### for -/
theorem for_rngQ {tg : Nat} {b : List CS} {Q : R Fl → Prop} {hi : Int} (I : Int → Sg → Mem → Prop) (fin : ∀ σ M, I hi σ M → Q (.ok (.nx σ) M)) (step : ∀ n σ M, n < hi → I n σ M →
    (∃ σ' M', (evSs g b (σ.set tg (some (.p (.int n)))) M = .ok (.nx σ') M' ∨ evSs g b (σ.set tg (some (.p (.int n)))) M = .ok (.cont σ') M') ∧ I (n + 1) σ' M') ∨ (∃ d M', evSs g b (σ.set tg (some (.p (.int n)))) M = .ok (.ret d) M' ∧ Q (.ok (.ret d) M')) ∨
    ∃ σ' M', evSs g b (σ.set tg (some (.p (.int n)))) M = .ok (.brk σ') M' ∧ Q (.ok (.nx σ') M')) :
    ∀ (m : Nat) (lo : Int) (σ : Sg) (M : Mem), hi = lo + m → I lo σ M → Q (forG g (.one tg) b (rng lo m) σ M)
  | 0, lo, σ, M, h, h0 => by
    have e : lo = hi := by omega
    subst e
    exact fin σ M h0
  | m + 1, lo, σ, M, h, h0 => by
    have e : rng lo (m + 1) = .int lo :: rng (lo + 1) m := by
      unfold rng
      rw [List.range_succ_eq_map, List.map_cons, List.map_map]
      congr 1
      · show PyData.int (lo + ((0 : Nat) : Int)) = _
        rw [Int.natCast_zero, Int.add_zero]
      · refine List.map_congr_left fun k _ => ?_
        show PyData.int (lo + ((k + 1 : Nat) : Int)) = PyData.int (lo + 1 + (k : Int))
        congr 1
        omega
    rw [e, forG_cons (σ1 := σ.set tg (some (.p (.int lo)))) rfl]
    rcases step lo σ M (by omega) h0 with ⟨σ', M', h1 | h1, h2⟩ | ⟨d, M', h1, h2⟩ | ⟨σ', M', h1, h2⟩
    · rw [h1, bind_ok, forK_nx]
      exact for_rngQ I fin step m (lo + 1) σ' M' (by omega) h2
    · rw [h1, bind_ok]
      exact for_rngQ I fin step m (lo + 1) σ' M' (by omega) h2
    · rw [h1, bind_ok, forK_ret]
      exact h2
    · rw [h1, bind_ok, forK_brk]
      exact h2
/-- a loop over a stretch that only steps on -/
theorem for_rng {tg : Nat} {b : List CS} {lo hi : Int} (I : Int → Sg → Mem → Prop) (hlo : lo ≤ hi) (h0 : I lo σ M) (step : ∀ n σ M, lo ≤ n → n < hi → I n σ M → ∃ σ' M', evSs g b (σ.set tg (some (.p (.int n)))) M = .ok (.nx σ') M' ∧ I (n + 1) σ' M') :
    ∃ σ' M', forG g (.one tg) b (rng lo (hi - lo).toNat) σ M = .ok (.nx σ') M' ∧ I hi σ' M' :=
  for_rngQ (Q := fun r => ∃ σ' M', r = .ok (.nx σ') M' ∧ I hi σ' M') (fun n σ M => lo ≤ n ∧ I n σ M) (fun σ M h => ⟨σ, M, rfl, h.2⟩) (fun n σ M h1 h2 => by
    obtain ⟨σ', M', e, h3⟩ := step n σ M h2.1 h1 h2.2
    exact .inl ⟨σ', M', .inl e, by omega, h3⟩) (hi - lo).toNat lo σ M (by omega) ⟨Int.le_refl _, h0⟩
/-- a loop downwards -/
def dn (i : Int) (m : Nat) : List PyData := (List.range m).map fun (k : Nat) => .int (i - k)
theorem it_dn {i j : Int} (h : -1000000000 ≤ i ∧ i ≤ 1000000000) (h2 : -1000000000 ≤ j ∧ j ≤ 1000000000) : itemsI M .range [.p (.int i), .p (.int j), .p (.int (-1))] = some (dn i (i - j).toNat) := by
  show (if (small62 i && small62 j && decide ((-1 : Int) = -1)) = true then some (dn i (i - j).toNat) else none) = _
  rw [small_int h.1 h.2, small_int h2.1 h2.2]
  rfl
theorem dn_succ {i : Int} {m : Nat} : dn i (m + 1) = .int i :: dn (i - 1) m := by
  unfold dn
  rw [List.range_succ_eq_map, List.map_cons, List.map_map]
  congr 1
  · show PyData.int (i - ((0 : Nat) : Int)) = _
    rw [Int.natCast_zero, Int.sub_zero]
  · refine List.map_congr_left fun k _ => ?_
    show PyData.int (i - ((k + 1 : Nat) : Int)) = PyData.int (i - 1 - (k : Int))
    congr 1
    omega
theorem for_dn {tg : Nat} {b : List CS} {lo : Int} (I : Int → Sg → Mem → Prop) (step : ∀ n σ M, lo < n → I n σ M → ∃ σ' M', evSs g b (σ.set tg (some (.p (.int n)))) M = .ok (.nx σ') M' ∧ I (n - 1) σ' M') :
    ∀ (m : Nat) (hi : Int) (σ : Sg) (M : Mem), hi = lo + m → I hi σ M → ∃ σ' M', forG g (.one tg) b (dn hi m) σ M = .ok (.nx σ') M' ∧ I lo σ' M'
  | 0, hi, σ, M, h, h0 => by
    have e : hi = lo := by omega
    subst e
    exact ⟨σ, M, rfl, h0⟩
  | m + 1, hi, σ, M, h, h0 => by
    rw [dn_succ, forG_cons (σ1 := σ.set tg (some (.p (.int hi)))) rfl]
    obtain ⟨σ', M', h1, h2⟩ := step hi σ M (by omega) h0
    rw [h1, bind_ok, forK_nx]
    exact for_dn I step m (hi - 1) σ' M' (by omega) h2
/-! ### while -/
theorem whl_I {c : CE} {b : List CS} {n : Nat} (I : Nat → Sg → Mem → Prop) (P : Sg → Mem → Prop) (h0 : ∃ m, m < n ∧ I m σ M) (step : ∀ m σ M, I m σ M → (evE g c σ M = .ok (.p (.bool false)) M ∧ P σ M) ∨ ∃ σ' M' k, k < m ∧ evE g c σ M = .ok (.p (.bool true)) M ∧ evSs g b σ M = .ok (.nx σ') M' ∧ I k σ' M') :
    ∃ σ' M', whG g c b n σ M = .ok (.nx σ') M' ∧ P σ' M' := by
  induction n generalizing σ M with
  | zero =>
    obtain ⟨m, h, _⟩ := h0
    omega
  | succ n ih =>
    obtain ⟨m, hm, hI⟩ := h0
    rcases step m σ M hI with ⟨h1, h2⟩ | ⟨σ', M', k, hk, h1, h2, h3⟩
    · exact ⟨σ, M, whG_stop h1, h2⟩
    · obtain ⟨σ2, M2, h4, h5⟩ := ih (σ := σ') (M := M') ⟨k, by omega, h3⟩
      exact ⟨σ2, M2, by rw [whG_go h1 h2, h4], h5⟩
end
end Pg

end

/-! ## Bd -/
section
set_option Elab.async false
set_option linter.all false
set_option maxRecDepth 100000
set_option maxHeartbeats 1000000
/-! raise, try. -/
namespace Pg
open PySem hiding run start
open Ev
section
variable {g : G} {σ : Sg} {M : Mem} {α β : Type} {x : Xc}
def raiseR (c : Nat) (o : Option (List PyData)) (M : Mem) : R Fl := match o with
  | some xs => .exc ⟨c, xs⟩ M
  | none => .bad
@[simp] theorem raiseR_some {c : Nat} {xs : List PyData} : raiseR c (some xs) M = .exc ⟨c, xs⟩ M := Eq.trans rfl rfl
theorem s_raise {c : Nat} {es : List CE} : evS g (.raise c es) σ M = (evEs g es σ M).bind fun ds M1 => raiseR c (allP ds) M1 := Eq.trans rfl rfl
def tryR (hs : List Hn) (r : R Fl) : R Fl := match r with
  | .ok f M1 => .ok f M1
  | .exc x M1 => hns x M1 hs
  | .bad => .bad
@[simp] theorem tryR_ok {hs : List Hn} {f : Fl} : tryR hs (.ok f M) = .ok f M := Eq.trans rfl rfl
@[simp] theorem tryR_exc {hs : List Hn} : tryR hs (.exc x M) = hns x M hs := Eq.trans rfl rfl
theorem s_try {b : List CS} {hs : List Hn} : evS g (.try_ b hs) σ M = tryR hs (evSs g b σ M) := Eq.trans rfl rfl
@[simp] theorem bind_exc {k : α → Mem → R β} : (R.exc x M : R α).bind k = .exc x M := Eq.trans rfl rfl
@[simp] theorem tst_exc {k : Bool → Mem → R α} : (R.exc x M : R D).tst k = .exc x M := Eq.trans rfl rfl
@[simp] theorem finF_exc {n : Nat} {r : Bool} : finF n r (.exc x M) = .exc x (M.take n) := Eq.trans rfl rfl
@[simp] theorem finE_exc {n : Nat} : finE n (.exc x M) = .exc x (M.take n) := Eq.trans rfl rfl
end
end Pg

end

/-! ## Be -/
section
set_option Elab.async false
set_option linter.all false
set_option maxRecDepth 100000
set_option maxHeartbeats 1000000
/-! Constants, written dicts, dicts of the memory, slices from behind. -/
namespace Pg
open PySem hiding run start
open Ev
section
variable {g : G} {σ : Sg} {M : Mem} {a b : CE} {d : PyData}
theorem e_con : evE g (.con d) σ M = .ok (.p d) M := Eq.trans rfl rfl
theorem e_rev : evE g (.rev a) σ M = (evE g a σ M).bind fun x M1 => R.opt M1 ((itemsL M1 x).map fun xs => .p (.list xs.reverse)) := Eq.trans rfl rfl
def revnR (x y : D) (M : Mem) : R D := match y with
  | .p (.int i) => if decide (0 ≤ i) then R.opt M ((itemsL M x).map fun xs => .p (.list (xs.take (i.toNat + 1)).reverse)) else .bad
  | _ => .bad
theorem e_revn : evE g (.revn a b) σ M = (evE g a σ M).bind fun x M1 => (evE g b σ M1).bind fun y M2 => revnR x y M2 := Eq.trans rfl rfl
theorem revnR_l {xs : List PyData} {i : Int} (h : 0 ≤ i) : revnR (.p (.list xs)) (.p (.int i)) M = .ok (.p (.list (xs.take (i.toNat + 1)).reverse)) M := by
  show (if decide (0 ≤ i) = true then _ else _) = _
  rw [decide_eq_true h]
  rfl
theorem itL_l {xs : List PyData} : itemsL M (.p (.list xs)) = some xs := Eq.trans rfl rfl
def wgetR (kvs : List (Str × PyData)) (x : D) (M : Mem) : R D := match x with
  | .p (.str s) => R.opt M ((kvs.lookup s).map D.p)
  | _ => .bad
theorem e_wget {kvs : List (Str × PyData)} : evE g (.wget kvs a) σ M = (evE g a σ M).bind (wgetR kvs) := Eq.trans rfl rfl
theorem wgetR_s {kvs : List (Str × PyData)} {s : Str} : wgetR kvs (.p (.str s)) M = R.opt M ((kvs.lookup s).map D.p) := Eq.trans rfl rfl
def winR (neg : Bool) (kvs : List (Str × PyData)) (x : D) (M : Mem) : R D := match x with
  | .p (.str s) => .ok (.p (.bool (if neg then !(kvs.lookup s).isSome else (kvs.lookup s).isSome))) M
  | _ => .bad
theorem e_win {neg : Bool} {kvs : List (Str × PyData)} : evE g (.win neg kvs a) σ M = (evE g a σ M).bind (winR neg kvs) := Eq.trans rfl rfl
theorem winR_s {neg : Bool} {kvs : List (Str × PyData)} {s : Str} : winR neg kvs (.p (.str s)) M = .ok (.p (.bool (if neg then !(kvs.lookup s).isSome else (kvs.lookup s).isSome))) M := Eq.trans rfl rfl
theorem e_dnew {t : Bool} : evE g (.dnew t) σ M = .ok (.dic t M.length) (M ++ [[]]) := Eq.trans rfl rfl
theorem e_dget : evE g (.dget a b) σ M = (evE g a σ M).bind fun x M1 => (evE g b σ M1).bind fun y M2 => R.opt M2 ((opDGet M2 x y).map D.p) := Eq.trans rfl rfl
theorem e_din {neg : Bool} : evE g (.din neg a b) σ M = (evE g a σ M).bind fun y M1 => (evE g b σ M1).bind fun x M2 => R.opt M2 ((opDIn M2 x y).map fun b => .p (.bool (if neg then !b else b))) := Eq.trans rfl rfl
def dsetR (σ : Sg) (x y v : D) (M : Mem) : R Fl := match x, y, v with
  | .dic t n, .p kd, .p vd => if keyOk t kd then (match M[n]? with
    | some xs => if xs.length < sizeLine then .ok (.nx σ) (M.set n (dput xs kd vd)) else .bad
    | none => .bad) else .bad
  | _, _, _ => .bad
theorem s_dset {e : CE} : evS g (.dset a b e) σ M = (evE g e σ M).bind fun v M1 => (evE g a σ M1).bind fun x M2 => (evE g b σ M2).bind fun y M3 => dsetR σ x y v M3 := Eq.trans rfl rfl
theorem dget_of {t : Bool} {n : Nat} {xs : List PyData} {k : PyData} (hk : keyOk t k = true) (h : M[n]? = some xs) : opDGet M (.dic t n) (.p k) = dfind xs k := by
  show (if keyOk t k = true then _ else _) = _
  rw [if_pos hk, h]
  rfl
theorem din_of {t : Bool} {n : Nat} {xs : List PyData} {k : PyData} (hk : keyOk t k = true) (h : M[n]? = some xs) : opDIn M (.dic t n) (.p k) = some (dfind xs k).isSome := by
  show (if keyOk t k = true then _ else _) = _
  rw [if_pos hk, h]
  rfl
theorem dset_of {t : Bool} {n : Nat} {xs : List PyData} {k v : PyData} (hk : keyOk t k = true) (h : M[n]? = some xs) (hl : xs.length < sizeLine) : dsetR σ (.dic t n) (.p k) (.p v) M = .ok (.nx σ) (M.set n (dput xs k v)) := by
  show (if keyOk t k = true then _ else _) = _
  rw [if_pos hk, h]
  exact if_pos hl
end
end Pg

end

/-! ## Bf -/
section
set_option Elab.async false
set_option linter.all false
set_option maxRecDepth 100000
set_option maxHeartbeats 1000000
/-! Rules at any cell of the memory; comprehensions that read it; texts. -/
namespace Pg
open PySem hiding run start
open Ev
section
variable {g : G} {σ : Sg} {M M1 M2 : Mem} {args : List CE} {elt cond : CE} {own : List Nat} {it : Ev.It} {xs ys : List PyData} {i : Nat} {ds : List D} {d : PyData} {n : Nat} {e : CE}
theorem compL_at {n : Nat} {turn : PyData → Mem → Ev.R (Option PyData)} {fx : PyData → Option PyData} : ∀ {xs : List PyData} {acc : List PyData}, n = M1.length → (∀ x ∈ xs, ∀ acc, turn x (M1 ++ [acc]) = .ok (fx x) (M1 ++ [acc])) → acc.length + xs.length ≤ sizeLine →
    compL n turn xs (M1 ++ [acc]) = .ok (.p (.list (acc ++ xs.filterMap fx))) M1
  | [], acc, hn, _, _ => by
    have e : (M1 ++ [acc])[n]? = some acc := by rw [hn, List.getElem?_append_right (Nat.le_refl _), Nat.sub_self]; rfl
    have e2 : (M1 ++ [acc]).take n = M1 := by rw [hn, List.take_left]
    unfold compL
    rw [e, e2]
    simp
  | x :: xs, acc, hn, ht, hz => by
    have e : (M1 ++ [acc])[n]? = some acc := by rw [hn, List.getElem?_append_right (Nat.le_refl _), Nat.sub_self]; rfl
    have e2 : (M1 ++ [acc]).take n = M1 := by rw [hn, List.take_left]
    unfold compL
    rw [ht x List.mem_cons_self]
    simp only [e, e2]
    rw [List.length_cons] at hz
    have ih := fun acc' h => compL_at (n := n) (turn := turn) (fx := fx) (xs := xs) (acc := acc') hn (fun y hy => ht y (List.mem_cons_of_mem _ hy)) h
    cases q : fx x with
    | none =>
      rw [List.filterMap_cons, q]
      exact ih acc (by omega)
    | some y =>
      have hlt : acc.length < sizeLine := by omega
      simp only [hlt, if_true]
      rw [List.filterMap_cons, q, ih (acc ++ [y]) (by rw [List.length_append]; simp; omega)]
      simp
theorem comp_at {tg : Tg} (hargs : evEs g args σ M = .ok ds M1) (hit : itemsI M1 it ds = some xs) (hl : xs.length ≤ sizeLine) {f : PyData → PyData}
    (hf : ∀ x ∈ xs, ∃ σ', bindT tg x (wipe σ own) = some σ' ∧ ∀ acc, evE g elt σ' (M1 ++ [acc]) = .ok (.p (f x)) (M1 ++ [acc])) :
    evE g (.comp tg it args [] own elt) σ M = .ok (.p (.list (xs.map f))) M1 := by
  rw [ev_comp, hargs]
  simp only [bind_ok, hit]
  have key := compL_at (n := M1.length) (fx := fun x => some (f x)) (xs := xs) (acc := []) (M1 := M1) (turn := fun x M2 => match bindT tg x (wipe σ own) with
        | some σ' => (evEs g [] σ' M2).bind fun ks M3 => match ks with
          | [] => (evE g elt σ' M3).bind fun d M4 => match d with
            | .p y => .ok (some y) M4
            | _ => .bad
          | [.p (.bool true)] => (evE g elt σ' M3).bind fun d M4 => match d with
            | .p y => .ok (some y) M4
            | _ => .bad
          | [.p (.bool false)] => .ok none M3
          | _ => .bad
        | none => .bad) rfl (fun x hx acc => by
          obtain ⟨σ', h1, h2⟩ := hf x hx
          simp only [h1, e_nil, bind_ok, h2]) (by simpa using hl)
  rw [List.nil_append, List.filterMap_eq_map'] at key
  exact key
theorem comp_r1_at {hi : Int} (f : Int → PyData) (hargs : evEs g args σ M = .ok [.p (.int hi)] M) (hb : -1000000000 ≤ hi ∧ hi ≤ 1000000)
    (hf : ∀ n, 0 ≤ n → n < hi → ∀ acc, evE g elt ((wipe σ own).set i (some (.p (.int n)))) (M ++ [acc]) = .ok (.p (f n)) (M ++ [acc])) : evE g (.comp (.one i) .range args [] own elt) σ M = .ok (.p (.list (rowP f 0 hi))) M := by
  have bz : 1000000 ≤ sizeLine := by decide
  rw [comp_at hargs (it_r1 ⟨hb.1, by omega⟩) (by rw [rng_length]; omega) (f := fun x => match x with | .int n => f n | _ => .none)]
  · have e : (hi - 0).toNat = hi.toNat := by rw [Int.sub_zero]
    rw [← e, rng_row (f := f)]
    intro n _ _
    rfl
  · intro x hx
    obtain ⟨k, hk, rfl⟩ := rng_mem hx
    exact ⟨_, rfl, fun acc => hf _ (by omega) (by omega) acc⟩
/-! ### methods at any cell -/
theorem me_pop_n (h : M[n]? = some (xs ++ [d])) : meR1 g .pop [] σ (.loc n) M = .ok (.p d) (M.set n xs) := by
  have e1 : meOk M .pop (.loc n) = true := rfl
  unfold meR1
  rw [e1, if_pos rfl, e_nil, bind_ok]
  unfold meR2
  have e2 : opMe M .pop (.loc n) [] = (M[n]?).bind fun xs' => (xs'[xs'.length - 1]?).map fun x => (.p x, M.set n xs'.dropLast) := rfl
  rw [e2, h, Option.bind_some, List.length_append, List.length_singleton, Nat.add_sub_cancel, List.getElem?_append_right (Nat.le_refl _), Nat.sub_self, List.dropLast_concat]
  rfl
theorem me_extend_n (he : evE g e σ M = .ok (.p (.list ys)) M2) (h : M2[n]? = some xs) (hl : xs.length + ys.length ≤ 1000000) : meR1 g .extend [e] σ (.loc n) M = .ok (.p .none) (M2.set n (xs ++ ys)) := by
  have bz : 1000000 ≤ sizeLine := by decide
  have e1 : meOk M .extend (.loc n) = true := rfl
  unfold meR1
  rw [e1, if_pos rfl, e_cons, he, bind_ok, e_nil, bind_ok, bind_ok]
  unfold meR2
  have e2 : opMe M2 .extend (.loc n) [.p (.list ys)] = (M2[n]?).bind fun xs' => if xs'.length + ys.length ≤ sizeLine then some (.p .none, M2.set n (xs' ++ ys)) else none := rfl
  rw [e2, h, Option.bind_some, if_pos (by omega)]
theorem me_append_n (he : evE g e σ M = .ok (.p d) M2) (h : M2[n]? = some xs) (hl : xs.length < 1000000) : meR1 g .append [e] σ (.loc n) M = .ok (.p .none) (M2.set n (xs ++ [d])) := by
  have bz : 1000000 ≤ sizeLine := by decide
  have e1 : meOk M .append (.loc n) = true := rfl
  unfold meR1
  rw [e1, if_pos rfl, e_cons, he, bind_ok, e_nil, bind_ok, bind_ok]
  unfold meR2
  have e2 : opMe M2 .append (.loc n) [.p d] = (M2[n]?).bind fun xs' => if xs'.length < sizeLine then some (.p .none, M2.set n (xs' ++ [d])) else none := rfl
  rw [e2, h, Option.bind_some, if_pos (by omega)]
theorem two_0 : (M ++ [xs, ys])[M.length]? = some xs := by rw [List.getElem?_append_right (Nat.le_refl _), Nat.sub_self]; rfl
theorem two_1 : (M ++ [xs, ys])[M.length + 1]? = some ys := by rw [List.getElem?_append_right (by omega), Nat.add_sub_cancel_left]; rfl
theorem two_s0 {zs : List PyData} : (M ++ [xs, ys]).set M.length zs = M ++ [zs, ys] := by rw [List.set_append_right _ _ (Nat.le_refl _), Nat.sub_self]; rfl
theorem two_s1 {zs : List PyData} : (M ++ [xs, ys]).set (M.length + 1) zs = M ++ [xs, zs] := by rw [List.set_append_right _ _ (by omega), Nat.add_sub_cancel_left]; rfl
theorem two_take : (M ++ [xs, ys]).take M.length = M := List.take_left
theorem two_mk : M ++ [xs] ++ [ys] = M ++ [xs, ys] := by rw [List.append_assoc]; rfl
theorem two_len : (M ++ [xs]).length = M.length + 1 := by rw [List.length_append]; rfl
/-! ### texts -/
/-- unlike texts -/
def Dif (a b : Str) : Prop := PyData.strOk a = true ∧ PyData.strOk b = true ∧ a ≠ b
instance (a b : Str) : Decidable (Dif a b) := by unfold Dif; infer_instance
theorem cS_t {a : Str} (h : PyData.strOk a = true) : opCmp .eq (.str a) (.str a) = some true := by
  show (if (SeqAt.shaped (.str a) && SeqAt.shaped (.str a)) = true then some (PyData.eqv (.str a) (.str a)) else none) = _
  simp [SeqAt.shaped, PyData.eqv, PyData.canLay0, PyData.depth, h]
theorem cS_f {a b : Str} (h : Dif a b) : opCmp .eq (.str a) (.str b) = some false := by
  show (if (SeqAt.shaped (.str a) && SeqAt.shaped (.str b)) = true then some (PyData.eqv (.str a) (.str b)) else none) = _
  simp [SeqAt.shaped, PyData.eqv, PyData.canLay0, PyData.depth, h.1, h.2.1, h.2.2]
theorem ty_str {s : Str} {t : Ty} : isTys (.p (.str s)) [t] = some (decide (t = .str)) := by cases t <;> rfl
end
end Pg

end

/-! ## Mf -/
section
set_option Elab.async false
set_option linter.all false
/-! Sequences of whole numbers that rise by the same from round to round: the least form. -/
namespace Mx
theorem min_ex {P : Nat → Prop} (h : ∃ n, P n) : ∃ n, P n ∧ ∀ m, P m → n ≤ m := by
  obtain ⟨n, hn⟩ := h
  induction n using Nat.strongRecOn with
  | ind n ih =>
    by_cases hm : ∃ m, m < n ∧ P m
    · obtain ⟨m, h1, h2⟩ := hm
      exact ih m h1 h2
    · exact ⟨n, hn, fun m hP => Nat.le_of_not_lt fun hlt => hm ⟨m, hlt, hP⟩⟩
variable {f g : Int → Int} {b c p q s t w r u : Int}
/-- from b on, round p, rise s -/
def DP (f : Int → Int) (b p s : Int) : Prop := 0 ≤ b ∧ 0 < p ∧ ∀ n, b ≤ n → f (n + p) = f n + s
theorem DP.mul (h : DP f b p s) (k : Nat) : ∀ n, b ≤ n → f (n + (k : Int) * p) = f n + (k : Int) * s := by
  induction k with
  | zero => intro n _; simp
  | succ k ih =>
    intro n hn
    have hk : 0 ≤ (k : Int) * p := Int.mul_nonneg (by omega) (by have := h.2.1; omega)
    have e : n + ((k + 1 : Nat) : Int) * p = (n + (k : Int) * p) + p := by
      rw [Int.natCast_succ, Int.add_mul, Int.one_mul, Int.add_assoc]
    rw [e, h.2.2 _ (by omega), ih n hn, Int.natCast_succ, Int.add_mul, Int.one_mul, Int.add_assoc]
theorem DP.mulI (h : DP f b p s) {k : Int} (hk : 0 ≤ k) {n : Int} (hn : b ≤ n) : f (n + k * p) = f n + k * s := by
  have := h.mul k.toNat n hn
  rw [show ((k.toNat : Nat) : Int) = k by omega] at this
  exact this
theorem DP.later (h : DP f b p s) (hc : b ≤ c) : DP f c p s := ⟨by have := h.1; omega, h.2.1, fun n hn => h.2.2 n (by omega)⟩
theorem DP.times (h : DP f b p s) {k : Int} (hk : 0 < k) : DP f b (k * p) (k * s) := ⟨h.1, Int.mul_pos hk h.2.1, fun n hn => h.mulI (by omega) hn⟩
theorem DP.rise (h : DP f b p s) (k : DP f c p t) : s = t := by
  have h1 := h.2.2 (max b c) (by omega)
  have h2 := k.2.2 (max b c) (by omega)
  omega
theorem DP.sub (h : DP f b p s) (k : DP f b q t) (hlt : p < q) : DP f b (q - p) (t - s) := ⟨h.1, by omega, fun n hn => by
  have e1 : f (n + (q - p) + p) = f (n + (q - p)) + s := h.2.2 _ (by omega)
  have e2 : n + (q - p) + p = n + q := by omega
  rw [e2, k.2.2 n hn] at e1
  omega⟩
/-- a common divisor of two rounds is a round -/
theorem DP.common : ∀ (N : Nat) {p q s t : Int}, p + q ≤ N → DP f b p s → DP f b q t → ∃ g u, g ∣ p ∧ g ∣ q ∧ DP f b g u := by
  intro N
  induction N with
  | zero => intro p q s t hs hp hq; have := hp.2.1; have := hq.2.1; omega
  | succ N ih =>
    intro p q s t hs hp hq
    have h1 := hp.2.1
    have h2 := hq.2.1
    rcases Int.lt_trichotomy p q with h | h | h
    · obtain ⟨g, u, g1, g2, g3⟩ := ih (p := p) (q := q - p) (by omega) hp (hp.sub hq h)
      refine ⟨g, u, g1, ?_, g3⟩
      have := Int.dvd_add g2 g1
      rw [Int.sub_add_cancel] at this
      exact this
    · subst h
      exact ⟨p, s, Int.dvd_refl _, Int.dvd_refl _, hp⟩
    · obtain ⟨g, u, g1, g2, g3⟩ := ih (p := p - q) (q := q) (by omega) (hq.sub hp h) hq
      refine ⟨g, u, ?_, g2, g3⟩
      have := Int.dvd_add g1 g2
      rw [Int.sub_add_cancel] at this
      exact this
/-- a later round is a round from b on, if there is one from b on -/
theorem DP.down (h : DP f b p s) (k : DP f c q u) : DP f b q u := by
  refine ⟨h.1, k.2.1, fun n hn => ?_⟩
  have hp := h.2.1
  have hc := k.1
  have hq := k.2.1
  have e1 := h.mulI hc hn
  have e2 := h.mulI hc (show b ≤ n + q by omega)
  have hcp : c ≤ n + c * p := by
    have : c * 1 ≤ c * p := Int.mul_le_mul_of_nonneg_left hp hc
    have := h.1
    omega
  have e3 := k.2.2 (n + c * p) hcp
  have e4 : n + q + c * p = n + c * p + q := by omega
  rw [e4] at e2
  omega
/-- the rises go as the rounds -/
theorem DP.ratio (h : DP f b p s) (k : DP f c q t) : s * q = t * p := by
  have h1 := h.later (c := max b c) (by omega)
  have h2 := k.later (c := max b c) (by omega)
  have e1 := h1.mulI (k := q) (by have := k.2.1; omega) (Int.le_refl _)
  have e2 := h2.mulI (k := p) (by have := h.2.1; omega) (Int.le_refl _)
  rw [Int.mul_comm p q] at e2
  rw [Int.mul_comm s q, Int.mul_comm t p]
  omega
/-- the least form -/
structure LeastF (f : Int → Int) (b p s : Int) : Prop where
  dp : DP f b p s
  per : ∀ c q t, DP f c q t → p ≤ q
  pre : ∀ c t, DP f c p t → b ≤ c
theorem LeastF.uniq (h : LeastF f b p s) (k : LeastF f c q t) : b = c ∧ p = q ∧ s = t := by
  have e : p = q := Int.le_antisymm (h.per _ _ _ k.dp) (k.per _ _ _ h.dp)
  subst e
  exact ⟨Int.le_antisymm (h.pre _ _ k.dp) (k.pre _ _ h.dp), rfl, h.dp.rise k.dp⟩
theorem LeastF.dvd (h : LeastF f b p s) (k : DP f c q t) : p ∣ q := by
  have hk : DP f b q t := h.dp.down k
  have h1 := h.dp.2.1
  have h2 := k.2.1
  obtain ⟨g, u, g1, g2, g3⟩ := DP.common (p + q).toNat (by omega) h.dp hk
  have h3 := h.per _ _ _ g3
  have h4 := Int.le_of_dvd h1 g1
  have e : g = p := by omega
  rw [← e]
  exact g2
/-- the least divisor of a round that is a round from b on is the least round -/
theorem leastF_of (hw : DP f b w r) (hp : DP f b p s) (hd : p ∣ w) (hmin : ∀ q t, q ∣ w → DP f b q t → p ≤ q) (hc : DP f c p u) (hpre : ∀ e t, DP f e p t → c ≤ e) : LeastF f c p u := by
  refine ⟨hc, fun e q t hq => ?_, hpre⟩
  have hq2 : DP f b q t := hp.down hq
  have h1 := hp.2.1
  have h2 := hq.2.1
  obtain ⟨g, v, g1, g2, g3⟩ := DP.common (p + q).toNat (by omega) hp hq2
  exact Int.le_trans (hmin g v (Int.dvd_trans g1 hd) g3) (Int.le_of_dvd h2 g2)
/-- the begin found by going down while it still holds -/
theorem preF_of (hc : DP f c p s) (hstop : c = 0 ∨ f (c - 1 + p) ≠ f (c - 1) + s) : ∀ e t, DP f e p t → c ≤ e := by
  intro e t he
  have e1 := hc.rise he
  subst e1
  rcases hstop with h | h
  · have := he.1; omega
  · refine Int.not_lt.mp fun hlt => h ?_
    exact he.2.2 (c - 1) (by omega)
theorem leastF_ex (h : DP f b w r) : ∃ c p s, LeastF f c p s := by
  have hb := h.1
  have hw := h.2.1
  obtain ⟨p, ⟨c, s, hp⟩, hmin⟩ := min_ex (P := fun p => ∃ c s, DP f c (p : Nat) s) ⟨w.toNat, b, r, by rw [show ((w.toNat : Nat) : Int) = w by omega]; exact h⟩
  have hc := hp.1
  obtain ⟨d, ⟨u, hd⟩, hmin2⟩ := min_ex (P := fun d => ∃ u, DP f (d : Nat) (p : Nat) u) ⟨c.toNat, s, by rw [show ((c.toNat : Nat) : Int) = c by omega]; exact hp⟩
  refine ⟨d, p, u, hd, fun e q t hq => ?_, fun e t he => ?_⟩
  · have hq2 := hq.2.1
    have := hmin q.toNat ⟨e, t, by rw [show ((q.toNat : Nat) : Int) = q by omega]; exact hq⟩
    omega
  · have he2 := he.1
    have := hmin2 e.toNat ⟨t, by rw [show ((e.toNat : Nat) : Int) = e by omega]; exact he⟩
    omega
theorem LeastF.congr (h : LeastF f b p s) (e : ∀ n, 0 ≤ n → f n = g n) : LeastF g b p s := by
  have fwd : ∀ {f g : Int → Int} {b p s : Int}, (∀ n, 0 ≤ n → f n = g n) → DP f b p s → DP g b p s := fun {f g b p s} e h =>
    ⟨h.1, h.2.1, fun n hn => by
      have h1 := h.1
      have h2 := h.2.1
      rw [← e _ (by omega), ← e n (by omega)]
      exact h.2.2 n hn⟩
  exact ⟨fwd e h.dp, fun c q t k => h.per c q t (fwd (fun n hn => (e n hn).symm) k), fun c t k => h.pre c t (fwd (fun n hn => (e n hn).symm) k)⟩
theorem DP.congr (h : DP f b p s) (e : ∀ n, 0 ≤ n → f n = g n) : DP g b p s :=
    ⟨h.1, h.2.1, fun n hn => by
      have h1 := h.1
      have h2 := h.2.1
      rw [← e _ (by omega), ← e n (by omega)]
      exact h.2.2 n hn⟩
/-- at a number by its place in the ring -/
theorem DP.at_ (h : DP f b p s) {n : Int} (hn : b ≤ n) : f n = f (b + (n - b) % p) + (n - b) / p * s := by
  have hp := h.2.1
  have h1 := Int.emod_nonneg (n - b) (show p ≠ 0 by omega)
  have h2 : 0 ≤ (n - b) / p := Int.ediv_nonneg (by omega) (by omega)
  have h3 := Int.emod_add_mul_ediv (n - b) p
  have e := h.mulI h2 (show b ≤ b + (n - b) % p by omega)
  rw [Int.mul_comm ((n - b) / p) p] at e
  have e2 : b + (n - b) % p + p * ((n - b) / p) = n := by omega
  rw [e2] at e
  exact e
/-- two forms that agree on a round agree everywhere -/
theorem DP.ext (h : DP f b p s) (k : DP g b p s) (e : ∀ n, 0 ≤ n → n < b + p → f n = g n) : ∀ n, 0 ≤ n → f n = g n := by
  intro n hn
  by_cases hlt : n < b + p
  · exact e n hn hlt
  · have hp := h.2.1
    have hb := h.1
    have h1 := Int.emod_nonneg (n - b) (show p ≠ 0 by omega)
    have h2 := Int.emod_lt_of_pos (n - b) hp
    rw [h.at_ (by omega), k.at_ (by omega), e _ (by omega) (by omega)]
theorem DP.add (h : DP f b p s) (k : DP g b p t) : DP (fun n => f n + g n) b p (s + t) := ⟨h.1, h.2.1, fun n hn => by
  show f (n + p) + g (n + p) = f n + g n + (s + t)
  rw [h.2.2 n hn, k.2.2 n hn]
  omega⟩
theorem DP.less (h : DP f b p s) (k : DP g b p t) : DP (fun n => f n - g n) b p (s - t) := ⟨h.1, h.2.1, fun n hn => by
  show f (n + p) - g (n + p) = f n - g n + (s - t)
  rw [h.2.2 n hn, k.2.2 n hn]
  omega⟩
/-- rounds of two -/
theorem DP.both (h : DP f b p s) (k : DP g c q t) (hd : p ∣ w) (hd2 : q ∣ w) (hw : 0 < w) : DP f (max b c) w (s * (w / p)) ∧ DP g (max b c) w (t * (w / q)) := by
  have hp := h.2.1
  have hq := k.2.1
  have e1 : w / p * p = w := Int.ediv_mul_cancel hd
  have e2 : w / q * q = w := Int.ediv_mul_cancel hd2
  have p1 : 0 < w / p := Int.ediv_pos_of_pos_of_dvd hw (by omega) hd
  have p2 : 0 < w / q := Int.ediv_pos_of_pos_of_dvd hw (by omega) hd2
  have a1 := (h.later (c := max b c) (by omega)).times p1
  have a2 := (k.later (c := max b c) (by omega)).times p2
  rw [e1] at a1
  rw [e2] at a2
  rw [Int.mul_comm s, Int.mul_comm t]
  exact ⟨a1, a2⟩
/-! sets: a set's indicator -/
def ind (f : Int → Bool) (n : Int) : Int := if f n = true then 1 else 0
/-- from b on, round p -/
def EPb (f : Int → Bool) (b p : Int) : Prop := 0 ≤ b ∧ 0 < p ∧ ∀ n, b ≤ n → f (n + p) = f n
theorem ind_inj {f g : Int → Bool} {m n : Int} (h : ind f m = ind g n) : f m = g n := by
  unfold ind at h
  cases h1 : f m <;> cases h2 : g n <;> simp [h1, h2] at h <;> rfl
theorem EPb.dp {f : Int → Bool} {b p : Int} (h : EPb f b p) : DP (ind f) b p 0 := ⟨h.1, h.2.1, fun n hn => by unfold ind; rw [h.2.2 n hn, Int.add_zero]⟩
theorem ind_bd (f : Int → Bool) (n : Int) : 0 ≤ ind f n ∧ ind f n ≤ 1 := by
  unfold ind
  split <;> omega
theorem DP.ind0 {f : Int → Bool} {b p s : Int} (h : DP (ind f) b p s) : s = 0 := by
  have e := h.mulI (k := 2) (by omega) (Int.le_refl b)
  have h1 := ind_bd f b
  have h2 := ind_bd f (b + 2 * p)
  omega
theorem DP.epb {f : Int → Bool} {b p s : Int} (h : DP (ind f) b p s) : EPb f b p := ⟨h.1, h.2.1, fun n hn => by
  have e := h.2.2 n hn
  rw [h.ind0, Int.add_zero] at e
  exact ind_inj e⟩
end Mx

end

/-! ## the plain law -/
section
set_option Elab.async false
set_option linter.all false
set_option maxRecDepth 100000
set_option maxHeartbeats 1000000
namespace Pg
open PySem hiding run start
open Ev
variable {F : Nat}
/-! ### XA1_k68 -/

/-! The library's basics and forms. -/
section
theorem dl_t {a b : Int} (h : a < b) : decide (a < b) = true := decide_eq_true h
theorem dl_f {a b : Int} (h : b ≤ a) : decide (a < b) = false := decide_eq_false (by omega)
theorem dle_t {a b : Int} (h : a ≤ b) : decide (a ≤ b) = true := decide_eq_true h
theorem dle_f {a b : Int} (h : b < a) : decide (a ≤ b) = false := decide_eq_false (by omega)
theorem de_t {a b : Int} (h : a = b) : decide (a = b) = true := decide_eq_true h
theorem de_f {a b : Int} (h : a < b ∨ b < a) : decide (a = b) = false := decide_eq_false (by omega)
end
section
theorem bols_true : ∀ xs : List PyData, (∀ x ∈ xs, x = .bool true) → bolsOf xs = some (xs.map fun _ => true)
  | [], _ => rfl
  | x :: xs, h => by
    have e := h x List.mem_cons_self
    subst e
    show (bolsOf xs).map (true :: ·) = _
    rw [bols_true xs fun y hy => h y (List.mem_cons_of_mem _ hy)]
    rfl
theorem all_tt {M : Mem} (xs : List PyData) (h : ∀ x ∈ xs, x = .bool true) : opBi M .all [.p (.list xs)] = some (.p (.bool true)) := by
  show ((some xs).bind bolsOf).map (fun bs => D.p (.bool (bs.all id))) = _
  rw [Option.bind_some, bols_true xs h]
  simp
end
section
end


/-! ### XA2_k68 -/

section
structure FF where
  b : Int
  w : Int
  r : Int
  pr : List Int
def FF.d (s : FF) : PyData := .tuple [.int s.b, .int s.w, .int s.r, .tuple (s.pr.map .int)]
structure FF.Ok (s : FF) : Prop where
  b0 : 0 ≤ s.b
  w0 : 0 < s.w
  len : (s.pr.length : Int) = s.b + s.w
  le : s.b + s.w ≤ 5000
  rb : -1000000000000000 ≤ s.r ∧ s.r ≤ 1000000000000000
/-- the price at a number -/
def FF.at (s : FF) (n : Int) : Int := if n < s.b + s.w then gi s.pr n else gi s.pr (s.b + (n - s.b) % s.w) + (n - s.b) / s.w * s.r
theorem mkF {b w r : Int} {xs : List Int} : PyData.tuple [.int b, .int w, .int r, .tuple (xs.map .int)] = (FF.mk b w r xs).d := rfl
theorem mkF1 {b w r x : Int} : PyData.tuple [.int b, .int w, .int r, .tuple [.int x]] = (FF.mk b w r [x]).d := rfl
theorem FF.at_lt {s : FF} {n : Int} (h : n < s.b + s.w) : s.at n = gi s.pr n := by unfold FF.at; rw [if_pos h]
theorem FF.at_ge {s : FF} (h : s.Ok) {n : Int} (hn : s.b ≤ n) : s.at n = gi s.pr (s.b + (n - s.b) % s.w) + (n - s.b) / s.w * s.r := by
  unfold FF.at
  split
  · rename_i hlt
    rw [Int.emod_eq_of_lt (by omega) (by omega), Int.ediv_eq_zero_of_lt (by omega) (by omega)]
    have e : s.b + (n - s.b) = n := by omega
    rw [e]
    simp
  · rfl
theorem FF.Ok.dp {s : FF} (h : s.Ok) : Mx.DP s.at s.b s.w s.r := ⟨h.b0, h.w0, fun n hn => by
  have hw := h.w0
  rw [s.at_ge h hn, s.at_ge h (by omega)]
  have e : n + s.w - s.b = (n - s.b) + s.w := by omega
  rw [e, Int.add_emod_right, Int.add_ediv_of_dvd_right (Int.dvd_refl _), Int.ediv_self (by omega), Int.add_mul, Int.one_mul, Int.add_assoc]⟩
theorem FF.row {s : FF} (h : s.Ok) : rowI s.at 0 (s.b + s.w) = s.pr := by
  rw [← row_self h.len]
  exact row_congr fun n h1 h2 => s.at_lt h2
/-- a form told by its first numbers -/
def tabF (f : Int → Int) (b w r : Int) : FF := ⟨b, w, r, rowI f 0 (b + w)⟩
theorem tabF_ok {f : Int → Int} {b w r : Int} (h : Mx.DP f b w r) (hz : b + w ≤ 5000) (hr : -1000000000000000 ≤ r ∧ r ≤ 1000000000000000) : (tabF f b w r).Ok := ⟨h.1, h.2.1, by have := h.1; have := h.2.1; show ((rowI f 0 (b + w)).length : Int) = b + w; rw [len_rowI]; omega, hz, hr⟩
theorem tabF_at {f : Int → Int} {b w r : Int} (h : Mx.DP f b w r) {n : Int} (hn : 0 ≤ n) : (tabF f b w r).at n = f n := by
  have hb := h.1
  have hw := h.2.1
  unfold FF.at
  show (if n < b + w then gi (rowI f 0 (b + w)) n else gi (rowI f 0 (b + w)) (b + (n - b) % w) + (n - b) / w * r) = f n
  split
  · rw [gi_row hn (by omega), Int.zero_add]
  · have h1 := Int.emod_nonneg (n - b) (show w ≠ 0 by omega)
    have h2 := Int.emod_lt_of_pos (n - b) hw
    rw [gi_row (by omega) (by omega), Int.zero_add, ← h.at_ (by omega)]
/-! ### the least form of a sequence -/
open Classical in
noncomputable def canFF (f : Int → Int) : FF := if h : ∃ x : Int × Int × Int, Mx.LeastF f x.1 x.2.1 x.2.2 then tabF f (choose h).1 (choose h).2.1 (choose h).2.2 else ⟨0, 1, 0, [0]⟩
theorem canFF_eq {f : Int → Int} {b p s : Int} (h : Mx.LeastF f b p s) : canFF f = tabF f b p s := by
  have hx : ∃ x : Int × Int × Int, Mx.LeastF f x.1 x.2.1 x.2.2 := ⟨(b, p, s), h⟩
  unfold canFF
  rw [dif_pos hx]
  obtain ⟨e1, e2, e3⟩ := (Classical.choose_spec hx).uniq h
  rw [e1, e2, e3]
theorem canFF_congr {f g : Int → Int} (e : ∀ n, 0 ≤ n → f n = g n) : canFF f = canFF g := by
  by_cases h : ∃ x : Int × Int × Int, Mx.LeastF f x.1 x.2.1 x.2.2
  · obtain ⟨⟨b, p, s⟩, h⟩ := h
    have hb := h.dp.1
    have hp := h.dp.2.1
    rw [canFF_eq h, canFF_eq (h.congr e)]
    unfold tabF
    rw [row_congr fun n h1 h2 => e n h1]
  · have h2 : ¬ ∃ x : Int × Int × Int, Mx.LeastF g x.1 x.2.1 x.2.2 := fun ⟨x, hx⟩ => h ⟨x, hx.congr fun n hn => (e n hn).symm⟩
    unfold canFF
    rw [dif_neg h, dif_neg h2]
structure CanF (f : Int → Int) (b w r : Int) : Prop where
  ok : (canFF f).Ok
  least : Mx.LeastF f (canFF f).b (canFF f).w (canFF f).r
  at_ : ∀ n, 0 ≤ n → (canFF f).at n = f n
  cb : (canFF f).b ≤ b
  cw : (canFF f).w ∣ w
  cwle : (canFF f).w ≤ w
  cr : (canFF f).r * w = r * (canFF f).w
  crle : -1000000000000000 ≤ (canFF f).r ∧ (canFF f).r ≤ 1000000000000000
theorem ratio_le {a b r w : Int} (h : a * w = r * b) (hb : 0 < b) (hw : b ≤ w) {B : Int} (hB : 0 ≤ B) (hr : -B ≤ r ∧ r ≤ B) : -B ≤ a ∧ a ≤ B := by
  constructor
  · refine Int.not_lt.mp fun hlt => ?_
    have h1 : a * w < -B * w := Int.mul_lt_mul_of_pos_right hlt (by omega)
    have h2 : -B * b ≤ r * b := Int.mul_le_mul_of_nonneg_right hr.1 (by omega)
    have h3 : -B * w ≤ -B * b := by
      rw [Int.neg_mul, Int.neg_mul]
      exact Int.neg_le_neg (Int.mul_le_mul_of_nonneg_left hw hB)
    omega
  · refine Int.not_lt.mp fun hlt => ?_
    have h1 : B * w < a * w := Int.mul_lt_mul_of_pos_right hlt (by omega)
    have h2 : r * b ≤ B * b := Int.mul_le_mul_of_nonneg_right hr.2 (by omega)
    have h3 : B * b ≤ B * w := Int.mul_le_mul_of_nonneg_left hw hB
    omega
theorem canF {f : Int → Int} {b w r : Int} (h : Mx.DP f b w r) (hz : b + w ≤ 5000) (hr : -1000000000000000 ≤ r ∧ r ≤ 1000000000000000) : CanF f b w r := by
  obtain ⟨c, p, s, hl⟩ := Mx.leastF_ex h
  have e := canFF_eq hl
  have hc : c ≤ b := hl.pre _ _ (h.down hl.dp)
  have hd : p ∣ w := hl.dvd h
  have hw := h.2.1
  have hp := hl.dp.2.1
  have hpw := Int.le_of_dvd hw hd
  have hr2 : s * w = r * p := hl.dp.ratio h
  have hs := ratio_le hr2 hp hpw (B := 1000000000000000) (by omega) hr
  have eb : (canFF f).b = c := by rw [e]; rfl
  have ew : (canFF f).w = p := by rw [e]; rfl
  have er : (canFF f).r = s := by rw [e]; rfl
  refine ⟨by rw [e]; exact tabF_ok hl.dp (by omega) hs, by rw [eb, ew, er]; exact hl, fun n hn => by rw [e, tabF_at hl.dp hn], by rw [eb]; exact hc, by rw [ew]; exact hd, by rw [ew]; exact hpw, by rw [ew, er]; exact hr2, by rw [er]; exact hs⟩
theorem FF.Ok.can {s : FF} (h : s.Ok) : CanF s.at s.b s.w s.r := canF h.dp h.le h.rb
/-! ### rules on forms as data -/
variable {M : Mem} {s : FF} {σ : Sg}
theorem idx_f0 : opIdx M (.p s.d) (.p (.int 0)) = some (.p (.int s.b)) := Eq.trans rfl rfl
theorem idx_f1 : opIdx M (.p s.d) (.p (.int 1)) = some (.p (.int s.w)) := Eq.trans rfl rfl
theorem idx_f2 : opIdx M (.p s.d) (.p (.int 2)) = some (.p (.int s.r)) := Eq.trans rfl rfl
theorem idx_f3 : opIdx M (.p s.d) (.p (.int 3)) = some (.p (.tuple (s.pr.map .int))) := Eq.trans rfl rfl
theorem unp_f {i j l m : Nat} : unpR [i, j, l, m] σ (.p s.d) M = .ok (.nx ((((σ.set i (some (.p (.int s.b)))).set j (some (.p (.int s.w)))).set l (some (.p (.int s.r)))).set m (some (.p (.tuple (s.pr.map .int)))))) M := unp4
end


/-! ### XA3_k68 -/
local macro_rules
  | `(tactic| simp_arith [$as,*]) => `(tactic| simp (disch := first | assumption | omega) only [s_cons, s_nil, s_expr, s_asg, s_unp, s_par, s_ite, s_ret, s_retN, s_pass, s_brk, s_whl, s_for, s_parN, parR_3, parR_4, ty_str, e_con, e_rev, e_revn, e_wget, wgetR_s, e_win, winR_s, e_dnew, e_dget, e_din, s_dset, itL_l, revnR_l, s_raise, raiseR_some, s_try, tryR_ok, tryR_exc, bind_exc, tst_exc, finF_exc, finE_exc, seq_nx, seq_ret, seq_brk, bind_ok, tst_ok, opt_some, finF_ret, finF_nx, finE_ok, take_M, ev_0, ev_1, ev_2, ev_3, ev_4, ev_5, ev_6, ev_7, ev_8, ev_9, ev_10, ev_11, ev_12, ev_13, ev_14, ev_15, ev_16, ev_17, ev_18, ev_19, ev_20, ev_21, ev_22, ev_23, st_0, st_1, st_2, st_3, st_4, st_5, st_6, st_7, st_8, st_9, st_10, st_11, st_12, st_13, st_14, st_15, st_16, st_17, st_18, st_19, st_20, st_21, st_22, st_23, e_non, e_bl, e_int, e_str, e_bin, binR_p, e_cmp, cmpD_p, chR_some, e_chain, e_and, e_or, e_not, e_ife, e_nil, e_cons, e_tup, e_lst, e_lstM, e_idx, e_bi, e_isi, e_call, e_isN, e_notN, e_slc, e_lam, lamR_some, e_clo, clR_some, e_me, optI_nil, optI_one, slc1_some, slc_t, slc_l, slc_s, idx_t, idx_l, call_eq, cl_eq, lam_eq, fuel_eq, allP_cons, allP_nil, Option.map_some, Option.map_none, b_add, b_sub, c_lt, c_le, c_gt, c_ge, c_eqI, cmp_bool, cmpne_bool, cmpne_int, cmp_is, cmp_isnot, b_modP, b_divP, b_mulL, b_mulR, bi_len_t, bi_len_l, bi_tup_l, bi_tup_t, bi_list_l, bi_abs, bi_int, bi_intb, bi_max2, bi_min2, bi_lrange, unp2, unp3, unp4, wipe, start_eq, List.map_cons, List.map_nil, List.length_cons, List.length_nil, List.cons_append, List.nil_append, List.append_nil, Bool.false_eq_true, if_false, if_true, at3_0, at3_1, at3_2, at4_0, at4_1, at4_2, at4_3, at5_0, at5_1, at5_2, at5_3, at5_4, forR_some, forK_nx, forK_ret, forK_brk, tupR_1, tupR_2, tupR_3, tupR_4, tupR_5, tupR_6, lstR_0, lstR_1, lstR_2, lstR_3, caps_nil, caps_cons, capC_some, List.getElem?_cons_zero, List.getElem?_cons_succ, isNR_none, isNR_int, isNR_tup, notNR_none, notNR_int, ty_int, ty_tup, ty_none, ty_bool, abs_int, max_int, min_int, dl_t, dl_f, dle_t, dle_f, de_t, de_f, decide_true, decide_false, Bool.not_true, Bool.not_false, Bool.and_true, Bool.true_and, Bool.and_false, Bool.false_and, Bool.or_true, Bool.true_or, Bool.or_false, Bool.false_or, Bool.and_self, beq_self_eq_true, bne_self_eq_false, reduceCtorEq, Nat.reduceAdd, Nat.reduceSub, List.reduceReplicate, Int.reduceAdd, Int.reduceSub, Int.reduceMul, Int.reduceNeg, Int.sub_zero, Int.zero_add, Int.add_zero, Int.natCast_add, Int.natCast_one, Int.natCast_zero, $as,*])


section
variable {k : Nat} {C : List Clo} {M : Mem}

theorem is_integer_int (i : Int) : run prL F (k + 1) C (.fn 0) [.p (.int i)] M = .ok (.p (.bool true)) M := by
  rw [run_fn (d := d_is_integer) rfl rfl]
  simp_arith [d_is_integer]

theorem is_integer_none : run prL F (k + 1) C (.fn 0) [.p .none] M = .ok (.p (.bool false)) M := by
  rw [run_fn (d := d_is_integer) rfl rfl]
  simp_arith [d_is_integer]

theorem is_within_int (i lo hi : Int) : run prL F (k + 2) C (.fn 1) [.p (.int i), .p (.int lo), .p (.int hi)] M = .ok (.p (.bool (decide (lo ≤ i) && decide (i ≤ hi)))) M := by
  rw [run_fn (d := d_is_within) rfl rfl]
  simp_arith [d_is_within, is_integer_int]
  by_cases h : lo ≤ i <;> simp [h]
theorem is_within_t {i lo hi : Int} (h1 : lo ≤ i) (h2 : i ≤ hi) : run prL F (k + 2) C (.fn 1) [.p (.int i), .p (.int lo), .p (.int hi)] M = .ok (.p (.bool true)) M := by
  rw [is_within_int]
  simp_arith []

theorem is_number_int (i : Int) : run prL F (k + 2) C (.fn 2) [.p (.int i)] M = .ok (.p (.bool (decide (0 ≤ i)))) M := by
  rw [run_fn (d := d_is_number) rfl rfl]
  simp_arith [d_is_number, is_integer_int]
theorem is_number_t {i : Int} (h : 0 ≤ i) : run prL F (k + 2) C (.fn 2) [.p (.int i)] M = .ok (.p (.bool true)) M := by
  rw [is_number_int]
  simp_arith []

theorem is_sized_tup (xs : List PyData) (lo hi : Int) : run prL F (k + 1) C (.fn 3) [.p (.tuple xs), .p (.int lo), .p (.int hi)] M = .ok (.p (.bool (decide (lo ≤ xs.length) && decide ((xs.length : Int) ≤ hi)))) M := by
  rw [run_fn (d := d_is_sized) rfl rfl]
  simp_arith [d_is_sized]
  by_cases h : lo ≤ (xs.length : Int) <;> simp [h]
theorem is_sized_t {xs : List PyData} {lo hi : Int} (h1 : lo ≤ xs.length) (h2 : (xs.length : Int) ≤ hi) : run prL F (k + 1) C (.fn 3) [.p (.tuple xs), .p (.int lo), .p (.int hi)] M = .ok (.p (.bool true)) M := by
  rw [is_sized_tup]
  simp_arith []

/-! gcd -/
theorem gcd_loop {g : G} (n : Nat) (a b : Int) (hb : 0 ≤ b) (ha : 0 ≤ a) (hn : b < n) : whG g (.cmp .gt (.var 1) (.int 0)) [.par 0 1 (.var 1) (.bin .mod (.var 0) (.var 1))] n [some (.p (.int a)), some (.p (.int b))] M = .ok (.nx [some (.p (.int (Int.gcd a b : Nat))), some (.p (.int 0))]) M := by
  obtain ⟨σ', M', h1, rfl, x, rfl, hx, hg⟩ := whl_I (g := g) (c := .cmp .gt (.var 1) (.int 0)) (b := [.par 0 1 (.var 1) (.bin .mod (.var 0) (.var 1))]) (n := n) (σ := [some (.p (.int a)), some (.p (.int b))]) (M := M)
    (fun m σ M' => M' = M ∧ ∃ x y : Int, σ = [some (.p (.int x)), some (.p (.int y))] ∧ 0 ≤ x ∧ 0 ≤ y ∧ y ≤ m ∧ Int.gcd x y = Int.gcd a b) (fun σ M' => M' = M ∧ ∃ x : Int, σ = [some (.p (.int x)), some (.p (.int 0))] ∧ 0 ≤ x ∧ Int.gcd x 0 = Int.gcd a b) ⟨b.toNat, by omega, rfl, a, b, rfl, ha, hb, by omega, rfl⟩ (by
      rintro m σ M' ⟨rfl, x, y, rfl, hx, hy, hm, hg⟩
      by_cases h0 : y = 0
      · left
        subst h0
        exact ⟨by simp_arith [], rfl, x, rfl, hx, hg⟩
      · right
        have l1 := Int.emod_nonneg x h0
        have l2 := Int.emod_lt_of_pos x (show 0 < y by omega)
        refine ⟨[some (.p (.int y)), some (.p (.int (x % y)))], M', (x % y).toNat, by omega, by simp_arith [], by simp_arith [], rfl, y, x % y, rfl, hy, l1, by omega, ?_⟩
        rw [← hg]
        obtain ⟨X, rfl⟩ : ∃ X : Nat, x = X := ⟨x.toNat, by omega⟩
        obtain ⟨Y, rfl⟩ : ∃ Y : Nat, y = Y := ⟨y.toNat, by omega⟩
        show Nat.gcd Y (X % Y) = Nat.gcd X Y
        rw [Nat.gcd_comm Y, ← Nat.gcd_rec, Nat.gcd_comm])
  rw [h1]
  rw [Int.gcd_zero_right] at hg
  have e : x = (Int.gcd a b : Nat) := by omega
  rw [e]
theorem common_part_ok (hF : 10000 ≤ F) {a b : Int} (ha : 0 ≤ a) (hb : 0 ≤ b) (hb2 : b ≤ 9999) : run prL F (k + 1) C (.fn 4) [.p (.int a), .p (.int b)] M = .ok (.p (.int (Int.gcd a b : Nat))) M := by
  rw [run_fn (d := d_common_part) rfl rfl]
  simp_arith [d_common_part]
  rw [gcd_loop F a b hb ha (by omega)]
  simp_arith []

theorem gcd_le {a b : Int} (hb : 0 < b) : (0 : Int) < (Int.gcd a b : Nat) ∧ ((Int.gcd a b : Nat) : Int) ≤ b := by
  have h1 : 0 < Int.gcd a b := Int.gcd_pos_of_ne_zero_right a (by omega)
  have h2 := Int.le_of_dvd hb (Int.gcd_dvd_right a b)
  omega

def rnd (a b : Int) : Int := a / (Int.gcd a b : Nat) * b
theorem rnd_l {a b : Int} (ha : 0 < a) (hb : 0 < b) : a ∣ rnd a b := by
  have hg := gcd_le (a := a) hb
  obtain ⟨x, hx⟩ := Int.gcd_dvd_right a b
  obtain ⟨y, hy⟩ := Int.gcd_dvd_left a b
  refine ⟨x, ?_⟩
  unfold rnd
  have e : a / (Int.gcd a b : Nat) = y := by
    conv => lhs; lhs; rw [hy]
    exact Int.mul_ediv_cancel_left _ (by omega)
  rw [e]
  conv => lhs; rhs; rw [hx]
  conv => rhs; lhs; rw [hy]
  rw [← Int.mul_assoc, Int.mul_comm y]
theorem rnd_r {a b : Int} : b ∣ rnd a b := ⟨a / (Int.gcd a b : Nat), Int.mul_comm _ _⟩
theorem rnd_pos {a b : Int} (ha : 0 < a) (hb : 0 < b) : 0 < rnd a b := by
  have hg := gcd_le (a := a) hb
  have h2 := Int.le_of_dvd ha (Int.gcd_dvd_left a b)
  have h3 : 0 < a / (Int.gcd a b : Nat) := Int.ediv_pos_of_pos_of_dvd ha (by omega) (Int.gcd_dvd_left a b)
  exact Int.mul_pos h3 hb
theorem common_round_ok (hF : 10000 ≤ F) {a b : Int} (ha : 0 < a) (ha2 : a ≤ 9999) (hb : 0 < b) (hb2 : b ≤ 9999) : run prL F (k + 2) C (.fn 5) [.p (.int a), .p (.int b)] M = .ok (.p (.int (rnd a b))) M := by
  have hg := gcd_le (a := a) hb
  rw [run_fn (d := d_common_round) rfl rfl]
  simp_arith [d_common_round, common_part_ok hF]
  rfl

/-- rounded up -/
def upI (a b : Int) : Int := 0 - (0 - a) / b

theorem up_by_ok {a b : Int} (hb : 0 < b) (hb2 : b < 18446744073709551616) : run prL F (k + 1) C (.fn 6) [.p (.int a), .p (.int b)] M = .ok (.p (.int (upI a b))) M := by
  rw [run_fn (d := d_up_by) rfl rfl]
  simp_arith [d_up_by]
  rfl

theorem check_number_ok {n : Int} (h : 0 ≤ n) : run prL F (k + 3) C (.fn 10) [.p (.int n)] M = .ok (.p .none) M := by
  rw [run_fn (d := d_check_number) rfl rfl]
  simp_arith [d_check_number, is_number_t]

theorem check_width_ok {b w : Int} (h : b + w ≤ 5000) : run prL F (k + 1) C (.fn 11) [.p (.int b), .p (.int w)] M = .ok (.p .none) M := by
  rw [run_fn (d := d_check_width) rfl rfl]
  simp_arith [d_check_width]

theorem is_form_ok {s : FF} (h : s.Ok) : run prL F (k + 3) C (.fn 7) [.p s.d] M = .ok (.p (.bool true)) M := by
  have h1 := h.b0
  have h2 := h.w0
  have h3 := h.len
  have h4 := h.le
  have e0 : run prL F (k + 2) C (.fn 3) [.p s.d, .p (.int 4), .p (.int 4)] M = .ok (.p (.bool true)) M := is_sized_t (Int.le_refl 4) (Int.le_refl 4)
  have e6 : s.b + s.w = (((s.pr.map PyData.int).length : Nat) : Int) := by rw [List.length_map]; omega
  rw [run_fn (d := d_is_form) rfl rfl]
  simp_arith [d_is_form, e0, idx_f0, idx_f1, idx_f2, idx_f3, is_within_t, is_integer_int]
  rw [e6, is_sized_t (Int.le_refl _) (Int.le_refl _)]
  simp_arith []
  rw [comp_tI (xs := s.pr) (fun _ => .bool true)]
  · simp_arith []
    rw [all_tt _ (by simp)]
    simp_arith []
  · simp_arith [idx_f3]
  · omega
  · intro n hn M'
    simp_arith [is_integer_int]

theorem check_form_ok {s : FF} (h : s.Ok) : run prL F (k + 4) C (.fn 8) [.p s.d] M = .ok (.p .none) M := by
  rw [run_fn (d := d_check_form) rfl rfl]
  simp_arith [d_check_form, is_form_ok h]

theorem check_two_ok {s r : FF} (h : s.Ok) (h2 : r.Ok) : run prL F (k + 5) C (.fn 9) [.p s.d, .p r.d] M = .ok (.p .none) M := by
  rw [run_fn (d := d_check_two) rfl rfl]
  simp_arith [d_check_two, check_form_ok h, check_form_ok h2]

theorem raw_price_ok {s : FF} (h : s.Ok) {n : Int} (hn : 0 ≤ n) : run prL F (k + 1) C (.fn 12) [.p s.d, .p (.int n)] M = .ok (.p (.int (s.at n))) M := by
  have h1 := h.b0
  have h2 := h.w0
  have h3 := h.len
  have h4 := h.le
  have h5 := h.rb
  by_cases hlt : n < s.b + s.w
  · rw [run_fn (d := d_raw_price) rfl rfl]
    simp_arith [d_raw_price, unp_f, atI_ints, s.at_lt hlt]
  · have l1 := Int.emod_nonneg (n - s.b) (show s.w ≠ 0 by omega)
    have l2 := Int.emod_lt_of_pos (n - s.b) h2
    rw [run_fn (d := d_raw_price) rfl rfl]
    simp_arith [d_raw_price, unp_f, atI_ints, s.at_ge h (show s.b ≤ n by omega)]

theorem price_at_ok {s : FF} (h : s.Ok) {n : Int} (hn : 0 ≤ n) : run prL F (k + 5) C (.fn 13) [.p s.d, .p (.int n)] M = .ok (.p (.int (s.at n))) M := by
  rw [run_fn (d := d_price_at) rfl rfl]
  simp_arith [d_price_at, check_form_ok h, check_number_ok hn, raw_price_ok h hn]

end


/-! ### XA4_k68 -/

section
variable {k : Nat} {C : List Clo} {M : Mem} {s : FF}
def rep (s : FF) (p t : Int) : Bool := (rowB (fun n => decide (s.at (n + p) = s.at n + t)) s.b (s.b + s.w)).all id
theorem rep_iff (h : s.Ok) {p t : Int} (hp : 0 < p) : rep s p t = true ↔ Mx.DP s.at s.b p t := by
  have hw := h.w0
  have hb := h.b0
  unfold rep
  rw [rowB_all]
  constructor
  · intro e
    refine ⟨hb, hp, fun n hn => ?_⟩
    have d := h.dp
    have h1 := Int.emod_nonneg (n - s.b) (show s.w ≠ 0 by omega)
    have h2 := Int.emod_lt_of_pos (n - s.b) hw
    have h3 := Int.emod_add_mul_ediv (n - s.b) s.w
    have hq : 0 ≤ (n - s.b) / s.w := Int.ediv_nonneg (by omega) (by omega)
    have e1 := of_decide_eq_true (e (s.b + (n - s.b) % s.w) (by omega) (by omega))
    have e2 := d.mulI hq (show s.b ≤ s.b + (n - s.b) % s.w by omega)
    have e3 := d.mulI hq (show s.b ≤ s.b + (n - s.b) % s.w + p by omega)
    rw [Int.mul_comm s.w] at h3
    have n1 : s.b + (n - s.b) % s.w + (n - s.b) / s.w * s.w = n := by omega
    have n2 : s.b + (n - s.b) % s.w + p + (n - s.b) / s.w * s.w = n + p := by omega
    rw [n1] at e2
    rw [n2] at e3
    omega
  · intro d n h1 h2
    exact decide_eq_true (d.2.2 n h1)

theorem does_repeat_ok (h : s.Ok) {p t : Int} (hp : 0 ≤ p) : run prL F (k + 2) C (.fn 14) [.p s.d, .p (.int s.b), .p (.int p), .p (.int t)] M = .ok (.p (.bool (rep s p t))) M := by
  have hb := h.b0
  have hw := h.w0
  have hl := h.le
  rw [run_fn (d := d_does_repeat) rfl rfl]
  simp_arith [d_does_repeat, idx_f1]
  have el : ((rng s.b (s.b + s.w - s.b).toNat).length : Int) = s.w := by rw [rng_length]; omega
  rw [comp_any (M1 := M) (ds := [.p (.list (rng s.b (s.b + s.w - s.b).toNat))]) (xs := rng s.b (s.b + s.w - s.b).toNat) (fx := fun x => match x with | .int n => some (.bool (decide (s.at (n + p) = s.at n + t))) | _ => none)]
  · have em : (rng s.b (s.b + s.w - s.b).toNat).filterMap (fun x => match x with | .int n => some (PyData.bool (decide (s.at (n + p) = s.at n + t))) | _ => none) = (rowB (fun n => decide (s.at (n + p) = s.at n + t)) s.b (s.b + s.w)).map .bool := by
      unfold rng rowB
      rw [List.filterMap_map, List.map_map, ← List.filterMap_eq_map]
      rfl
    rw [em]
    simp_arith [all_row]
    rfl
  · simp_arith []
  · rfl
  · have : 1000000 ≤ sizeLine := line_big
    omega
  · intro x hx
    obtain ⟨j, hj, rfl⟩ := rng_mem hx
    refine ⟨_, rfl, fun M' => ?_⟩
    simp_arith [raw_price_ok h]

def good (s : FF) (q : Int) : Prop := s.w % q = 0 ∧ s.r * q % s.w = 0 ∧ rep s q (s.r * q / s.w) = true
theorem good_of (h : s.Ok) {q t : Int} (hd : q ∣ s.w) (hq : Mx.DP s.at s.b q t) : good s q := by
  have hw := h.w0
  have hr := h.dp.ratio hq
  have e : s.r * q / s.w = t := by rw [hr]; exact Int.mul_ediv_cancel t (by omega)
  refine ⟨Int.emod_eq_zero_of_dvd hd, by rw [hr]; exact Int.mul_emod_left t s.w, ?_⟩
  rw [e, rep_iff h hq.2.1]
  exact hq
theorem good_self (h : s.Ok) : good s s.w := good_of h (Int.dvd_refl _) h.dp
/-- what the loops of raw_least find -/
structure Found (s : FF) (p c : Int) : Prop where
  p0 : 0 < p
  pw : p ≤ s.w
  gd : good s p
  min : ∀ q, 0 < q → q ≤ s.w → good s q → p ≤ q
  c0 : 0 ≤ c
  cb : c ≤ s.b
  dp : Mx.DP s.at c p (s.r * p / s.w)
  stop : c = 0 ∨ s.at (c - 1 + p) ≠ s.at (c - 1) + s.r * p / s.w
theorem Found.can (h : s.Ok) {p c : Int} (f : Found s p c) : Mx.LeastF s.at c p (s.r * p / s.w) := by
  have hw := h.w0
  have hd : p ∣ s.w := Int.dvd_of_emod_eq_zero f.gd.1
  refine Mx.leastF_of h.dp ((rep_iff h f.p0).mp f.gd.2.2) hd (fun q t hq hd => f.min q hd.2.1 (Int.le_of_dvd hw hq) (good_of h hq hd)) f.dp (Mx.preF_of f.dp f.stop)
theorem Found.eq (h : s.Ok) {p c : Int} (f : Found s p c) : canFF s.at = ⟨c, p, s.r * p / s.w, rowI s.at 0 (c + p)⟩ := canFF_eq (f.can h)
theorem raw_least_ok (hF : 10000 ≤ F) (h : s.Ok) : run prL F (k + 3) C (.fn 15) [.p s.d] M = .ok (.p (canFF s.at).d) M := by
  have hb := h.b0
  have hw := h.w0
  have hlen := h.len
  have hl := h.le
  have hr := h.rb
  rw [run_fn (d := d_raw_least) rfl rfl]
  simp_arith [d_raw_least, unp_f, e_neg, negI, it_dn]
  generalize hW : forG _ _ _ _ _ _ = W
  obtain ⟨p, x6, rfl, p0, pw, pg, pm⟩ : ∃ p x6, W = .ok (.nx [some (.p s.d), some (.p (.int s.b)), some (.p (.int s.w)), some (.p (.int s.r)), some (.p (.tuple (s.pr.map .int))), some (.p (.int p)), x6, none, none, none]) M ∧ 0 < p ∧ p ≤ s.w ∧ good s p ∧ ∀ q, 0 < q → q ≤ s.w → good s q → p ≤ q := by
    rw [← hW]
    obtain ⟨σ', M', e1, rfl, p, x6, rfl, p0, pw, pg, pm⟩ := for_dn (g := gOf prL F (k + 2) C) (tg := 6) (lo := 0) (b := [.ite (.and (.cmp .eq (.bin .mod (.var 2) (.var 6)) (.int 0)) (.cmp .eq (.bin .mod (.bin .mul (.var 3) (.var 6)) (.var 2)) (.int 0))) [.ite (.call 14 [.var 0, .var 1, .var 6, .bin .div (.bin .mul (.var 3) (.var 6)) (.var 2)]) [.asg 5 (.var 6)] []] []])
      (fun n σ M' => M' = M ∧ ∃ p x6, σ = [some (.p s.d), some (.p (.int s.b)), some (.p (.int s.w)), some (.p (.int s.r)), some (.p (.tuple (s.pr.map .int))), some (.p (.int p)), x6, none, none, none] ∧ 0 < p ∧ p ≤ s.w ∧ good s p ∧ ∀ q, n < q → q ≤ s.w → good s q → p ≤ q) (by
        rintro n σ M' hn ⟨rfl, p, x6, rfl, p0, pw, pg, pm⟩
        by_cases g1 : s.w % n = 0
        · by_cases g2 : s.r * n % s.w = 0
          · cases g3 : rep s n (s.r * n / s.w) with
            | true =>
              have hnw : n ≤ s.w := Int.le_of_dvd hw (Int.dvd_of_emod_eq_zero g1)
              refine ⟨[some (.p s.d), some (.p (.int s.b)), some (.p (.int s.w)), some (.p (.int s.r)), some (.p (.tuple (s.pr.map .int))), some (.p (.int n)), some (.p (.int n)), none, none, none], M', ?_, rfl, n, _, rfl, hn, hnw, ⟨g1, g2, g3⟩, fun q h1 h2 h3 => by omega⟩
              simp_arith [does_repeat_ok h, g3]
            | false =>
              refine ⟨[some (.p s.d), some (.p (.int s.b)), some (.p (.int s.w)), some (.p (.int s.r)), some (.p (.tuple (s.pr.map .int))), some (.p (.int p)), some (.p (.int n)), none, none, none], M', ?_, rfl, p, _, rfl, p0, pw, pg, fun q h1 h2 h3 => ?_⟩
              · simp_arith [does_repeat_ok h, g3]
              · by_cases e : q = n
                · subst e
                  have := h3.2.2
                  rw [g3] at this
                  cases this
                · exact pm q (by omega) h2 h3
          · refine ⟨[some (.p s.d), some (.p (.int s.b)), some (.p (.int s.w)), some (.p (.int s.r)), some (.p (.tuple (s.pr.map .int))), some (.p (.int p)), some (.p (.int n)), none, none, none], M', ?_, rfl, p, _, rfl, p0, pw, pg, fun q h1 h2 h3 => ?_⟩
            · simp_arith [g2]
            · by_cases e : q = n
              · subst e
                exact absurd h3.2.1 g2
              · exact pm q (by omega) h2 h3
        · refine ⟨[some (.p s.d), some (.p (.int s.b)), some (.p (.int s.w)), some (.p (.int s.r)), some (.p (.tuple (s.pr.map .int))), some (.p (.int p)), some (.p (.int n)), none, none, none], M', ?_, rfl, p, _, rfl, p0, pw, pg, fun q h1 h2 h3 => ?_⟩
          · simp_arith [g1]
          · by_cases e : q = n
            · subst e
              exact absurd h3.1 g1
            · exact pm q (by omega) h2 h3) (s.w).toNat s.w [some (.p s.d), some (.p (.int s.b)), some (.p (.int s.w)), some (.p (.int s.r)), some (.p (.tuple (s.pr.map .int))), some (.p (.int s.w)), none, none, none, none] M (by omega) ⟨rfl, s.w, none, rfl, hw, Int.le_refl _, good_self h, fun q h1 h2 _ => by omega⟩
    exact ⟨p, x6, e1, p0, pw, pg, pm⟩
  clear hW
  have hdp := (rep_iff h p0).mp pg.2.2
  simp_arith []
  generalize hW : whG _ _ _ _ _ _ = W
  obtain ⟨c, rfl, hf⟩ : ∃ c, W = .ok (.nx [some (.p s.d), some (.p (.int c)), some (.p (.int s.w)), some (.p (.int s.r)), some (.p (.tuple (s.pr.map .int))), some (.p (.int p)), x6, some (.p (.int (s.r * p / s.w))), none, none]) M ∧ Found s p c := by
    rw [← hW]
    obtain ⟨σ', M', e1, rfl, c, rfl, hf⟩ := whl_I (g := gOf prL F (k + 2) C) (n := F) (σ := [some (.p s.d), some (.p (.int s.b)), some (.p (.int s.w)), some (.p (.int s.r)), some (.p (.tuple (s.pr.map .int))), some (.p (.int p)), x6, some (.p (.int (s.r * p / s.w))), none, none]) (M := M)
      (c := .and (.cmp .gt (.var 1) (.int 0)) (.cmp .eq (.call 12 [.var 0, .bin .add (.bin .sub (.var 1) (.int 1)) (.var 5)]) (.bin .add (.idx (.var 4) (.bin .sub (.var 1) (.int 1))) (.var 7)))) (b := [.asg 1 (.bin .sub (.var 1) (.int 1))])
      (fun m σ M' => M' = M ∧ ∃ c, σ = [some (.p s.d), some (.p (.int c)), some (.p (.int s.w)), some (.p (.int s.r)), some (.p (.tuple (s.pr.map .int))), some (.p (.int p)), x6, some (.p (.int (s.r * p / s.w))), none, none] ∧ 0 ≤ c ∧ c ≤ s.b ∧ Mx.DP s.at c p (s.r * p / s.w) ∧ c ≤ m)
      (fun σ M' => M' = M ∧ ∃ c, σ = [some (.p s.d), some (.p (.int c)), some (.p (.int s.w)), some (.p (.int s.r)), some (.p (.tuple (s.pr.map .int))), some (.p (.int p)), x6, some (.p (.int (s.r * p / s.w))), none, none] ∧ Found s p c) ⟨s.b.toNat, by omega, rfl, s.b, rfl, hb, Int.le_refl _, hdp, by omega⟩ (by
        rintro m σ M' ⟨rfl, c, rfl, hc0, hcb, hdc, hm⟩
        by_cases hc : c = 0
        · left
          subst hc
          exact ⟨by simp_arith [], rfl, 0, rfl, p0, pw, pg, pm, hc0, hcb, hdc, .inl rfl⟩
        · have eg : gi s.pr (c - 1) = s.at (c - 1) := (s.at_lt (by omega)).symm
          by_cases he : s.at (c - 1 + p) = s.at (c - 1) + s.r * p / s.w
          · right
            refine ⟨[some (.p s.d), some (.p (.int (c - 1))), some (.p (.int s.w)), some (.p (.int s.r)), some (.p (.tuple (s.pr.map .int))), some (.p (.int p)), x6, some (.p (.int (s.r * p / s.w))), none, none], M', m - 1, by omega, ?_, ?_, rfl, c - 1, rfl, by omega, by omega, ?_, by omega⟩
            · simp_arith [raw_price_ok h, atI_ints, eg, he]
            · simp_arith []
            · refine ⟨by omega, p0, fun n hn => ?_⟩
              by_cases e : n = c - 1
              · rw [e]
                exact he
              · exact hdc.2.2 n (by omega)
          · left
            exact ⟨by simp_arith [raw_price_ok h, atI_ints, eg, he], rfl, c, rfl, p0, pw, pg, pm, hc0, hcb, hdc, .inr he⟩)
    exact ⟨c, e1, hf⟩
  clear hW
  have hc0 := hf.c0
  have hcb := hf.cb
  simp_arith []
  rw [comp_r1 (hi := c + p) (fun n => .int (s.at n))]
  · rw [rowP_int, hf.eq h]
    simp_arith [mkF]
  · simp_arith []
  · omega
  · intro n h1 h2 M'
    simp_arith [raw_price_ok h]

theorem made_ok (hF : 10000 ≤ F) {f : Int → Int} {b w r : Int} {n : Nat} (h : Mx.DP f b w r) (hz : b + w ≤ 5000) (hr : -1000000000000000 ≤ r ∧ r ≤ 1000000000000000) (hc : ∀ m, 0 ≤ m → m < b + w → ∀ M, run prL F (k + 3) C (.clo n) [.p (.int m)] M = .ok (.p (.int (f m))) M) :
    run prL F (k + 4) C (.fn 16) [.p (.int b), .p (.int w), .p (.int r), .clo n] M = .ok (.p (canFF f).d) M := by
  have hb := h.1
  have hw := h.2.1
  rw [run_fn (d := d_made) rfl rfl]
  simp_arith [d_made, check_width_ok hz]
  rw [comp_r1 (hi := b + w) (fun n => .int (f n))]
  · have e : (⟨b, w, r, rowI f 0 (b + w)⟩ : FF) = tabF f b w r := rfl
    rw [rowP_int]
    simp_arith [mkF]
    rw [e, raw_least_ok hF (tabF_ok h hz hr), canFF_congr fun n hn => tabF_at h hn]
    simp_arith []
  · simp_arith []
  · omega
  · intro m h1 h2 M'
    simp_arith [hc m h1 h2]

end


/-! ### XA5_k68 -/

section
theorem mul_bd {a q A Q : Int} (h : -A ≤ a ∧ a ≤ A) (hA : 0 ≤ A) (h2 : 0 ≤ q ∧ q ≤ Q) : -(A * Q) ≤ a * q ∧ a * q ≤ A * Q := by
  have h1 : -A * q ≤ a * q := Int.mul_le_mul_of_nonneg_right h.1 h2.1
  have h3 : a * q ≤ A * q := Int.mul_le_mul_of_nonneg_right h.2 h2.1
  have h4 : A * q ≤ A * Q := Int.mul_le_mul_of_nonneg_left h2.2 hA
  rw [Int.neg_mul] at h1
  omega
theorem mul_bd2 {a q A Q : Int} (h : -A ≤ a ∧ a ≤ A) (hA : 0 ≤ A) (h2 : -Q ≤ q ∧ q ≤ Q) (hQ : 0 ≤ Q) : -(A * Q) ≤ q * a ∧ q * a ≤ A * Q := by
  rcases Int.le_total 0 q with h0 | h0
  · rw [Int.mul_comm q]
    exact mul_bd h hA ⟨h0, h2.2⟩
  · have := mul_bd h hA (q := -q) (Q := Q) ⟨by omega, by omega⟩
    rw [Int.mul_neg] at this
    rw [Int.mul_comm q]
    omega
section
variable {s : FF}
theorem dp_scaled (h : s.Ok) (k : Int) : Mx.DP (fun n => k * s.at n) s.b s.w (k * s.r) := ⟨h.b0, h.w0, fun n hn => by
  show k * s.at (n + s.w) = k * s.at n + k * s.r
  rw [h.dp.2.2 n hn, Int.mul_add]⟩
theorem dp_shared (h : s.Ok) {k : Int} (hk : 0 < k) : Mx.DP (fun n => s.at n / k) s.b (s.w * k) s.r := ⟨h.b0, Int.mul_pos h.w0 hk, fun n hn => by
  show s.at (n + s.w * k) / k = s.at n / k + s.r
  rw [Int.mul_comm s.w, h.dp.mulI (by omega) hn, Int.mul_comm k, Int.add_mul_ediv_right _ _ (by omega)]⟩
theorem dp_left (h : s.Ok) {k : Int} (hk : 0 < k) : Mx.DP (fun n => s.at n % k) s.b (s.w * k) 0 := ⟨h.b0, Int.mul_pos h.w0 hk, fun n hn => by
  show s.at (n + s.w * k) % k = s.at n % k + 0
  rw [Int.mul_comm s.w, h.dp.mulI (by omega) hn, Int.add_zero, Int.add_mul_emod_self_left]⟩
theorem dp_moved (h : s.Ok) (k : Int) : Mx.DP (fun n => s.at (max 0 (n + k))) (max 0 (s.b - k)) s.w s.r := ⟨by omega, h.w0, fun n hn => by
  have hb := h.b0
  have hw := h.w0
  show s.at (max 0 (n + s.w + k)) = s.at (max 0 (n + k)) + s.r
  have e1 : max 0 (n + s.w + k) = (n + k) + s.w := by omega
  have e2 : max 0 (n + k) = n + k := by omega
  rw [e1, e2, h.dp.2.2 _ (by omega)]⟩
theorem up_add {n w k : Int} (hk : 0 < k) : upI (n + w * k) k = upI n k + w := by
  unfold upI
  have e : 0 - (n + w * k) = (0 - n) + (-w) * k := by rw [Int.neg_mul]; omega
  rw [e, Int.add_mul_ediv_right _ _ (by omega)]
  omega
theorem up_ge {n b k : Int} (hk : 0 < k) (h : b * k ≤ n) : b ≤ upI n k := by
  unfold upI
  have h1 : (0 - n) / k ≤ -b := by
    refine Int.ediv_le_of_le_mul hk ?_
    rw [Int.neg_mul]
    omega
  omega
theorem up_spec {n k : Int} (hk : 0 < k) : n ≤ upI n k * k ∧ upI n k * k < n + k := by
  unfold upI
  have h1 := Int.emod_add_mul_ediv (0 - n) k
  have h2 := Int.emod_nonneg (0 - n) (show k ≠ 0 by omega)
  have h3 := Int.emod_lt_of_pos (0 - n) hk
  rw [Int.sub_mul, Int.mul_comm ((0 - n) / k)]
  omega
theorem dp_packed (h : s.Ok) {k : Int} (hk : 0 < k) : Mx.DP (fun n => s.at (upI n k)) (s.b * k) (s.w * k) s.r := ⟨Int.mul_nonneg h.b0 (by omega), Int.mul_pos h.w0 hk, fun n hn => by
  show s.at (upI (n + s.w * k) k) = s.at (upI n k) + s.r
  rw [up_add hk, h.dp.2.2 _ (up_ge hk hn)]⟩
theorem dp_unpacked (h : s.Ok) {k g : Int} (hk : 0 < k) (hg : 0 < g) (h1 : g ∣ s.w) (h2 : g ∣ k) : Mx.DP (fun n => s.at (k * n)) (upI s.b k) (s.w / g) (s.r * (k / g)) := by
  obtain ⟨w', hw⟩ := h1
  obtain ⟨k', hk'⟩ := h2
  have hw0 := h.w0
  have e1 : s.w / g = w' := by rw [hw]; exact Int.mul_ediv_cancel_left _ (by omega)
  have e2 : k / g = k' := by rw [hk']; exact Int.mul_ediv_cancel_left _ (by omega)
  have w0 : 0 < w' := Int.pos_of_mul_pos_right (by rw [← hw]; exact hw0) hg
  have k0 : 0 < k' := Int.pos_of_mul_pos_right (by rw [← hk']; exact hk) hg
  rw [e1, e2]
  refine ⟨up_ge hk (by rw [Int.zero_mul]; exact h.b0), w0, fun n hn => ?_⟩
  show s.at (k * (n + w')) = s.at (k * n) + s.r * k'
  have e3 : k * (n + w') = k * n + k' * s.w := by
    rw [Int.mul_add, hw, hk', Int.mul_assoc, Int.mul_assoc, ← Int.mul_assoc k' g w', Int.mul_comm k' g, Int.mul_assoc]
  have hs := up_spec (n := s.b) hk
  have h3 : upI s.b k * k ≤ n * k := Int.mul_le_mul_of_nonneg_right hn (by omega)
  rw [e3, h.dp.mulI (by omega) (by rw [Int.mul_comm]; omega), Int.mul_comm k']
theorem dp_change (h : s.Ok) : Mx.DP (fun n => s.at (n + 1) - s.at n) s.b s.w 0 := ⟨h.b0, h.w0, fun n hn => by
  show s.at (n + s.w + 1) - s.at (n + s.w) = s.at (n + 1) - s.at n + 0
  have e : n + s.w + 1 = (n + 1) + s.w := by omega
  rw [e, h.dp.2.2 _ (by omega), h.dp.2.2 _ hn]
  omega⟩
end
section
variable {k : Nat} {C : List Clo} {M : Mem} {s r : FF}

theorem rise_in_ok (h : s.Ok) {w : Int} : run prL F (k + 1) C (.fn 20) [.p s.d, .p (.int w)] M = .ok (.p (.int (s.r * (w / s.w)))) M := by
  have := h.w0
  have := h.b0
  have := h.le
  have := h.rb
  rw [run_fn (d := d_rise_in) rfl rfl]
  simp_arith [d_rise_in, idx_f1, idx_f2]

theorem rises_leR (h : s.Ok) (h2 : r.Ok) (hr : -100000 ≤ s.r ∧ s.r ≤ 100000) (hr2 : -100000 ≤ r.r ∧ r.r ≤ 100000) (hz : max s.b r.b + rnd s.w r.w ≤ 5000) : 0 < rnd s.w r.w ∧ max s.b r.b + rnd s.w r.w ≤ 5000 ∧ (-500000000 ≤ s.r * (rnd s.w r.w / s.w) ∧ s.r * (rnd s.w r.w / s.w) ≤ 500000000) ∧ (-500000000 ≤ r.r * (rnd s.w r.w / r.w) ∧ r.r * (rnd s.w r.w / r.w) ≤ 500000000) := by
  have hw := h.w0
  have hw2 := h2.w0
  have hb := h.b0
  have h0 := rnd_pos hw hw2
  have l1 := Int.ediv_le_self (a := rnd s.w r.w) s.w (by omega)
  have l2 := Int.ediv_le_self (a := rnd s.w r.w) r.w (by omega)
  have g1 : 0 ≤ rnd s.w r.w / s.w := Int.ediv_nonneg (by omega) (by omega)
  have g2 : 0 ≤ rnd s.w r.w / r.w := Int.ediv_nonneg (by omega) (by omega)
  have m1 := mul_bd hr (by omega) (q := rnd s.w r.w / s.w) (Q := 5000) ⟨g1, by omega⟩
  have m2 := mul_bd hr2 (by omega) (q := rnd s.w r.w / r.w) (Q := 5000) ⟨g2, by omega⟩
  omega
theorem dp_two (h : s.Ok) (h2 : r.Ok) : Mx.DP s.at (max s.b r.b) (rnd s.w r.w) (s.r * (rnd s.w r.w / s.w)) ∧ Mx.DP r.at (max s.b r.b) (rnd s.w r.w) (r.r * (rnd s.w r.w / r.w)) := h.dp.both h2.dp (rnd_l h.w0 h2.w0) rnd_r (rnd_pos h.w0 h2.w0)

theorem raw_added_R (hF : 10000 ≤ F) (h : s.Ok) (h2 : r.Ok) (hr : -100000 ≤ s.r ∧ s.r ≤ 100000) (hr2 : -100000 ≤ r.r ∧ r.r ≤ 100000) (hz : max s.b r.b + rnd s.w r.w ≤ 5000) : run prL F (k + 6) C (.fn 21) [.p s.d, .p r.d] M = .ok (.p (canFF fun n => s.at n + r.at n).d) M := by
  obtain ⟨a1, a2, a3, a4⟩ := rises_leR h h2 hr hr2 hz
  obtain ⟨d1, d2⟩ := dp_two h h2
  have := h.w0
  have := h.b0
  have := h.le
  have := h2.w0
  have := h2.b0
  have := h2.le
  rw [run_fn (d := d_raw_added) rfl rfl]
  simp_arith [d_raw_added, idx_f0, idx_f1, common_round_ok hF, rise_in_ok]
  rw [made_ok hF (f := fun n => s.at n + r.at n) (d1.add d2) a2 ?_ ?_]
  · simp_arith []
  · omega
  · intro m m1 m2 M
    simp_arith [run_clo1, raw_price_ok]
theorem raw_lessened_R (hF : 10000 ≤ F) (h : s.Ok) (h2 : r.Ok) (hr : -100000 ≤ s.r ∧ s.r ≤ 100000) (hr2 : -100000 ≤ r.r ∧ r.r ≤ 100000) (hz : max s.b r.b + rnd s.w r.w ≤ 5000) : run prL F (k + 6) C (.fn 23) [.p s.d, .p r.d] M = .ok (.p (canFF fun n => s.at n - r.at n).d) M := by
  obtain ⟨a1, a2, a3, a4⟩ := rises_leR h h2 hr hr2 hz
  obtain ⟨d1, d2⟩ := dp_two h h2
  have := h.w0
  have := h.b0
  have := h.le
  have := h2.w0
  have := h2.b0
  have := h2.le
  rw [run_fn (d := d_raw_lessened) rfl rfl]
  simp_arith [d_raw_lessened, idx_f0, idx_f1, common_round_ok hF, rise_in_ok]
  rw [made_ok hF (f := fun n => s.at n - r.at n) (d1.less d2) a2 ?_ ?_]
  · simp_arith []
  · omega
  · intro m m1 m2 M
    simp_arith [run_clo1, raw_price_ok]
theorem raw_scaled_ok (hF : 10000 ≤ F) (h : s.Ok) {q : Int} (hq : -20 ≤ q ∧ q ≤ 20) (hr : -1000000 ≤ s.r ∧ s.r ≤ 1000000) : run prL F (k + 6) C (.fn 29) [.p s.d, .p (.int q)] M = .ok (.p (canFF fun n => q * s.at n).d) M := by
  have := mul_bd2 hr (by omega) hq (by omega)
  rw [run_fn (d := d_raw_scaled) rfl rfl]
  simp_arith [d_raw_scaled, idx_f0, idx_f1, idx_f2]
  rw [made_ok hF (f := fun n => q * s.at n) (dp_scaled h q) h.le (by omega) ?_]
  · simp_arith []
  · intro m m1 m2 M
    simp_arith [run_clo1, raw_price_ok]

theorem scaled_ok (hF : 10000 ≤ F) (h : s.Ok) {q : Int} (hq : -20 ≤ q ∧ q ≤ 20) (hr : -1000000 ≤ s.r ∧ s.r ≤ 1000000) : run prL F (k + 7) C (.fn 30) [.p s.d, .p (.int q)] M = .ok (.p (canFF fun n => q * s.at n).d) M := by
  rw [run_fn (d := d_scaled) rfl rfl]
  simp_arith [d_scaled, check_form_ok h, is_within_t, raw_scaled_ok hF h hq hr]

theorem check_share_ok (h : s.Ok) {q : Int} (hq : 1 ≤ q ∧ q ≤ 20) : run prL F (k + 5) C (.fn 31) [.p s.d, .p (.int q)] M = .ok (.p .none) M := by
  rw [run_fn (d := d_check_share) rfl rfl]
  simp_arith [d_check_share, check_form_ok h, is_within_t]

theorem raw_shared_ok (hF : 10000 ≤ F) (h : s.Ok) {q : Int} (hq : 1 ≤ q ∧ q ≤ 20) (hz : s.b + s.w * q ≤ 5000) : run prL F (k + 6) C (.fn 32) [.p s.d, .p (.int q)] M = .ok (.p (canFF fun n => s.at n / q).d) M := by
  rw [run_fn (d := d_raw_shared) rfl rfl]
  simp_arith [d_raw_shared, idx_f0, idx_f1, idx_f2]
  rw [made_ok hF (f := fun n => s.at n / q) (dp_shared h (by omega)) hz h.rb ?_]
  · simp_arith []
  · intro m m1 m2 M
    simp_arith [run_clo1, raw_price_ok]

theorem shared_ok (hF : 10000 ≤ F) (h : s.Ok) {q : Int} (hq : 1 ≤ q ∧ q ≤ 20) (hz : s.b + s.w * q ≤ 5000) : run prL F (k + 7) C (.fn 33) [.p s.d, .p (.int q)] M = .ok (.p (canFF fun n => s.at n / q).d) M := by
  rw [run_fn (d := d_shared) rfl rfl]
  simp_arith [d_shared, check_share_ok h hq, raw_shared_ok hF h hq hz]

theorem raw_left_ok (hF : 10000 ≤ F) (h : s.Ok) {q : Int} (hq : 1 ≤ q ∧ q ≤ 20) (hz : s.b + s.w * q ≤ 5000) : run prL F (k + 6) C (.fn 34) [.p s.d, .p (.int q)] M = .ok (.p (canFF fun n => s.at n % q).d) M := by
  rw [run_fn (d := d_raw_left) rfl rfl]
  simp_arith [d_raw_left, idx_f0, idx_f1, idx_f2]
  rw [made_ok hF (f := fun n => s.at n % q) (dp_left h (by omega)) hz (by omega) ?_]
  · simp_arith []
  · intro m m1 m2 M
    simp_arith [run_clo1, raw_price_ok]

theorem raw_moved_ok (hF : 10000 ≤ F) (h : s.Ok) {q : Int} (hz : max 0 (s.b - q) + s.w ≤ 5000) : run prL F (k + 6) C (.fn 35) [.p s.d, .p (.int q)] M = .ok (.p (canFF fun n => s.at (max 0 (n + q))).d) M := by
  rw [run_fn (d := d_raw_moved) rfl rfl]
  simp_arith [d_raw_moved, idx_f0, idx_f1, idx_f2]
  rw [made_ok hF (f := fun n => s.at (max 0 (n + q))) (dp_moved h q) hz h.rb ?_]
  · simp_arith []
  · intro m m1 m2 M
    simp_arith [run_clo1, raw_price_ok]

theorem raw_packed_ok (hF : 10000 ≤ F) (h : s.Ok) {q : Int} (hq : 1 ≤ q ∧ q ≤ 20) (hz : s.b * q + s.w * q ≤ 5000) : run prL F (k + 6) C (.fn 36) [.p s.d, .p (.int q)] M = .ok (.p (canFF fun n => s.at (upI n q)).d) M := by
  rw [run_fn (d := d_raw_packed) rfl rfl]
  simp_arith [d_raw_packed, idx_f0, idx_f1, idx_f2]
  rw [made_ok hF (f := fun n => s.at (upI n q)) (dp_packed h (by omega)) hz h.rb ?_]
  · simp_arith []
  · intro m m1 m2 M
    have := up_ge (n := m) (b := 0) (k := q) (by omega) (by omega)
    simp_arith [run_clo1, up_by_ok, raw_price_ok]

theorem raw_unpacked_ok (hF : 10000 ≤ F) (h : s.Ok) {q : Int} (hq : 1 ≤ q ∧ q ≤ 20) (hr : -10000000 ≤ s.r ∧ s.r ≤ 10000000) : run prL F (k + 6) C (.fn 37) [.p s.d, .p (.int q)] M = .ok (.p (canFF fun n => s.at (q * n)).d) M := by
  have hw := h.w0
  have hb := h.b0
  have hle := h.le
  have hg := gcd_le (a := s.w) (b := q) (by omega)
  have g1 := Int.ediv_le_self (a := q) (Int.gcd s.w q : Nat) (by omega)
  have g2 : 0 ≤ q / (Int.gcd s.w q : Nat) := Int.ediv_nonneg (by omega) (by omega)
  have g3 := Int.ediv_le_self (a := s.w) (Int.gcd s.w q : Nat) (by omega)
  have hm := mul_bd hr (by omega) (q := q / (Int.gcd s.w q : Nat)) (Q := 20) ⟨g2, by omega⟩
  have hu := up_spec (n := s.b) (k := q) (by omega)
  have hu0 := up_ge (n := s.b) (b := 0) (k := q) (by omega) (by omega)
  have hub : upI s.b q ≤ s.b := by
    unfold upI
    have : -s.b ≤ (0 - s.b) / q := by
      rw [Int.le_ediv_iff_mul_le (by omega)]
      have : s.b * 1 ≤ s.b * q := Int.mul_le_mul_of_nonneg_left (by omega) hb
      rw [Int.neg_mul]
      omega
    omega
  rw [run_fn (d := d_raw_unpacked) rfl rfl]
  simp_arith [d_raw_unpacked, idx_f0, idx_f1, idx_f2, common_part_ok hF, up_by_ok]
  rw [made_ok hF (f := fun n => s.at (q * n)) (dp_unpacked h (by omega) hg.1 (Int.gcd_dvd_left _ _) (Int.gcd_dvd_right _ _)) (by omega) (by omega) ?_]
  · simp_arith []
  · intro m m1 m2 M
    have := Int.mul_nonneg (show 0 ≤ q by omega) m1
    simp_arith [run_clo1, raw_price_ok]

theorem raw_change_ok (hF : 10000 ≤ F) (h : s.Ok) : run prL F (k + 6) C (.fn 38) [.p s.d] M = .ok (.p (canFF fun n => s.at (n + 1) - s.at n).d) M := by
  rw [run_fn (d := d_raw_change) rfl rfl]
  simp_arith [d_raw_change, idx_f0, idx_f1, idx_f2]
  rw [made_ok hF (f := fun n => s.at (n + 1) - s.at n) (dp_change h) h.le (by omega) ?_]
  · simp_arith []
  · intro m m1 m2 M
    simp_arith [run_clo1, raw_price_ok]

end
end


/-! ### XA6_k68 -/

/-! What every law has: its hand, its draws, alike. -/
section
mutual
inductive Lk : Nat → PyData → Prop
  | non : Lk 1 .none
  | int (i : Int) : Lk 1 (.int i)
  | bool (b : Bool) : Lk 1 (.bool b)
  | str (s : Str) (h : PyData.strOk s = true) : Lk 1 (.str s)
  | tup {n : Nat} {xs : List PyData} : LkA n xs → Lk (n + 1) (.tuple xs)
  | lst {n : Nat} {xs : List PyData} : LkA n xs → Lk (n + 1) (.list xs)
inductive LkA : Nat → List PyData → Prop
  | nil : LkA 0 []
  | cons {n m : Nat} {x : PyData} {xs : List PyData} : Lk n x → LkA m xs → LkA (n + m) (x :: xs)
end
theorem Lk.pos {n : Nat} {x : PyData} (h : Lk n x) : 0 < n := by cases h <;> omega
theorem LkA.len : ∀ {xs : List PyData} {n : Nat}, LkA n xs → xs.length ≤ n
  | [], _, _ => Nat.zero_le _
  | x :: xs, _, .cons h1 h2 => by
    have := h1.pos
    have := LkA.len h2
    rw [List.length_cons]
    omega
theorem LkA.app : ∀ {xs ys : List PyData} {n m : Nat}, LkA n xs → LkA m ys → LkA (n + m) (xs ++ ys)
  | [], ys, _, m, .nil, h => by rw [Nat.zero_add]; exact h
  | x :: xs, ys, _, m, .cons h1 h2, h => by rw [Nat.add_assoc]; exact .cons h1 (LkA.app h2 h)
theorem LkA.split {n : Nat} {x : PyData} {xs : List PyData} (h : LkA n (x :: xs)) : ∃ b m, Lk b x ∧ LkA m xs ∧ n = b + m := by
  cases h with
  | cons h1 h2 => exact ⟨_, _, h1, h2, rfl⟩
theorem LkA.zero {n : Nat} (h : LkA n []) : n = 0 := by
  cases h
  rfl
theorem LkA.last : ∀ {xs : List PyData} {x : PyData} {n : Nat}, LkA n (xs ++ [x]) → ∃ a b, LkA a xs ∧ Lk b x ∧ n = a + b
  | [], x, n, h => by
    obtain ⟨b, m, h1, h2, h3⟩ := LkA.split h
    have := h2.zero
    exact ⟨0, b, .nil, h1, by omega⟩
  | y :: xs, x, n, h => by
    obtain ⟨c, m, h1, h2, h3⟩ := LkA.split h
    obtain ⟨a, b, p1, p2, p3⟩ := LkA.last h2
    exact ⟨c + a, b, .cons h1 p1, p2, by omega⟩
def two (x : PyData) : PyData := .tuple [x, x]
/-- data that _law_like reads through in time -/
def Sz (x : PyData) : Prop := ∃ n, n ≤ 50000 ∧ Lk n x
theorem sz_none : Sz .none := ⟨1, by omega, .non⟩
theorem sz_int {i : Int} : Sz (.int i) := ⟨1, by omega, .int i⟩
theorem lkA_ints : ∀ xs : List Int, LkA xs.length (xs.map .int)
  | [] => .nil
  | b :: xs => by
    rw [List.map_cons, List.length_cons, Nat.add_comm]
    exact .cons (.int b) (lkA_ints xs)
theorem sz_form {s : FF} (h : s.Ok) : Sz s.d := by
  have h1 := h.len
  have h2 := h.le
  refine ⟨(1 + (1 + (1 + (s.pr.length + 1 + 0)))) + 1, by omega, ?_⟩
  exact .tup (.cons (.int s.b) (.cons (.int s.w) (.cons (.int s.r) (.cons (.tup (lkA_ints s.pr)) .nil))))
end
section
variable {k : Nat} {C : List Clo} {M : Mem}

theorem tyl_0 {xs : List PyData} : isTys (.p (.list xs)) [.bool] = some false := rfl
theorem tyl_1 {xs : List PyData} : isTys (.p (.list xs)) [.int] = some false := rfl
theorem tyl_2 {xs : List PyData} : isTys (.p (.list xs)) [.tuple] = some false := rfl
theorem tyl_3 {xs : List PyData} : isTys (.p (.list xs)) [.list] = some true := rfl
theorem tyl_4 {xs : List PyData} : isTys (.p (.list xs)) [.dict] = some false := rfl
theorem tyl_5 {xs : List PyData} : isTys (.p (.list xs)) [.str] = some false := rfl
theorem one_kind_ok {n : Nat} {x : PyData} (h : Lk n x) : run prL F (k + 1) C (.fn 78) [.p x, .p x] M = .ok (.p (.bool true)) M := by
  rw [run_fn (d := d_law_is_one_kind) rfl rfl]
  cases h <;> simp_arith [d_law_is_one_kind, tyl_0, tyl_1, tyl_2, tyl_3, tyl_4, tyl_5]

theorem two_comp {xs : List PyData} (hl : xs.length ≤ 50000) (x0 x1 x2 x3 x6 x7 x8 : Option D) : evE (gOf prL F k C) (.comp (.one 7) .range [.bi .len [.var 5]] [] [6, 7] (.tup [.idx (.var 4) (.var 7), .idx (.var 5) (.var 7)])) [x0, x1, x2, x3, some (.p (.tuple xs)), some (.p (.tuple xs)), x6, x7, x8] M = .ok (.p (.list (xs.map two))) M := by
  rw [comp_r1 (hi := (xs.length : Int)) (fun n => two (xs.getD n.toNat .none))]
  · have em : rowP (fun n => two (xs.getD n.toNat .none)) 0 (xs.length : Int) = xs.map two := by
      unfold rowP
      refine List.ext_getElem (by simp) fun i h1 h2 => ?_
      rw [List.length_map] at h2
      rw [List.getElem_map, List.getElem_map, List.getElem_range]
      show two (xs.getD ((0 : Int) + (i : Nat)).toNat .none) = two xs[i]
      rw [Int.zero_add, Int.toNat_natCast, List.getD_eq_getElem?_getD, List.getElem?_eq_getElem h2]
      rfl
    rw [em]
  · simp_arith []
  · omega
  · intro n h1 h2 M'
    have e : L2.atI xs n = some (xs.getD n.toNat .none) := by
      rw [atI_int h1, List.getD_eq_getElem?_getD, List.getElem?_eq_getElem (by omega)]
      rfl
    simp_arith [e]
    rfl
theorem two_compL {xs : List PyData} (hl : xs.length ≤ 50000) (x0 x1 x2 x3 x6 x7 x8 : Option D) : evE (gOf prL F k C) (.comp (.one 7) .range [.bi .len [.var 5]] [] [6, 7] (.tup [.idx (.var 4) (.var 7), .idx (.var 5) (.var 7)])) [x0, x1, x2, x3, some (.p (.list xs)), some (.p (.list xs)), x6, x7, x8] M = .ok (.p (.list (xs.map two))) M := by
  rw [comp_r1 (hi := (xs.length : Int)) (fun n => two (xs.getD n.toNat .none))]
  · have em : rowP (fun n => two (xs.getD n.toNat .none)) 0 (xs.length : Int) = xs.map two := by
      unfold rowP
      refine List.ext_getElem (by simp) fun i h1 h2 => ?_
      rw [List.length_map] at h2
      rw [List.getElem_map, List.getElem_map, List.getElem_range]
      show two (xs.getD ((0 : Int) + (i : Nat)).toNat .none) = two xs[i]
      rw [Int.zero_add, Int.toNat_natCast, List.getD_eq_getElem?_getD, List.getElem?_eq_getElem h2]
      rfl
    rw [em]
  · simp_arith []
  · omega
  · intro n h1 h2 M'
    have e : L2.atI xs n = some (xs.getD n.toNat .none) := by
      rw [atI_int h1, List.getD_eq_getElem?_getD, List.getElem?_eq_getElem (by omega)]
      rfl
    simp_arith [e]
    rfl

def likeB : List CS := [.ite (.cmp .eq (.bi .len [.var 2]) (.int 0)) [.ret (.bl true)] [], .unp [4, 5] (.me .pop (.var 2) []), .ite (.not (.call 78 [.var 4, .var 5])) [.ret (.bl false)] [], .ite (.isi (.var 5) [.tuple, .list]) [.ite (.cmp .ne (.bi .len [.var 4]) (.bi .len [.var 5])) [.ret (.bl false)] [], .expr (.me .extend (.var 2) [.comp (.one 7) .range [.bi .len [.var 5]] [] [6, 7] (.tup [.idx (.var 4) (.var 7), .idx (.var 5) (.var 7)])])] [.ite (.isi (.var 5) [.dict]) [.ite (.or (.cmp .ne (.bi .len [.var 4]) (.bi .len [.var 5])) (.not (.bi .all [.comp (.one 8) .seq [.var 5] [] [6, 8] (.cmp .isin (.var 8) (.var 4))]))) [.ret (.bl false)] [], .expr (.me .extend (.var 2) [.comp (.one 8) .seq [.var 5] [] [6, 8] (.tup [.idx (.var 4) (.var 8), .idx (.var 5) (.var 8)])])] [.ite (.cmp .ne (.var 4) (.var 5)) [.ret (.bl false)] []]]]
def likeS (x y : PyData) (L : Nat) (x3 x4 x5 x6 x7 x8 : Option D) : Sg := [some (.p x), some (.p y), some (.loc L), x3, x4, x5, x6, x7, x8]
theorem like_end {x y : PyData} (x3 x4 x5 x6 x7 x8 : Option D) : evSs (gOf prL F (k + 1) C) likeB (likeS x y M.length x3 x4 x5 x6 x7 x8) (M ++ [[]]) = .ok (.ret (.p (.bool true))) (M ++ [[]]) := by
  simp_arith [likeB, likeS, len_top]
theorem cmpne_none : opCmp .ne .none .none = some false := by decide
theorem cmpne_str {w : Str} (h : PyData.strOk w = true) : opCmp .ne (.str w) (.str w) = some false := by
  show (if (SeqAt.shaped (.str w) && SeqAt.shaped (.str w)) = true then some (!PyData.eqv (.str w) (.str w)) else none) = _
  simp [SeqAt.shaped, PyData.eqv, PyData.canLay0, PyData.depth, h]
theorem two_eq {a : PyData} {ys : List PyData} : ys.map two ++ [two a] = (ys ++ [a]).map two := by rw [List.map_append]; rfl
/-- one turn with a datum on top -/
theorem like_turn {x y a : PyData} {ys : List PyData} {b : Nat} (h : Lk b a) (hb : b ≤ 50000) (hy : ys.length ≤ 50000) (x3 x4 x5 x6 x7 x8 : Option D) : ∃ (zs : List PyData) (c : Nat), LkA c zs ∧ c < b ∧
    evSs (gOf prL F (k + 1) C) likeB (likeS x y M.length x3 x4 x5 x6 x7 x8) (M ++ [ys.map two ++ [two a]]) = .ok (.nx (likeS x y M.length x3 (some (.p a)) (some (.p a)) x6 x7 x8)) (M ++ [(ys ++ zs).map two]) := by
  have main : evSs (gOf prL F (k + 1) C) likeB (likeS x y M.length x3 x4 x5 x6 x7 x8) (M ++ [ys.map two ++ [two a]]) = evSs (gOf prL F (k + 1) C) (likeB.drop 3) (likeS x y M.length x3 (some (.p a)) (some (.p a)) x6 x7 x8) (M ++ [ys.map two]) := by
    simp_arith [likeB, likeS, len_top, List.length_append, List.length_map]
    rw [me_pop]
    simp_arith [two, one_kind_ok h, List.drop]
  rw [main]
  cases h with
  | non =>
    refine ⟨[], 0, .nil, by omega, ?_⟩
    simp_arith [likeB, likeS, List.drop, cmpne_none, isTys, isTy, Option.bind_some]
  | int i =>
    refine ⟨[], 0, .nil, by omega, ?_⟩
    simp_arith [likeB, likeS, List.drop, isTys, isTy, Option.bind_some]
  | bool i =>
    refine ⟨[], 0, .nil, by omega, ?_⟩
    simp_arith [likeB, likeS, List.drop, isTys, isTy, Option.bind_some]
  | str w hw =>
    refine ⟨[], 0, .nil, by omega, ?_⟩
    simp_arith [likeB, likeS, List.drop, isTys, isTy, Option.bind_some, cmpne_str hw]
  | tup hA =>
    rename_i c xs
    have hl := hA.len
    refine ⟨xs, c, hA, by omega, ?_⟩
    simp_arith [likeB, likeS, List.drop, isTys, isTy, Option.bind_some]
    rw [me_extend (two_comp (by omega) _ _ _ _ _ _ _) (by rw [List.length_map, List.length_map]; exact Nat.le_trans (by omega) line_big)]
    simp_arith [List.map_append]
  | lst hA =>
    rename_i c xs
    have hl := hA.len
    refine ⟨xs, c, hA, by omega, ?_⟩
    simp_arith [likeB, likeS, List.drop, isTys, isTy, Option.bind_some]
    rw [me_extend (two_compL (by omega) _ _ _ _ _ _ _) (by rw [List.length_map, List.length_map]; exact Nat.le_trans (by omega) line_big)]
    simp_arith [List.map_append]
theorem like_loop {x y : PyData} : ∀ (zs ys : List PyData) (n : Nat), LkA n ys → n < zs.length → n ≤ 50000 → ∀ (x3 x4 x5 x6 x7 x8 : Option D),
    forG (gOf prL F (k + 1) C) (.one 3) likeB zs (likeS x y M.length x3 x4 x5 x6 x7 x8) (M ++ [ys.map two]) = .ok (.ret (.p (.bool true))) (M ++ [[]])
  | [], _, _, _, hn, _, _, _, _, _, _, _ => by simp at hn
  | z :: zs, ys, n, hA, hn, hb, x3, x4, x5, x6, x7, x8 => by
    rw [forG_cons (σ1 := likeS x y M.length (some (.p z)) x4 x5 x6 x7 x8) rfl]
    rcases List.eq_nil_or_concat ys with e | ⟨us, a, e⟩
    · subst e
      rw [List.map_nil, like_end]
      rfl
    · rw [List.concat_eq_append] at e
      subst e
      obtain ⟨p, q, h1, h2, h3⟩ := LkA.last hA
      have := h1.len
      rw [← two_eq]
      obtain ⟨ws, c, w1, w2, w3⟩ := like_turn (F := F) (k := k) (C := C) (M := M) (x := x) (y := y) (ys := us) h2 (by omega) (by omega) (some (.p z)) x4 x5 x6 x7 x8
      rw [w3, bind_ok, forK_nx]
      rw [List.length_cons] at hn
      exact like_loop zs (us ++ ws) (p + c) (h1.app w1) (by omega) (by omega) _ _ _ _ _ _
theorem it_60000 : itemsI M .range [.p (.int 60000)] = some (rng 0 60000) := by
  have h := it_rng1 (M := M) (j := 60000) (by decide)
  rw [show Int.toNat (60000 : Int) = 60000 from rfl] at h
  exact h
theorem like_ok {x : PyData} (h : Sz x) : run prL F (k + 2) C (.fn 79) [.p x, .p x] M = .ok (.p (.bool true)) M := by
  obtain ⟨n, hn, h⟩ := h
  have loop := like_loop (F := F) (k := k) (C := C) (M := M) (x := x) (y := x) (rng 0 60000) [x] n (by
    have := LkA.cons h .nil
    exact this) (by rw [rng_length]; omega) hn none none none none none none
  rw [run_fn (d := d_law_like) rfl rfl]
  simp_arith [d_law_like, lstMR_1, it_60000]
  unfold likeB likeS at loop
  rw [show [x].map two = [.tuple [x, x]] from rfl] at loop
  rw [loop]
  simp_arith [take_top]
end
section
variable {k : Nat} {C : List Clo} {R : Mem}
def hnd (ns : List Int) (i j s t : Int) : List PyData := [.list (ns.map .int), .int i, .int j, .int s, .int t]
def Hand (H : List PyData) : Prop := ∃ (ns : List Int) (i j s t : Int), H = hnd ns i j s t ∧ 0 ≤ i
section
variable {ns : List Int} {i j s t d : Int} {σ : Sg}
theorem set1 : setR σ (.loc 0) (.p (.int 1)) (.p (.int d)) (hnd ns i j s t :: R) = .ok (.nx σ) (hnd ns d j s t :: R) := Eq.trans rfl rfl
theorem set2 : setR σ (.loc 0) (.p (.int 2)) (.p (.int d)) (hnd ns i j s t :: R) = .ok (.nx σ) (hnd ns i d s t :: R) := Eq.trans rfl rfl
theorem set3 : setR σ (.loc 0) (.p (.int 3)) (.p (.int d)) (hnd ns i j s t :: R) = .ok (.nx σ) (hnd ns i j d t :: R) := Eq.trans rfl rfl
theorem set4 : setR σ (.loc 0) (.p (.int 4)) (.p (.int d)) (hnd ns i j s t :: R) = .ok (.nx σ) (hnd ns i j s d :: R) := Eq.trans rfl rfl
theorem hi0 : opIdx (hnd ns i j s t :: R) (.loc 0) (.p (.int 0)) = some (.p (.list (ns.map .int))) := Eq.trans rfl rfl
theorem hi1 : opIdx (hnd ns i j s t :: R) (.loc 0) (.p (.int 1)) = some (.p (.int i)) := Eq.trans rfl rfl
theorem hi2 : opIdx (hnd ns i j s t :: R) (.loc 0) (.p (.int 2)) = some (.p (.int j)) := Eq.trans rfl rfl
theorem hi3 : opIdx (hnd ns i j s t :: R) (.loc 0) (.p (.int 3)) = some (.p (.int s)) := Eq.trans rfl rfl
theorem hi4 : opIdx (hnd ns i j s t :: R) (.loc 0) (.p (.int 4)) = some (.p (.int t)) := Eq.trans rfl rfl
theorem take_H2 {H2 : List PyData} : List.take (List.length R + 1) (H2 :: R) = H2 :: R := by
  rw [List.take_succ_cons, List.take_length]
end

theorem drawA_ok {ns : List Int} {i j s t : Int} (hi : 0 ≤ i) (n : Int) : ∃ (x2 : Option D) (i2 j2 s2 : Int), 0 ≤ i2 ∧ ∀ k C (R : Mem), evS (gOf prL F k C) (.ite (.and (.cmp .eq (.idx (.var 0) (.int 2)) (.int 0)) (.cmp .lt (.idx (.var 0) (.int 1)) (.bi .len [.idx (.var 0) (.int 0)]))) [.asg 2 (.idx (.idx (.var 0) (.int 0)) (.idx (.var 0) (.int 1))), .setix (.var 0) (.int 1) (.bin .add (.idx (.var 0) (.int 1)) (.int 1)), .setix (.var 0) (.int 3) (.bin .mod (.bi .int [.bin .add (.bin .add (.bin .mul (.idx (.var 0) (.int 3)) (.int 48271)) (.bin .mul (.var 2) (.int 69621))) (.int 17)]) (.int 2147483629)), .ite (.cmp .ge (.var 2) (.bin .pow (.int 10) (.int 18))) [.setix (.var 0) (.int 2) (.var 2)] []] []) [some (.loc 0), some (.p (.int n)), none, none, none] (hnd ns i j s t :: R) = .ok (.nx [some (.loc 0), some (.p (.int n)), x2, none, none]) (hnd ns i2 j2 s2 t :: R) := by
  by_cases h1 : j = 0
  · by_cases h2 : i < ns.length
    · by_cases h3 : 1000000000000000000 ≤ gi ns i
      · exact ⟨_, i + 1, _, _, by omega, fun k C R => by simp_arith [hi0, hi1, hi2, hi3, s_setix, set1, set2, set3, List.length_map, atI_ints, b_pow18]; rfl⟩
      · exact ⟨_, i + 1, _, _, by omega, fun k C R => by simp_arith [hi0, hi1, hi2, hi3, s_setix, set1, set2, set3, List.length_map, atI_ints, b_pow18]; rfl⟩
    · exact ⟨_, _, _, _, hi, fun k C R => by simp_arith [hi0, hi1, hi2, List.length_map]; rfl⟩
  · exact ⟨_, _, _, _, hi, fun k C R => by simp_arith [hi0, hi1, hi2, h1]; rfl⟩
theorem draw_ok {H : List PyData} (hH : Hand H) {n : Int} (hn : 0 < n ∧ n ≤ 1000000000) : ∃ (v : Int) (H2 : List PyData), Hand H2 ∧ 0 ≤ v ∧ v < n ∧ ∀ k C R, run prL F (k + 1) C (.fn 75) [.loc 0, .p (.int n)] (H :: R) = .ok (.p (.int v)) (H2 :: R) := by
  obtain ⟨ns, i, j, s, t, rfl, hi⟩ := hH
  obtain ⟨x2, i2, j2, s2, hi2', hA⟩ := drawA_ok (F := F) (ns := ns) (j := j) (s := s) (t := t) hi n
  have start : ∀ k C (R : Mem), evSs (gOf prL F k C) d_law_draw.body [some (.loc 0), some (.p (.int n)), none, none, none] (hnd ns i j s t :: R) = evSs (gOf prL F k C) (d_law_draw.body.drop 1) [some (.loc 0), some (.p (.int n)), x2, none, none] (hnd ns i2 j2 s2 t :: R) := fun k C R => by
    have e : d_law_draw.body = (.ite (.and (.cmp .eq (.idx (.var 0) (.int 2)) (.int 0)) (.cmp .lt (.idx (.var 0) (.int 1)) (.bi .len [.idx (.var 0) (.int 0)]))) [.asg 2 (.idx (.idx (.var 0) (.int 0)) (.idx (.var 0) (.int 1))), .setix (.var 0) (.int 1) (.bin .add (.idx (.var 0) (.int 1)) (.int 1)), .setix (.var 0) (.int 3) (.bin .mod (.bi .int [.bin .add (.bin .add (.bin .mul (.idx (.var 0) (.int 3)) (.int 48271)) (.bin .mul (.var 2) (.int 69621))) (.int 17)]) (.int 2147483629)), .ite (.cmp .ge (.var 2) (.bin .pow (.int 10) (.int 18))) [.setix (.var 0) (.int 2) (.var 2)] []] []) :: d_law_draw.body.drop 1 := rfl
    rw [e, s_cons, hA, bind_ok, seq_nx]
    rfl
  have st : ∀ R : Mem, Ev.start d_law_draw.nN [.loc 0, .p (.int n)] = [some (.loc 0), some (.p (.int n)), none, none, none] := fun _ => rfl
  by_cases hj : 0 < j2
  · refine ⟨j2 % n, hnd ns i2 (j2 / n) s2 t, ⟨_, _, _, _, _, rfl, hi2'⟩, Int.emod_nonneg _ (by omega), Int.emod_lt_of_pos _ hn.1, fun k C R => ?_⟩
    rw [run_fn (d := d_law_draw) rfl rfl, st R, start]
    simp_arith [d_law_draw, List.drop, hi2, s_setix, set2, take_H2]
  · have m1 := Int.emod_nonneg ((s2 + 7927 * (t + 1)) * 69621) (show (2147483647 : Int) ≠ 0 by omega)
    have m1' := Int.emod_lt_of_pos ((s2 + 7927 * (t + 1)) * 69621) (show (0 : Int) < 2147483647 by omega)
    obtain ⟨a, ha⟩ : ∃ a, a = ((s2 + 7927 * (t + 1)) * 69621) % 2147483647 := ⟨_, rfl⟩
    rw [← ha] at m1 m1'
    have m2 := Int.emod_nonneg (a * (a / 1013 + 48271)) (show (2147483647 : Int) ≠ 0 by omega)
    have m2' := Int.emod_lt_of_pos (a * (a / 1013 + 48271)) (show (0 : Int) < 2147483647 by omega)
    obtain ⟨b, hb⟩ : ∃ b, b = (a * (a / 1013 + 48271)) % 2147483647 := ⟨_, rfl⟩
    rw [← hb] at m2 m2'
    refine ⟨((b * (b / 2011 + 40692)) % 2147483563 / 32) % n, hnd ns i2 j2 s2 (t + 1), ⟨_, _, _, _, _, rfl, hi2'⟩, Int.emod_nonneg _ (by omega), Int.emod_lt_of_pos _ hn.1, fun k C R => ?_⟩
    rw [run_fn (d := d_law_draw) rfl rfl, st R, start]
    simp_arith [d_law_draw, List.drop, hi2, hi3, hi4, s_setix, set4]
    rw [← ha, ← hb]
    simp_arith [take_H2]

theorem hand_ok (ns : List Int) (hl : ns.length ≤ 63) : ∃ H : List PyData, Hand H ∧ run prL F (k + 1) C (.fn 74) [.scr (ns.map .int)] [] = .ok (.loc 0) [H] := by
  have ec : cut (ns.map PyData.int) none (some 63) = ns.map PyData.int := by
    rw [cut_to (by omega)]
    exact List.take_of_length_le (by rw [List.length_map]; exact hl)
  refine ⟨hnd (ns.map fun v => (v.natAbs : Int) % 1000000000000000000000000000000000000) 0 0 (613 + 11 * ns.length) 0, ⟨_, _, _, _, _, rfl, Int.le_refl 0⟩, ?_⟩
  rw [run_fn (d := d_law_hand) rfl rfl]
  simp_arith [d_law_hand]
  rw [comp_lI (xs := ns) (fun v => .int ((v.natAbs : Int) % 1000000000000000000000000000000000000))]
  · simp_arith [List.length_map]
    have em : ns.map (fun v => PyData.int ((v.natAbs : Int) % 1000000000000000000000000000000000000)) = (ns.map fun v => (v.natAbs : Int) % 1000000000000000000000000000000000000).map .int := by
      rw [List.map_map]
      rfl
    rw [em]
    rfl
  · simp_arith [ec]
  · omega
  · intro n _ M'
    simp_arith [b_pow36]

theorem great_loop : ∀ (m : Nat) (lo v : Int) (H : List PyData) (x2 : Option D), Hand H → 0 ≤ v → ∃ (w : Int) (H2 : List PyData) (y2 : Option D), Hand H2 ∧ 0 ≤ w ∧ ∀ k C (R : Mem),
    forG (gOf prL F (k + 1) C) (.one 2) [.asg 1 (.bin .add (.bin .mul (.var 1) (.bin .pow (.int 10) (.int 9))) (.call 75 [.var 0, .bin .pow (.int 10) (.int 9)]))] (rng lo m) [some (.loc 0), some (.p (.int v)), x2] (H :: R) = .ok (.nx [some (.loc 0), some (.p (.int w)), y2]) (H2 :: R)
  | 0, lo, v, H, x2, hH, hv => ⟨v, H, x2, hH, hv, fun k C R => rfl⟩
  | m + 1, lo, v, H, x2, hH, hv => by
    obtain ⟨d, H1, h1, d0, d1, d2⟩ := draw_ok (F := F) hH (n := 1000000000) (by omega)
    obtain ⟨w, H2, y2, h2, hw, ih⟩ := great_loop m (lo + 1) (v * 1000000000 + d) H1 (some (.p (.int lo))) h1 (by omega)
    refine ⟨w, H2, y2, h2, hw, fun k C R => ?_⟩
    have e : rng lo (m + 1) = .int lo :: rng (lo + 1) m := by
      unfold rng
      rw [List.range_succ_eq_map, List.map_cons, List.map_map]
      congr 1
      · show PyData.int (lo + ((0 : Nat) : Int)) = _
        rw [Int.natCast_zero, Int.add_zero]
      · refine List.map_congr_left fun k _ => ?_
        show PyData.int (lo + ((k + 1 : Nat) : Int)) = PyData.int (lo + 1 + (k : Int))
        congr 1
        omega
    rw [e, forG_cons (σ1 := [some (.loc 0), some (.p (.int v)), some (.p (.int lo))]) rfl]
    simp_arith [b_pow9, d2]
    exact ih k C R
theorem great_ok {H : List PyData} (hH : Hand H) : ∃ (v : Int) (H2 : List PyData), Hand H2 ∧ 0 ≤ v ∧ ∀ k C R, run prL F (k + 2) C (.fn 77) [.loc 0] (H :: R) = .ok (.p (.int v)) (H2 :: R) := by
  obtain ⟨b, H1, hH1, b1, b2, r1⟩ := draw_ok (F := F) hH (n := 90) (by omega)
  obtain ⟨w, H2, hH2, w1, w2, r2⟩ := draw_ok (F := F) hH1 (n := 2) (by omega)
  by_cases hw : w = 1
  · refine ⟨b, H2, hH2, b1, fun k C R => ?_⟩
    rw [run_fn (d := d_law_great) rfl rfl]
    simp_arith [d_law_great, r1, r2, take_H2]
  · obtain ⟨q, H3, hH3, q1, q2, r3⟩ := draw_ok (F := F) hH2 (n := 4) (by omega)
    obtain ⟨v, H4, y2, hH4, hv, lp⟩ := great_loop (F := F) (1 + q).toNat 0 b H3 none hH3 b1
    refine ⟨v, H4, hH4, hv, fun k C R => ?_⟩
    rw [run_fn (d := d_law_great) rfl rfl]
    simp_arith [d_law_great, r1, r2, r3, hw, it_r1]
    rw [lp]
    simp_arith [take_H2]

end


/-! ### XA7_k68 -/

/-! Comparisons of data; fractions; budgets; the law's forms. -/
section
theorem eqv_bool (a b : Bool) : PyData.eqv (.bool a) (.bool b) = decide (a = b) := by cases a <;> cases b <;> simp [PyData.eqv]
theorem eqvAll_bools : ∀ xs ys : List Bool, PyData.eqvAll (xs.map .bool) (ys.map .bool) = decide (xs = ys)
  | [], [] => by simp [PyData.eqvAll]
  | [], _ :: _ => by simp [PyData.eqvAll]
  | _ :: _, [] => by simp [PyData.eqvAll]
  | x :: xs, y :: ys => by
    rw [List.map_cons, List.map_cons, PyData.eqvAll, eqv_bool, eqvAll_bools xs ys]
    by_cases h1 : x = y <;> by_cases h2 : xs = ys <;> simp [h1, h2]
theorem lay_bools : ∀ xs : List Bool, PyData.canLayAll0 (xs.map .bool) = true
  | [] => rfl
  | x :: xs => by
    rw [List.map_cons, PyData.canLayAll0, lay_bools xs]
    rfl
theorem dep_bools : ∀ xs : List Bool, PyData.depthAll (xs.map .bool) = 0
  | [] => rfl
  | x :: xs => by
    rw [List.map_cons, PyData.depthAll, dep_bools xs]
    rfl
theorem shaped_bools (xs : List Bool) : SeqAt.shaped (.tuple (xs.map .bool)) = true := by
  unfold SeqAt.shaped
  rw [PyData.canLay0, lay_bools, PyData.depth, dep_bools]
  rfl
theorem cmp_bls (xs ys : List Bool) : opCmp .eq (.tuple (xs.map .bool)) (.tuple (ys.map .bool)) = some (decide (xs = ys)) := by
  show (if (SeqAt.shaped _ && SeqAt.shaped _) = true then some (PyData.eqv (.tuple (xs.map .bool)) (.tuple (ys.map .bool))) else none) = _
  rw [shaped_bools, shaped_bools, PyData.eqv, eqvAll_bools]
  rfl
/-! fractions -/
def frac (a b : Int) : Int × Int := (a / (Int.gcd b a : Nat), b / (Int.gcd b a : Nat))
theorem CanF.r0 {f : Int → Int} {b w r : Int} (h : CanF f b w r) (hw : 0 < w) : (canFF f).r = 0 ↔ r = 0 := by
  have h1 := h.cr
  have h2 := h.ok.w0
  constructor
  · intro e
    rw [e, Int.zero_mul] at h1
    rcases Int.mul_eq_zero.mp h1.symm with h | h <;> omega
  · intro e
    rw [e, Int.zero_mul] at h1
    rcases Int.mul_eq_zero.mp h1 with h | h <;> omega
theorem CanF.pr {f : Int → Int} {b w r : Int} (h : CanF f b w r) : (canFF f).pr = rowI f 0 ((canFF f).b + (canFF f).w) := by
  rw [← FF.row h.ok]
  exact row_congr fun n h1 h2 => h.at_ n h1
/-! min, max -/
theorem foldl_min : ∀ (xs : List Int) (x : Int), (xs.foldl min x ≤ x ∧ ∀ y ∈ xs, xs.foldl min x ≤ y) ∧ (xs.foldl min x = x ∨ xs.foldl min x ∈ xs)
  | [], x => ⟨⟨Int.le_refl _, by simp⟩, .inl rfl⟩
  | y :: xs, x => by
    obtain ⟨⟨h1, h2⟩, h3⟩ := foldl_min xs (min x y)
    rw [List.foldl_cons]
    refine ⟨⟨by omega, fun z hz => ?_⟩, ?_⟩
    · rcases List.mem_cons.mp hz with e | e
      · omega
      · exact h2 z e
    · rcases h3 with e | e
      · by_cases hxy : x ≤ y
        · left; omega
        · right
          rw [List.mem_cons]
          left; omega
      · exact .inr (List.mem_cons_of_mem _ e)
theorem foldl_max : ∀ (xs : List Int) (x : Int), (x ≤ xs.foldl max x ∧ ∀ y ∈ xs, y ≤ xs.foldl max x) ∧ (xs.foldl max x = x ∨ xs.foldl max x ∈ xs)
  | [], x => ⟨⟨Int.le_refl _, by simp⟩, .inl rfl⟩
  | y :: xs, x => by
    obtain ⟨⟨h1, h2⟩, h3⟩ := foldl_max xs (max x y)
    rw [List.foldl_cons]
    refine ⟨⟨by omega, fun z hz => ?_⟩, ?_⟩
    · rcases List.mem_cons.mp hz with e | e
      · omega
      · exact h2 z e
    · rcases h3 with e | e
      · by_cases hxy : x ≤ y
        · right
          rw [List.mem_cons]
          left; omega
        · left; omega
      · exact .inr (List.mem_cons_of_mem _ e)
/-- the least, the greatest of a list that has items -/
def minL : List Int → Int
  | [] => 0
  | x :: r => r.foldl min x
def maxL : List Int → Int
  | [] => 0
  | x :: r => r.foldl max x
theorem minL_le {xs : List Int} {y : Int} (h : y ∈ xs) : minL xs ≤ y := by
  cases xs with
  | nil => cases h
  | cons x r =>
    obtain ⟨⟨h1, h2⟩, _⟩ := foldl_min r x
    rcases List.mem_cons.mp h with e | e
    · rw [e]; exact h1
    · exact h2 y e
theorem minL_mem {xs : List Int} (h : xs ≠ []) : minL xs ∈ xs := by
  cases xs with
  | nil => exact absurd rfl h
  | cons x r =>
    rcases (foldl_min r x).2 with e | e
    · show r.foldl min x ∈ x :: r
      rw [e]; exact List.mem_cons_self
    · exact List.mem_cons_of_mem _ e
theorem maxL_ge {xs : List Int} {y : Int} (h : y ∈ xs) : y ≤ maxL xs := by
  cases xs with
  | nil => cases h
  | cons x r =>
    obtain ⟨⟨h1, h2⟩, _⟩ := foldl_max r x
    rcases List.mem_cons.mp h with e | e
    · rw [e]; exact h1
    · exact h2 y e
theorem maxL_mem {xs : List Int} (h : xs ≠ []) : maxL xs ∈ xs := by
  cases xs with
  | nil => exact absurd rfl h
  | cons x r =>
    rcases (foldl_max r x).2 with e | e
    · show r.foldl max x ∈ x :: r
      rw [e]; exact List.mem_cons_self
    · exact List.mem_cons_of_mem _ e
theorem bi_minT {M : Mem} {xs : List Int} (h : xs ≠ []) : opBi M .min [.p (.tuple (xs.map .int))] = some (.p (.int (minL xs))) := by
  cases xs with
  | nil => exact absurd rfl h
  | cons x r =>
    show ((some ((x :: r).map PyData.int)).bind intsOf).bind (fun xs => (min? xs).map fun m => D.p (.int m)) = _
    rw [Option.bind_some, ints_map]
    rfl
theorem bi_minL {M : Mem} {xs : List Int} (h : xs ≠ []) : opBi M .min [.p (.list (xs.map .int))] = some (.p (.int (minL xs))) := by
  cases xs with
  | nil => exact absurd rfl h
  | cons x r =>
    show ((some ((x :: r).map PyData.int)).bind intsOf).bind (fun xs => (min? xs).map fun m => D.p (.int m)) = _
    rw [Option.bind_some, ints_map]
    rfl
theorem bi_maxT {M : Mem} {xs : List Int} (h : xs ≠ []) : opBi M .max [.p (.tuple (xs.map .int))] = some (.p (.int (maxL xs))) := by
  cases xs with
  | nil => exact absurd rfl h
  | cons x r =>
    show ((some ((x :: r).map PyData.int)).bind intsOf).bind (fun xs => (max? xs).map fun m => D.p (.int m)) = _
    rw [Option.bind_some, ints_map]
    rfl
theorem bi_maxL {M : Mem} {xs : List Int} (h : xs ≠ []) : opBi M .max [.p (.list (xs.map .int))] = some (.p (.int (maxL xs))) := by
  cases xs with
  | nil => exact absurd rfl h
  | cons x r =>
    show ((some ((x :: r).map PyData.int)).bind intsOf).bind (fun xs => (max? xs).map fun m => D.p (.int m)) = _
    rw [Option.bind_some, ints_map]
    rfl
theorem mem_row {f : Int → Int} {lo hi x : Int} : x ∈ rowI f lo hi ↔ ∃ n, lo ≤ n ∧ n < hi ∧ f n = x := by
  unfold rowI
  rw [List.mem_map]
  constructor
  · rintro ⟨k, hk, rfl⟩
    have := List.mem_range.mp hk
    exact ⟨lo + k, by omega, by omega, rfl⟩
  · rintro ⟨n, h1, h2, rfl⟩
    refine ⟨(n - lo).toNat, List.mem_range.mpr (by omega), ?_⟩
    congr 1
    omega
theorem row_ne {f : Int → Int} {lo hi : Int} (h : lo < hi) : rowI f lo hi ≠ [] := by
  intro e
  have := len_rowI (f := f) (lo := lo) (hi := hi)
  rw [e] at this
  simp at this
  omega
theorem pr_ne {s : FF} (h : s.Ok) : s.pr ≠ [] := by
  have h1 := h.len
  have h2 := h.b0
  have h3 := h.w0
  intro e
  rw [e] at h1
  simp at h1
  omega
end
section
variable {k : Nat} {C : List Clo} {M : Mem} {s r : FF}

/-! ### climbing -/
structure Climb (s : FF) : Prop where
  ok : s.Ok
  up : ∀ n, 0 ≤ n → s.at n ≤ s.at (n + 1)
  r0 : 0 < s.r
theorem Climb.mono {s : FF} (h : Climb s) {m : Int} (hm : 0 ≤ m) : ∀ j : Nat, s.at m ≤ s.at (m + j)
  | 0 => by simp
  | j + 1 => by
    have h1 := h.mono hm j
    have h2 := h.up (m + j) (by omega)
    have e : m + ((j + 1 : Nat) : Int) = m + (j : Int) + 1 := by omega
    rw [e]
    omega
theorem Climb.le {s : FF} (h : Climb s) {m n : Int} (hm : 0 ≤ m) (hn : m ≤ n) : s.at m ≤ s.at n := by
  have := h.mono hm (n - m).toNat
  rw [show m + ((n - m).toNat : Int) = n by omega] at this
  exact this
open Classical in
/-- the most that a budget buys -/
noncomputable def mostI (f : Int → Int) (m : Int) : Int := if h : ∃ n, 0 ≤ n ∧ f n ≤ m ∧ m < f (n + 1) then choose h else 0
/-! ### the law's own -/
theorem law_at_ok (h : s.Ok) {n : Int} (hn : 0 ≤ n) : run prL F (k + 1) C (.fn 80) [.p s.d, .p (.int n)] M = .ok (.p (.int (s.at n))) M := by
  have h1 := h.b0
  have h2 := h.w0
  have h3 := h.len
  have h4 := h.le
  have h5 := h.rb
  by_cases hlt : n < s.b + s.w
  · rw [run_fn (d := d_law_at) rfl rfl]
    simp_arith [d_law_at, unp_f, atI_ints, s.at_lt hlt]
  · have l1 := Int.emod_nonneg (n - s.b) (show s.w ≠ 0 by omega)
    have l2 := Int.emod_lt_of_pos (n - s.b) h2
    have l3 := Int.emod_add_mul_ediv (n - s.b) s.w
    have e : n - (n - s.b) / s.w * s.w = s.b + (n - s.b) % s.w := by
      rw [Int.mul_comm]
      omega
    rw [run_fn (d := d_law_at) rfl rfl]
    simp_arith [d_law_at, unp_f, e, atI_ints, s.at_ge h (show s.b ≤ n by omega)]

end


/-! ### XA8_k68 -/

/-! The law's draws: rows, forms, climbing forms. -/
section
theorem rng_succ {lo : Int} {m : Nat} : rng lo (m + 1) = .int lo :: rng (lo + 1) m := by
  unfold rng
  rw [List.range_succ_eq_map, List.map_cons, List.map_map]
  congr 1
  · show PyData.int (lo + ((0 : Nat) : Int)) = _
    rw [Int.natCast_zero, Int.add_zero]
  · refine List.map_congr_left fun k _ => ?_
    show PyData.int (lo + ((k + 1 : Nat) : Int)) = PyData.int (lo + 1 + (k : Int))
    congr 1
    omega

/-- draws one behind another -/
inductive Draws (F : Nat) (n : Int) : List PyData → List Int → List PyData → Prop
  | nil {H : List PyData} : Draws F n H [] H
  | cons {H H1 H2 : List PyData} {v : Int} {vs : List Int} : (∀ k C R, run prL F (k + 1) C (.fn 75) [.loc 0, .p (.int n)] (H :: R) = .ok (.p (.int v)) (H1 :: R)) → Draws F n H1 vs H2 → Draws F n H (v :: vs) H2
theorem draws_ok {n : Int} (hn : 0 < n ∧ n ≤ 1000000000) : ∀ (m : Nat) {H : List PyData}, Hand H → ∃ vs H2, vs.length = m ∧ (∀ v ∈ vs, 0 ≤ v ∧ v < n) ∧ Hand H2 ∧ Draws F n H vs H2
  | 0, H, hH => ⟨[], H, rfl, by simp, hH, .nil⟩
  | m + 1, H, hH => by
    obtain ⟨v, H1, h1, v0, v1, r1⟩ := draw_ok (F := F) hH hn
    obtain ⟨vs, H2, a1, a2, a3, a4⟩ := draws_ok hn m h1
    refine ⟨v :: vs, H2, by rw [List.length_cons, a1], fun u hu => ?_, a3, .cons r1 a4⟩
    rcases List.mem_cons.mp hu with e | e
    · rw [e]; exact ⟨v0, v1⟩
    · exact a2 u e
theorem compL_draws {n : Int} {L : Nat} {turn : PyData → Mem → Ev.R (Option PyData)} {gv : Int → PyData} {R : Mem} (hL : L = R.length + 1)
    (ht : ∀ (j v : Int) (H1 H2 : List PyData) (acc : List PyData), (∀ k C R, run prL F (k + 1) C (.fn 75) [.loc 0, .p (.int n)] (H1 :: R) = .ok (.p (.int v)) (H2 :: R)) → turn (.int j) (H1 :: (R ++ [acc])) = .ok (some (gv v)) (H2 :: (R ++ [acc]))) :
    ∀ {vs : List Int} {H H2 acc : List PyData} {lo : Int}, Draws F n H vs H2 → acc.length + vs.length ≤ 1000000 → compL L turn (rng lo vs.length) (H :: (R ++ [acc])) = .ok (.p (.list (acc ++ vs.map gv))) (H2 :: R)
  | [], H, _, acc, lo, .nil, _ => by
    have e : (H :: (R ++ [acc]))[L]? = some acc := by rw [hL, List.getElem?_cons_succ, at_top]
    have e2 : (H :: (R ++ [acc])).take L = H :: R := by rw [hL, List.take_succ_cons, take_top]
    show compL L turn [] _ = _
    unfold compL
    rw [e, e2]
    simp
  | v :: vs, H, H2, acc, lo, .cons (H1 := H1) h1 h2, hz => by
    have e : (H1 :: (R ++ [acc]))[L]? = some acc := by rw [hL, List.getElem?_cons_succ, at_top]
    have e2 : (H1 :: (R ++ [acc])).take L = H1 :: R := by rw [hL, List.take_succ_cons, take_top]
    rw [List.length_cons] at hz ⊢
    have hlt : acc.length < sizeLine := Nat.lt_of_lt_of_le (by omega) line_big
    rw [rng_succ]
    unfold compL
    rw [ht lo v H H1 acc h1]
    simp only [e, e2, hlt, if_true]
    rw [List.cons_append, compL_draws hL ht h2 (by rw [List.length_append]; simp; omega)]
    simp
theorem comp_draws {g : G} {σ : Sg} {R : Mem} {H H2 : List PyData} {n m : Int} {vs : List Int} {args : List CE} {own : List Nat} {elt : CE} {i : Nat} (gv : Int → PyData) (hD : Draws F n H vs H2) (hm : (vs.length : Int) = m) (hm2 : m ≤ 1000000) (hargs : evEs g args σ (H :: R) = .ok [.p (.int m)] (H :: R))
    (ht : ∀ (j v : Int) (H1 H2 : List PyData) (acc : List PyData), (∀ k C R, run prL F (k + 1) C (.fn 75) [.loc 0, .p (.int n)] (H1 :: R) = .ok (.p (.int v)) (H2 :: R)) → evE g elt ((wipe σ own).set i (some (.p (.int j)))) (H1 :: (R ++ [acc])) = .ok (.p (gv v)) (H2 :: (R ++ [acc]))) :
    evE g (.comp (.one i) .range args [] own elt) σ (H :: R) = .ok (.p (.list (vs.map gv))) (H2 :: R) := by
  unfold evE
  rw [hargs]
  have e : m.toNat = vs.length := by omega
  have hit : itemsI (H :: R) .range [.p (.int m)] = some (rng 0 vs.length) := by
    rw [it_r1 ⟨by omega, by omega⟩, e]
  simp only [bind_ok, hit]
  have key := compL_draws (F := F) (n := n) (L := (H :: R).length) (gv := gv) (R := R) (turn := fun x M2 => match bindT (.one i) x (wipe σ own) with
        | some σ' => (evEs g [] σ' M2).bind fun ks M3 => match ks with
          | [] => (evE g elt σ' M3).bind fun d M4 => match d with
            | .p y => .ok (some y) M4
            | _ => .bad
          | [.p (.bool true)] => (evE g elt σ' M3).bind fun d M4 => match d with
            | .p y => .ok (some y) M4
            | _ => .bad
          | [.p (.bool false)] => .ok none M3
          | _ => .bad
        | none => .bad) rfl (fun j v H1 H2 acc h => by
          have e : bindT (.one i) (.int j) (wipe σ own) = some ((wipe σ own).set i (some (.p (.int j)))) := rfl
          simp only [e, e_nil, bind_ok, ht j v H1 H2 acc h]) (acc := []) (lo := 0) hD (by simp; omega)
  rw [List.nil_append] at key
  exact key

theorem law_form_ok {H : List PyData} (hH : Hand H) {great : Int} (hg : 0 ≤ great ∧ great ≤ 1000) : ∃ (s : FF) (H2 : List PyData), Hand H2 ∧ s.Ok ∧ s.b ≤ 4 ∧ s.w ≤ 4 ∧ (-great ≤ s.r ∧ s.r ≤ great) ∧ (∀ p ∈ s.pr, -great ≤ p ∧ p ≤ great) ∧ ∀ k C R, run prL F (k + 2) C (.fn 84) [.loc 0, .p (.int great)] (H :: R) = .ok (.p s.d) (H2 :: R) := by
  obtain ⟨b, H1, hH1, b1, b2, r1⟩ := draw_ok (F := F) hH (n := 5) (by omega)
  obtain ⟨w, H2, hH2, w1, w2, r2⟩ := draw_ok (F := F) hH1 (n := 4) (by omega)
  obtain ⟨r, H3, hH3, q1, q2, r3⟩ := draw_ok (F := F) hH2 (n := 2 * great + 1) (by omega)
  obtain ⟨vs, H4, v1, v2, hH4, hD⟩ := draws_ok (F := F) (n := 2 * great + 1) (by omega) (b + (1 + w)).toNat hH3
  refine ⟨⟨b, 1 + w, r - great, vs.map fun v => v - great⟩, H4, hH4, ⟨b1, by show 0 < 1 + w; omega, by show ((vs.map _).length : Int) = b + (1 + w); rw [List.length_map]; omega, by show b + (1 + w) ≤ 5000; omega, by show -1000000000000000 ≤ r - great ∧ r - great ≤ 1000000000000000; omega⟩, by show b ≤ 4; omega, by show 1 + w ≤ 4; omega, by show -great ≤ r - great ∧ r - great ≤ great; omega, fun p hp => ?_, fun k C R => ?_⟩
  · obtain ⟨v, hv, rfl⟩ := List.mem_map.mp hp
    have := v2 v hv
    omega
  · rw [run_fn (d := d_law_form) rfl rfl]
    simp_arith [d_law_form, r1, r2, r3]
    rw [comp_draws (fun v => .int (v - great)) hD (m := b + (1 + w)) (by omega) (by omega)]
    · have em : vs.map (fun v => PyData.int (v - great)) = (vs.map fun v => v - great).map .int := by
        rw [List.map_map]
        rfl
      rw [em]
      simp_arith [mkF, take_H2]
    · simp_arith []
    · intro j v H1 H2 acc hr
      simp_arith [hr]

end


/-! ### XA9_k68 -/

/-! The law's own least forms. -/
section
variable {k : Nat} {C : List Clo} {M : Mem} {s : FF} {f : Int → Int} {b w r m : Int}
theorem rowI_drop {lo hi : Int} {n : Nat} (h : (n : Int) ≤ hi - lo) : (rowI f lo hi).drop n = rowI f (lo + n) hi := by
  unfold rowI
  rw [← List.map_drop, List.range_eq_range', List.drop_range', Nat.zero_add, List.range_eq_range']
  have e : (hi - lo).toNat - n = (hi - (lo + n)).toNat := by omega
  rw [e]
  refine List.ext_getElem (by simp) fun i h1 h2 => ?_
  simp only [List.getElem_map, List.getElem_range']
  congr 1
  simp at h1
  omega
theorem rowI_take {lo hi hi2 : Int} {n : Nat} (h1 : hi2 = lo + n) (h : hi2 ≤ hi) : (rowI f lo hi).take n = rowI f lo hi2 := by
  unfold rowI
  rw [← List.map_take, List.take_range]
  congr 2
  omega
/-- the steps are alike just where the prices repeat -/
theorem stp_iff (h : Mx.DP f b w r) (hm : 0 < m) : (∀ n, b ≤ n → n < b + w → f (n + m) - f n = f (b + m) - f b) ↔ Mx.DP f b m (f (b + m) - f b) := by
  have hw := h.2.1
  constructor
  · intro e
    refine ⟨h.1, hm, fun n hn => ?_⟩
    have h1 := Int.emod_nonneg (n - b) (show w ≠ 0 by omega)
    have h2 := Int.emod_lt_of_pos (n - b) hw
    have h3 := Int.emod_add_mul_ediv (n - b) w
    rw [Int.mul_comm] at h3
    have e1 := e (b + (n - b) % w) (by omega) (by omega)
    have h4 : 0 ≤ (n - b) / w := Int.ediv_nonneg (by omega) (by omega)
    have e2 := h.mulI (k := (n - b) / w) (n := b + (n - b) % w) h4 (by omega)
    have e3 := h.mulI (k := (n - b) / w) (n := b + (n - b) % w + m) h4 (by omega)
    rw [show b + (n - b) % w + (n - b) / w * w = n by omega] at e2
    rw [show b + (n - b) % w + m + (n - b) / w * w = n + m by omega] at e3
    omega
  · intro e n n1 _
    have := e.2.2 n n1
    omega
theorem same_ends {g : Int → Int} (hb : b < b + w) : minL (rowI g b (b + w)) = maxL (rowI g b (b + w)) ↔ ∀ n, b ≤ n → n < b + w → g n = g b := by
  have hne : rowI g b (b + w) ≠ [] := fun z => by
    have := len_rowI (f := g) (lo := b) (hi := b + w)
    rw [z] at this
    simp at this
    omega
  constructor
  · intro e n n1 n2
    have a1 := minL_le (xs := rowI g b (b + w)) (y := g n) (mem_row.mpr ⟨n, n1, n2, rfl⟩)
    have a2 := maxL_ge (xs := rowI g b (b + w)) (y := g n) (mem_row.mpr ⟨n, n1, n2, rfl⟩)
    have a3 := minL_le (xs := rowI g b (b + w)) (y := g b) (mem_row.mpr ⟨b, by omega, by omega, rfl⟩)
    have a4 := maxL_ge (xs := rowI g b (b + w)) (y := g b) (mem_row.mpr ⟨b, by omega, by omega, rfl⟩)
    omega
  · intro e
    obtain ⟨x, x1, x2, x3⟩ := mem_row.mp (minL_mem hne)
    obtain ⟨y, y1, y2, y3⟩ := mem_row.mp (maxL_mem hne)
    rw [← x3, ← y3, e x x1 x2, e y y1 y2]

theorem law_row_ok (h : s.Ok) {m : Int} (hm : m ≤ 100000 ∧ -100000 ≤ m) : run prL F (k + 2) C (.fn 81) [.p s.d, .p (.int m)] M = .ok (.p (.list ((rowI s.at 0 m).map .int))) M := by
  rw [run_fn (d := d_law_row) rfl rfl]
  simp_arith [d_law_row]
  rw [comp_r1 (hi := m) (fun n => .int (s.at n))]
  · rw [rowP_int]
    simp_arith []
  · simp_arith []
  · omega
  · intro n n1 n2 M'
    simp_arith [law_at_ok h]

theorem lst_steps (h : Mx.DP f b w r) (hz : b + w ≤ 5000) (hr : -1000000000000000 ≤ r ∧ r ≤ 1000000000000000) (hm : 0 < m) (x6 x7 x8 x9 x10 : Option D) : evE (gOf prL F (k + 2) C) (.comp (.one 10) .range [.bin .add (.var 1) (.var 2)] [] [9, 10] (.bin .sub (.call 80 [.var 0, .bin .add (.var 10) (.var 5)]) (.call 80 [.var 0, .var 10]))) [some (.p (tabF f b w r).d), some (.p (.int b)), some (.p (.int w)), some (.p (.int r)), some (.p (.tuple ((rowI f 0 (b + w)).map .int))), some (.p (.int m)), x6, x7, x8, x9, x10] M = .ok (.p (.list ((rowI (fun n => f (n + m) - f n) 0 (b + w)).map .int))) M := by
  have h1 := h.1
  have h2 := h.2.1
  have o := tabF_ok h hz hr
  rw [comp_r1 (hi := b + w) (fun n => .int (f (n + m) - f n))]
  · rw [rowP_int]
  · simp_arith []
  · omega
  · intro n n1 n2 M'
    simp_arith [law_at_ok o, tabF_at h]
theorem lst_hit (h : Mx.DP f b w r) (hz : b + w ≤ 5000) (hr : -1000000000000000 ≤ r ∧ r ≤ 1000000000000000) (hm : 0 < m) (hmw : m ≤ w) (hd : w % m = 0) (hep : Mx.DP f b m (f (b + m) - f b)) (x6 x7 x8 x9 x10 : Option D) : ∃ c, 0 ≤ c ∧ c ≤ b ∧ Mx.DP f c m (f (b + m) - f b) ∧ (c = 0 ∨ f (c - 1 + m) ≠ f (c - 1) + (f (b + m) - f b)) ∧
    evSs (gOf prL F (k + 2) C) [.ite (.cmp .eq (.bin .mod (.bi .int [.var 2]) (.var 5)) (.int 0)) [.asg 6 (.comp (.one 10) .range [.bin .add (.var 1) (.var 2)] [] [9, 10] (.bin .sub (.call 80 [.var 0, .bin .add (.var 10) (.var 5)]) (.call 80 [.var 0, .var 10]))), .ite (.cmp .eq (.bi .min [.slc (.var 6) [.var 1] []]) (.bi .max [.slc (.var 6) [.var 1] []])) [.asg 7 (.var 1), .for_ (.one 8) .range [.var 1] [.ite (.cmp .ne (.idx (.var 6) (.bin .sub (.var 7) (.int 1))) (.idx (.var 6) (.var 1))) [.brk] [], .asg 7 (.bin .sub (.var 7) (.int 1))], .ret (.tup [.var 7, .var 5, .idx (.var 6) (.var 1), .bi .tuple [.call 81 [.var 0, .bin .add (.var 7) (.var 5)]]])] []] []] [some (.p (tabF f b w r).d), some (.p (.int b)), some (.p (.int w)), some (.p (.int r)), some (.p (.tuple ((rowI f 0 (b + w)).map .int))), some (.p (.int m)), x6, x7, x8, x9, x10] M = .ok (.ret (.p (tabF f c m (f (b + m) - f b)).d)) M := by
  have h1 := h.1
  have h2 := h.2.1
  have o := tabF_ok h hz hr
  have os := lst_steps (F := F) (k := k) (C := C) (M := M) h hz hr hm x6 x7 x8 x9 x10
  obtain ⟨q, hq⟩ : ∃ q : Int → Int, q = fun n => f (n + m) - f n := ⟨_, rfl⟩
  have hqb : q b = f (b + m) - f b := by rw [hq]
  have hall : minL (rowI q b (b + w)) = maxL (rowI q b (b + w)) := (same_ends (by omega)).mpr (by rw [hqb, hq]; exact (stp_iff h hm).mpr hep)
  rw [← hq] at os
  rw [← hqb] at hep ⊢
  have lq : ((rowI q 0 (b + w)).length : Int) = b + w := by rw [len_rowI]; omega
  have hne : rowI q b (b + w) ≠ [] := fun z => by
    have := len_rowI (f := q) (lo := b) (hi := b + w)
    rw [z] at this
    simp at this
    omega
  have hcut : cut ((rowI q 0 (b + w)).map PyData.int) (some b) none = (rowI q b (b + w)).map .int := by
    rw [cut_from (by rw [List.length_map]; omega), ← List.map_drop, rowI_drop (by omega)]
    congr 2
    omega
  have gb' : L2.atI ((rowI q 0 (b + w)).map PyData.int) b = some (.int (q b)) := by
    rw [atI_ints h1 (by omega), gi_row h1 (by omega), Int.zero_add]
  have key : ∃ c y8, 0 ≤ c ∧ c ≤ b ∧ Mx.DP f c m (q b) ∧ (c = 0 ∨ f (c - 1 + m) ≠ f (c - 1) + q b) ∧ forG (gOf prL F (k + 2) C) (.one 8) [.ite (.cmp .ne (.idx (.var 6) (.bin .sub (.var 7) (.int 1))) (.idx (.var 6) (.var 1))) [.brk] [], .asg 7 (.bin .sub (.var 7) (.int 1))] (rng 0 b.toNat) [some (.p (tabF f b w r).d), some (.p (.int b)), some (.p (.int w)), some (.p (.int r)), some (.p (.tuple ((rowI f 0 (b + w)).map .int))), some (.p (.int m)), some (.p (.list ((rowI q 0 (b + w)).map .int))), some (.p (.int b)), x8, x9, x10] M = .ok (.nx [some (.p (tabF f b w r).d), some (.p (.int b)), some (.p (.int w)), some (.p (.int r)), some (.p (.tuple ((rowI f 0 (b + w)).map .int))), some (.p (.int m)), some (.p (.list ((rowI q 0 (b + w)).map .int))), some (.p (.int c)), y8, x9, x10]) M := by
    obtain ⟨W, hW⟩ : ∃ W, W = forG (gOf prL F (k + 2) C) (.one 8) [.ite (.cmp .ne (.idx (.var 6) (.bin .sub (.var 7) (.int 1))) (.idx (.var 6) (.var 1))) [.brk] [], .asg 7 (.bin .sub (.var 7) (.int 1))] (rng 0 b.toNat) [some (.p (tabF f b w r).d), some (.p (.int b)), some (.p (.int w)), some (.p (.int r)), some (.p (.tuple ((rowI f 0 (b + w)).map .int))), some (.p (.int m)), some (.p (.list ((rowI q 0 (b + w)).map .int))), some (.p (.int b)), x8, x9, x10] M := ⟨_, rfl⟩
    rw [← hW, hW]
    refine for_rngQ (Q := fun W => ∃ c y8, 0 ≤ c ∧ c ≤ b ∧ Mx.DP f c m (q b) ∧ (c = 0 ∨ f (c - 1 + m) ≠ f (c - 1) + q b) ∧ W = .ok (.nx [some (.p (tabF f b w r).d), some (.p (.int b)), some (.p (.int w)), some (.p (.int r)), some (.p (.tuple ((rowI f 0 (b + w)).map .int))), some (.p (.int m)), some (.p (.list ((rowI q 0 (b + w)).map .int))), some (.p (.int c)), y8, x9, x10]) M) (hi := b)
      (fun n σ M' => M' = M ∧ 0 ≤ n ∧ n ≤ b ∧ Mx.DP f (b - n) m (q b) ∧ ∃ y8, σ = [some (.p (tabF f b w r).d), some (.p (.int b)), some (.p (.int w)), some (.p (.int r)), some (.p (.tuple ((rowI f 0 (b + w)).map .int))), some (.p (.int m)), some (.p (.list ((rowI q 0 (b + w)).map .int))), some (.p (.int (b - n))), y8, x9, x10]) ?_ ?_ b.toNat 0 _ M (by omega) ⟨rfl, by omega, h1, by rw [Int.sub_zero]; exact hep, x8, by rw [Int.sub_zero]⟩
    · rintro σ M' ⟨rfl, n0, n1, he, y8, rfl⟩
      exact ⟨b - b, y8, by omega, by omega, he, .inl (by omega), rfl⟩
    · rintro n σ M' hn ⟨rfl, n0, n1, he, y8, rfl⟩
      have g1 : L2.atI ((rowI q 0 (b + w)).map PyData.int) (b - n - 1) = some (.int (q (b - n - 1))) := by
        rw [atI_ints (by omega) (by omega), gi_row (by omega) (by omega), Int.zero_add]
      have qd : q (b - n - 1) = f (b - n - 1 + m) - f (b - n - 1) := by rw [hq]
      by_cases hc : q (b - n - 1) = q b
      · left
        refine ⟨[some (.p (tabF f b w r).d), some (.p (.int b)), some (.p (.int w)), some (.p (.int r)), some (.p (.tuple ((rowI f 0 (b + w)).map .int))), some (.p (.int m)), some (.p (.list ((rowI q 0 (b + w)).map .int))), some (.p (.int (b - n - 1))), some (.p (.int n)), x9, x10], M', .inl (by simp_arith [g1, gb', hc]), rfl, by omega, by omega, ⟨by omega, hm, fun j hj => ?_⟩, _, by rw [show b - (n + 1) = b - n - 1 by omega]⟩
        by_cases em : j = b - n - 1
        · rw [em]; omega
        · exact he.2.2 j (by omega)
      · right; right
        have hc2 : decide (q (b - n - 1) = q b) = false := decide_eq_false hc
        exact ⟨[some (.p (tabF f b w r).d), some (.p (.int b)), some (.p (.int w)), some (.p (.int r)), some (.p (.tuple ((rowI f 0 (b + w)).map .int))), some (.p (.int m)), some (.p (.list ((rowI q 0 (b + w)).map .int))), some (.p (.int (b - n))), some (.p (.int n)), x9, x10], M', by simp_arith [g1, gb', hc2], b - n, _, by omega, by omega, he, .inr (by omega), rfl⟩
  obtain ⟨c, y8, c0, c1, c2, c3, c4⟩ := key
  refine ⟨c, c0, c1, c2, c3, ?_⟩
  have e9 : rowI (tabF f b w r).at 0 (c + m) = rowI f 0 (c + m) := row_congr fun n n1 _ => tabF_at h n1
  simp_arith [os, hd, hcut, bi_minL hne, bi_maxL hne, hall, it_r1]
  rw [c4]
  simp_arith [gb', law_row_ok o, e9]
  rfl
theorem lst_miss (h : Mx.DP f b w r) (hz : b + w ≤ 5000) (hr : -1000000000000000 ≤ r ∧ r ≤ 1000000000000000) (hm : 0 < m) (hmw : m ≤ w) (hep : ¬ (w % m = 0 ∧ Mx.DP f b m (f (b + m) - f b))) (x6 x7 x8 x9 x10 : Option D) : ∃ y6,
    evSs (gOf prL F (k + 2) C) [.ite (.cmp .eq (.bin .mod (.bi .int [.var 2]) (.var 5)) (.int 0)) [.asg 6 (.comp (.one 10) .range [.bin .add (.var 1) (.var 2)] [] [9, 10] (.bin .sub (.call 80 [.var 0, .bin .add (.var 10) (.var 5)]) (.call 80 [.var 0, .var 10]))), .ite (.cmp .eq (.bi .min [.slc (.var 6) [.var 1] []]) (.bi .max [.slc (.var 6) [.var 1] []])) [.asg 7 (.var 1), .for_ (.one 8) .range [.var 1] [.ite (.cmp .ne (.idx (.var 6) (.bin .sub (.var 7) (.int 1))) (.idx (.var 6) (.var 1))) [.brk] [], .asg 7 (.bin .sub (.var 7) (.int 1))], .ret (.tup [.var 7, .var 5, .idx (.var 6) (.var 1), .bi .tuple [.call 81 [.var 0, .bin .add (.var 7) (.var 5)]]])] []] []] [some (.p (tabF f b w r).d), some (.p (.int b)), some (.p (.int w)), some (.p (.int r)), some (.p (.tuple ((rowI f 0 (b + w)).map .int))), some (.p (.int m)), x6, x7, x8, x9, x10] M = .ok (.nx [some (.p (tabF f b w r).d), some (.p (.int b)), some (.p (.int w)), some (.p (.int r)), some (.p (.tuple ((rowI f 0 (b + w)).map .int))), some (.p (.int m)), y6, x7, x8, x9, x10]) M := by
  have h1 := h.1
  have h2 := h.2.1
  have os := lst_steps (F := F) (k := k) (C := C) (M := M) h hz hr hm x6 x7 x8 x9 x10
  obtain ⟨q, hq⟩ : ∃ q : Int → Int, q = fun n => f (n + m) - f n := ⟨_, rfl⟩
  have hqb : q b = f (b + m) - f b := by rw [hq]
  rw [← hq] at os
  have lq : ((rowI q 0 (b + w)).length : Int) = b + w := by rw [len_rowI]; omega
  have hne : rowI q b (b + w) ≠ [] := fun z => by
    have := len_rowI (f := q) (lo := b) (hi := b + w)
    rw [z] at this
    simp at this
    omega
  have hcut : cut ((rowI q 0 (b + w)).map PyData.int) (some b) none = (rowI q b (b + w)).map .int := by
    rw [cut_from (by rw [List.length_map]; omega), ← List.map_drop, rowI_drop (by omega)]
    congr 2
    omega
  by_cases hd : w % m = 0
  · have hall : decide (minL (rowI q b (b + w)) = maxL (rowI q b (b + w))) = false := decide_eq_false fun e => hep ⟨hd, (stp_iff h hm).mp (by
      have := (same_ends (by omega)).mp e
      rw [hq] at this
      exact this)⟩
    exact ⟨some (.p (.list ((rowI q 0 (b + w)).map .int))), by simp_arith [os, hd, hcut, bi_minL hne, bi_maxL hne, hall]⟩
  · exact ⟨x6, by simp_arith [hd]⟩

theorem law_least_ok (h : Mx.DP f b w r) (hz : b + w ≤ 5000) (hr : -1000000000000000 ≤ r ∧ r ≤ 1000000000000000) : run prL F (k + 3) C (.fn 82) [.p (tabF f b w r).d] M = .ok (.p (canFF f).d) M := by
  have h1 := h.1
  have h2 := h.2.1
  obtain ⟨c, p, s, hl⟩ := Mx.leastF_ex h
  have hd : p ∣ w := hl.dvd h
  have hp := hl.dp.2.1
  have hpw := Int.le_of_dvd h2 hd
  have hpb0 : Mx.DP f b p s := h.down hl.dp
  have es : f (b + p) - f b = s := by
    have := hpb0.2.2 b (Int.le_refl b)
    omega
  have hpb : Mx.DP f b p (f (b + p) - f b) := by rw [es]; exact hpb0
  have unp : (tabF f b w r).pr = rowI f 0 (b + w) := rfl
  have e1 : (tabF f b w r).b = b := rfl
  have e2 : (tabF f b w r).w = w := rfl
  have e3 : (tabF f b w r).r = r := rfl
  rw [run_fn (d := d_law_least) rfl rfl]
  simp only [d_law_least]
  simp_arith [unp_f, unp, e1, e2, e3, it_r2]
  have key : ∀ W, W = forG (gOf prL F (k + 2) C) (.one 5) [.ite (.cmp .eq (.bin .mod (.bi .int [.var 2]) (.var 5)) (.int 0)) [.asg 6 (.comp (.one 10) .range [.bin .add (.var 1) (.var 2)] [] [9, 10] (.bin .sub (.call 80 [.var 0, .bin .add (.var 10) (.var 5)]) (.call 80 [.var 0, .var 10]))), .ite (.cmp .eq (.bi .min [.slc (.var 6) [.var 1] []]) (.bi .max [.slc (.var 6) [.var 1] []])) [.asg 7 (.var 1), .for_ (.one 8) .range [.var 1] [.ite (.cmp .ne (.idx (.var 6) (.bin .sub (.var 7) (.int 1))) (.idx (.var 6) (.var 1))) [.brk] [], .asg 7 (.bin .sub (.var 7) (.int 1))], .ret (.tup [.var 7, .var 5, .idx (.var 6) (.var 1), .bi .tuple [.call 81 [.var 0, .bin .add (.var 7) (.var 5)]]])] []] []] (rng 1 (w + 1 - 1).toNat) [some (.p (tabF f b w r).d), some (.p (.int b)), some (.p (.int w)), some (.p (.int r)), some (.p (.tuple ((rowI f 0 (b + w)).map .int))), none, none, none, none, none, none] M → W = .ok (.ret (.p (canFF f).d)) M := by
    rintro W rfl
    refine for_rngQ (Q := fun W => W = .ok (.ret (.p (canFF f).d)) M) (hi := w + 1)
      (fun n σ M' => M' = M ∧ 1 ≤ n ∧ n ≤ p ∧ ∃ x5 x6 x7 x8 x9 x10, σ = [some (.p (tabF f b w r).d), some (.p (.int b)), some (.p (.int w)), some (.p (.int r)), some (.p (.tuple ((rowI f 0 (b + w)).map .int))), x5, x6, x7, x8, x9, x10]) ?_ ?_ (w + 1 - 1).toNat 1 _ M (by omega) ⟨rfl, by omega, by omega, none, none, none, none, none, none, rfl⟩
    · rintro σ M' ⟨rfl, n0, n1, _⟩
      omega
    · rintro n σ M' hn ⟨rfl, n0, n1, x5, x6, x7, x8, x9, x10, rfl⟩
      by_cases e : n = p
      · right; left
        subst e
        obtain ⟨c', c0, c1, c2, c3, c4⟩ := lst_hit (F := F) (k := k) (C := C) (M := M') h hz hr hp hpw (Int.emod_eq_zero_of_dvd hd) hpb x6 x7 x8 x9 x10
        rw [es] at c2 c3 c4
        have e : c' = c := Int.le_antisymm (Mx.preF_of c2 c3 c s hl.dp) (hl.pre _ _ c2)
        exact ⟨_, _, c4, by rw [e, canFF_eq hl]⟩
      · left
        obtain ⟨y6, e6⟩ := lst_miss (F := F) (k := k) (C := C) (M := M') h hz hr (show 0 < n by omega) (by omega) (fun z => by
          have := hl.per _ _ _ z.2
          omega) x6 x7 x8 x9 x10
        exact ⟨_, _, .inl e6, rfl, by omega, by omega, _, _, _, _, _, _, rfl⟩
  generalize hW : forG _ _ _ _ _ _ = W
  rw [key W hW.symm]
  simp_arith []

theorem law_made_ok {L : Int} (h : Mx.DP f b w (f (b + w) - f b)) (hz : b + w ≤ 5000) (hr : -1000000000000000 ≤ f (b + w) - f b ∧ f (b + w) - f b ≤ 1000000000000000) (hL : b + w < L) : run prL F (k + 4) C (.fn 83) [.p (.list ((rowI f 0 L).map .int)), .p (.int b), .p (.int w)] M = .ok (.p (canFF f).d) M := by
  have h1 := h.1
  have h2 := h.2.1
  have hl : ((rowI f 0 L).length : Int) = L := by rw [len_rowI]; omega
  have hc : cut ((rowI f 0 L).map PyData.int) none (some (b + w)) = (rowI f 0 (b + w)).map PyData.int := by
    rw [cut_to (by omega), ← List.map_take, rowI_take (hi2 := b + w) (by omega) (by omega)]
  have g1 : L2.atI ((rowI f 0 L).map PyData.int) (b + w) = some (.int (f (b + w))) := by
    rw [atI_ints (by omega) (by omega), gi_row (by omega) (by omega), Int.zero_add]
  have g2 : L2.atI ((rowI f 0 L).map PyData.int) b = some (.int (f b)) := by
    rw [atI_ints h1 (by omega), gi_row h1 (by omega), Int.zero_add]
  have e : (FF.mk b w (f (b + w) - f b) (rowI f 0 (b + w))) = tabF f b w (f (b + w) - f b) := rfl
  rw [run_fn (d := d_law_made) rfl rfl]
  simp_arith [d_law_made, g1, g2, hc, mkF, e, law_least_ok h hz hr]

end


/-! ### XB1_k68 -/

/-! Sets. -/
section
structure FS where
  b : Int
  w : Int
  fl : List Bool
def FS.d (s : FS) : PyData := .tuple [.int s.b, .int s.w, .tuple (s.fl.map .bool)]
structure FS.Ok (s : FS) : Prop where
  b0 : 0 ≤ s.b
  w0 : 0 < s.w
  len : (s.fl.length : Int) = s.b + s.w
  le : s.b + s.w ≤ 5000
def FS.at (s : FS) (n : Int) : Bool := if n < s.b + s.w then gb s.fl n else gb s.fl (s.b + (n - s.b) % s.w)
theorem mkS {b w : Int} {xs : List Bool} : PyData.tuple [.int b, .int w, .tuple (xs.map .bool)] = (FS.mk b w xs).d := rfl
theorem FS.at_lt {s : FS} {n : Int} (h : n < s.b + s.w) : s.at n = gb s.fl n := by unfold FS.at; rw [if_pos h]
theorem FS.at_ge {s : FS} (h : s.Ok) {n : Int} (hn : s.b ≤ n) : s.at n = gb s.fl (s.b + (n - s.b) % s.w) := by
  unfold FS.at
  split
  · rename_i hlt
    rw [Int.emod_eq_of_lt (by omega) (by omega)]
    congr 1
    omega
  · rfl
theorem FS.Ok.ep {s : FS} (h : s.Ok) : Mx.EPb s.at s.b s.w := ⟨h.b0, h.w0, fun n hn => by
  have hw := h.w0
  rw [s.at_ge h hn, s.at_ge h (by omega)]
  have e : n + s.w - s.b = (n - s.b) + s.w := by omega
  rw [e, Int.add_emod_right]⟩
theorem EPb.mul {f : Int → Bool} {b p : Int} (h : Mx.EPb f b p) {k n : Int} (hk : 0 ≤ k) (hn : b ≤ n) : f (n + k * p) = f n := by
  have := h.dp.mulI hk hn
  rw [Int.mul_zero, Int.add_zero] at this
  exact Mx.ind_inj this
theorem EPb.at_ {f : Int → Bool} {b p : Int} (h : Mx.EPb f b p) {n : Int} (hn : b ≤ n) : f n = f (b + (n - b) % p) := by
  have := h.dp.at_ hn
  rw [Int.mul_zero, Int.add_zero] at this
  exact Mx.ind_inj this
theorem EPb.later {f : Int → Bool} {b c p : Int} (h : Mx.EPb f b p) (hc : b ≤ c) : Mx.EPb f c p := (h.dp.later hc).epb
theorem EPb.dvd {f : Int → Bool} {b p q : Int} (h : Mx.EPb f b p) (hd : p ∣ q) (hq : 0 < q) : Mx.EPb f b q := by
  have hp := h.2.1
  have e : q / p * p = q := Int.ediv_mul_cancel hd
  have := h.dp.times (k := q / p) (Int.ediv_pos_of_pos_of_dvd hq (by omega) hd)
  rw [e] at this
  exact this.epb
theorem rowB_self {xs : List Bool} {n : Int} (h : (xs.length : Int) = n) : rowB (gb xs) 0 n = xs := by
  refine List.ext_getElem (by rw [len_rowB]; omega) fun j h1 h2 => ?_
  have e : (rowB (gb xs) 0 n).getD (j : Int).toNat false = xs.getD (0 + (j : Int)).toNat false := gb_row (f := gb xs) (lo := 0) (hi := n) (i := (j : Int)) (by omega) (by omega)
  rw [Int.toNat_natCast, Int.zero_add, List.getD_eq_getElem?_getD, List.getElem?_eq_getElem h1, List.getD_eq_getElem?_getD, Int.toNat_natCast, List.getElem?_eq_getElem h2] at e
  exact e
theorem FS.row {s : FS} (h : s.Ok) : rowB s.at 0 (s.b + s.w) = s.fl := by
  rw [← rowB_self h.len]
  exact rowB_congr fun n h1 h2 => s.at_lt h2
def tabS (f : Int → Bool) (b w : Int) : FS := ⟨b, w, rowB f 0 (b + w)⟩
theorem tabS_ok {f : Int → Bool} {b w : Int} (h : Mx.EPb f b w) (hz : b + w ≤ 5000) : (tabS f b w).Ok := ⟨h.1, h.2.1, by have := h.1; have := h.2.1; show ((rowB f 0 (b + w)).length : Int) = b + w; rw [len_rowB]; omega, hz⟩
theorem tabS_at {f : Int → Bool} {b w : Int} (h : Mx.EPb f b w) {n : Int} (hn : 0 ≤ n) : (tabS f b w).at n = f n := by
  have hb := h.1
  have hw := h.2.1
  unfold FS.at
  show (if n < b + w then gb (rowB f 0 (b + w)) n else gb (rowB f 0 (b + w)) (b + (n - b) % w)) = f n
  split
  · rw [gb_row hn (by omega), Int.zero_add]
  · have h1 := Int.emod_nonneg (n - b) (show w ≠ 0 by omega)
    have h2 := Int.emod_lt_of_pos (n - b) hw
    rw [gb_row (by omega) (by omega), Int.zero_add, ← EPb.at_ h (by omega)]
noncomputable def canS (f : Int → Bool) : FS := tabS f (canFF (Mx.ind f)).b (canFF (Mx.ind f)).w
theorem canS_eq {f : Int → Bool} {b p : Int} (h : Mx.LeastF (Mx.ind f) b p 0) : canS f = tabS f b p := by
  unfold canS
  rw [canFF_eq h]
  rfl
theorem canS_congr {f g : Int → Bool} (e : ∀ n, 0 ≤ n → f n = g n) : canS f = canS g := by
  have e2 : canFF (Mx.ind f) = canFF (Mx.ind g) := canFF_congr fun n hn => by unfold Mx.ind; rw [e n hn]
  unfold canS
  rw [e2]
  unfold tabS
  rw [rowB_congr fun n h1 h2 => e n h1]
structure CanS (f : Int → Bool) (b w : Int) : Prop where
  ok : (canS f).Ok
  ep : Mx.EPb f (canS f).b (canS f).w
  least : Mx.LeastF (Mx.ind f) (canS f).b (canS f).w 0
  at_ : ∀ n, 0 ≤ n → (canS f).at n = f n
  cb : (canS f).b ≤ b
  cw : (canS f).w ∣ w
  cwle : (canS f).w ≤ w
  fl : (canS f).fl = rowB f 0 ((canS f).b + (canS f).w)
theorem canS_ {f : Int → Bool} {b w : Int} (h : Mx.EPb f b w) (hz : b + w ≤ 5000) : CanS f b w := by
  have c := canF h.dp hz (by omega)
  have hl := c.least
  have h0 := hl.dp.ind0
  rw [h0] at hl
  have hep := hl.dp.epb
  have cb := c.cb
  have cw := c.cwle
  exact ⟨tabS_ok hep (by omega), hep, hl, fun n hn => tabS_at hep hn, c.cb, c.cw, c.cwle, rfl⟩
theorem FS.Ok.can {s : FS} (h : s.Ok) : CanS s.at s.b s.w := canS_ h.ep h.le
variable {M : Mem} {s : FS} {σ : Sg}
theorem idx_s2 : opIdx M (.p s.d) (.p (.int 2)) = some (.p (.tuple (s.fl.map .bool))) := Eq.trans rfl rfl
theorem unp_s {i j l : Nat} : unpR [i, j, l] σ (.p s.d) M = .ok (.nx (((σ.set i (some (.p (.int s.b)))).set j (some (.p (.int s.w)))).set l (some (.p (.tuple (s.fl.map .bool)))))) M := Eq.trans rfl rfl
/-! ### a ring repeated -/
theorem rep_get {α : Type} (l : List α) : ∀ (m j : Nat), j < m * l.length → (List.replicate m l).flatten[j]? = l[j % l.length]?
  | 0, j, h => by simp at h
  | m + 1, j, h => by
    rw [List.replicate_succ, List.flatten_cons]
    by_cases hj : j < l.length
    · rw [List.getElem?_append_left hj, Nat.mod_eq_of_lt hj]
    · have hs : (m + 1) * l.length = m * l.length + l.length := Nat.succ_mul _ _
      rw [List.getElem?_append_right (by omega), rep_get l m (j - l.length) (by omega)]
      congr 1
      rw [← Nat.mod_eq_sub_mod (by omega)]
theorem rep_len {α : Type} (l : List α) (m : Nat) : (List.replicate m l).flatten.length = m * l.length := by
  rw [List.length_flatten, List.map_replicate, List.sum_replicate_nat]
theorem map_rep {α β : Type} (f : α → β) (l : List α) (n : Nat) : (List.replicate n (l.map f)).flatten = ((List.replicate n l).flatten).map f := by
  rw [List.map_flatten, List.map_replicate]
theorem b_mulT {xs : List PyData} {n : Int} (h1 : 0 ≤ n ∧ n ≤ 1000000000) (h2 : xs.length * n.toNat ≤ 1000000) : opBin .mul (.tuple xs) (.int n) = some (.tuple (List.replicate n.toNat xs).flatten) := by
  have e : opBin .mul (.tuple xs) (.int n) = (if (decide (-(2 ^ 62) ≤ n ∧ n < 2 ^ 62) && decide (xs.length * n.toNat ≤ sizeLine)) = true then some (PyData.tuple (Ev.rep xs n.toNat)) else none) := rfl
  rw [e, decide_eq_true (by omega), decide_eq_true (Nat.le_trans h2 line_big)]
  rfl
theorem ring_at (h : s.Ok) {j : Nat} (hj : j < s.w.toNat) : (s.fl.drop s.b.toNat)[j]? = some (s.at (s.b + j)) := by
  have hb := h.b0
  have hw := h.w0
  have hl := h.len
  rw [List.getElem?_drop, s.at_lt (by omega), List.getElem?_eq_getElem (by omega)]
  unfold gb
  rw [List.getD_eq_getElem?_getD, show (s.b + (j : Int)).toNat = s.b.toNat + j by omega, List.getElem?_eq_getElem (by omega)]
  rfl
def perS (s : FS) (q : Int) : Bool := decide (s.w % q = 0) && decide ((List.replicate (s.w / q).toNat ((s.fl.drop s.b.toNat).take q.toNat)).flatten = s.fl.drop s.b.toNat)
theorem perS_iff (h : s.Ok) {q : Int} (q0 : 0 < q) (hqw : q ≤ s.w) : perS s q = true ↔ q ∣ s.w ∧ Mx.EPb s.at s.b q := by
  have hb := h.b0
  have hw := h.w0
  have hl := h.len
  unfold perS
  rw [Bool.and_eq_true, decide_eq_true_eq, decide_eq_true_eq]
  have dd : s.w % q = 0 ↔ q ∣ s.w := ⟨Int.dvd_of_emod_eq_zero, Int.emod_eq_zero_of_dvd⟩
  rw [dd]
  refine and_congr_right fun hd => ?_
  have hdl : (s.fl.drop s.b.toNat).length = s.w.toNat := by rw [List.length_drop]; omega
  have htl : ((s.fl.drop s.b.toNat).take q.toNat).length = q.toNat := by rw [List.length_take, hdl]; omega
  have hm : (s.w / q).toNat * q.toNat = s.w.toNat := by
    have e := Int.ediv_mul_cancel hd
    have : 0 ≤ s.w / q := Int.ediv_nonneg (by omega) (by omega)
    have e2 : (((s.w / q).toNat * q.toNat : Nat) : Int) = s.w := by
      rw [Int.natCast_mul, show (((s.w / q).toNat : Nat) : Int) = s.w / q by omega, show ((q.toNat : Nat) : Int) = q by omega, e]
    omega
  have part : ∀ j : Nat, j < s.w.toNat → (List.replicate (s.w / q).toNat ((s.fl.drop s.b.toNat).take q.toNat)).flatten[j]? = some (s.at (s.b + (j % q.toNat : Nat))) := fun j hj => by
    have hlt : j % q.toNat < q.toNat := Nat.mod_lt _ (by omega)
    rw [rep_get _ _ _ (by rw [htl, hm]; exact hj), htl, List.getElem?_take_of_lt hlt, ring_at h (by omega)]
  have ring2 : ∀ n, s.b ≤ n → s.at n = s.at (s.b + (n - s.b) % s.w) := fun n hn => EPb.at_ h.ep hn
  constructor
  · intro e
    have key : ∀ j : Nat, j < s.w.toNat → s.at (s.b + j) = s.at (s.b + (j % q.toNat : Nat)) := fun j hj => by
      have h1 := part j hj
      rw [e, ring_at h hj] at h1
      exact Option.some.inj h1
    have key2 : ∀ n, s.b ≤ n → s.at n = s.at (s.b + (n - s.b) % q) := fun n hn => by
      have h1 := Int.emod_nonneg (n - s.b) (show s.w ≠ 0 by omega)
      have h2 := Int.emod_lt_of_pos (n - s.b) hw
      have k1 := key ((n - s.b) % s.w).toNat (by omega)
      rw [show ((((n - s.b) % s.w).toNat : Nat) : Int) = (n - s.b) % s.w by omega] at k1
      rw [ring2 n hn, k1]
      congr 2
      rw [Int.natCast_emod, show ((((n - s.b) % s.w).toNat : Nat) : Int) = (n - s.b) % s.w by omega, show ((q.toNat : Nat) : Int) = q by omega, Int.emod_emod_of_dvd _ hd]
    refine ⟨hb, q0, fun n hn => ?_⟩
    rw [key2 (n + q) (by omega), key2 n hn]
    have e1 : n + q - s.b = (n - s.b) + q := by omega
    rw [e1, Int.add_emod_right]
  · intro hep
    refine List.ext_getElem? fun j => ?_
    by_cases hj : j < s.w.toNat
    · rw [part j hj, ring_at h hj]
      congr 1
      have e := EPb.at_ hep (n := s.b + j) (by omega)
      rw [show s.b + (j : Int) - s.b = j by omega] at e
      rw [e, Int.natCast_emod, show ((q.toNat : Nat) : Int) = q by omega]
    · rw [List.getElem?_eq_none (by rw [rep_len, htl, hm]; omega), List.getElem?_eq_none (by rw [hdl]; omega)]
/-! ### the numbers that a test lets -/
theorem filI_nil {p : Int → Bool} {lo hi : Int} (h : hi ≤ lo) : filI p lo hi = [] := by
  unfold filI
  rw [show (hi - lo).toNat = 0 by omega]
  rfl
theorem filI_cons {p : Int → Bool} {lo hi : Int} (h : lo < hi) : filI p lo hi = if p lo = true then lo :: filI p (lo + 1) hi else filI p (lo + 1) hi := by
  have e : (hi - lo).toNat = (hi - (lo + 1)).toNat + 1 := by omega
  have e2 : ((List.range (hi - (lo + 1)).toNat).map Nat.succ).filter (fun k => p (lo + (k : Nat))) = ((List.range (hi - (lo + 1)).toNat).filter (fun k => p (lo + 1 + (k : Nat)))).map Nat.succ := by
    rw [List.filter_map]
    congr 1
    refine List.filter_congr fun k _ => ?_
    show p (lo + ((k + 1 : Nat) : Int)) = p (lo + 1 + (k : Int))
    congr 1
    omega
  have e3 : ((List.range (hi - (lo + 1)).toNat).filter (fun k => p (lo + 1 + (k : Nat)))).map (fun k => lo + ((Nat.succ k : Nat) : Int)) = filI p (lo + 1) hi := by
    unfold filI
    refine List.map_congr_left fun k _ => ?_
    show lo + ((k + 1 : Nat) : Int) = lo + 1 + (k : Int)
    omega
  unfold filI at e3 ⊢
  rw [e, List.range_succ_eq_map, List.filter_cons, e2]
  have e0 : lo + ((0 : Nat) : Int) = lo := by omega
  rw [e0]
  split
  · rw [List.map_cons, e0, List.map_map, ← e3]
    rfl
  · rw [List.map_map, ← e3]
    rfl
theorem filI_mem {p : Int → Bool} {lo hi n : Int} : n ∈ filI p lo hi ↔ lo ≤ n ∧ n < hi ∧ p n = true := by
  unfold filI
  rw [List.mem_map]
  constructor
  · rintro ⟨k, hk, rfl⟩
    rw [List.mem_filter] at hk
    have := List.mem_range.mp hk.1
    exact ⟨by omega, by omega, hk.2⟩
  · rintro ⟨h1, h2, h3⟩
    have e : lo + ((n - lo).toNat : Int) = n := by omega
    exact ⟨(n - lo).toNat, List.mem_filter.mpr ⟨List.mem_range.mpr (by omega), by rw [e]; exact h3⟩, e⟩
/-- the first -/
theorem filI_head {p : Int → Bool} {hi q : Int} : ∀ {m : Nat} {lo : Int}, q = lo + m → q < hi → p q = true → (∀ n, lo ≤ n → n < q → p n = false) → ∃ r, filI p lo hi = q :: r
  | 0, lo, h, h2, h3, _ => by
    have e : q = lo := by omega
    subst e
    rw [filI_cons h2, if_pos h3]
    exact ⟨_, rfl⟩
  | m + 1, lo, h, h2, h3, h4 => by
    rw [filI_cons (by omega), if_neg (by rw [h4 lo (Int.le_refl _) (by omega)]; simp)]
    exact filI_head (m := m) (by omega) h2 h3 fun n h5 h6 => h4 n (by omega) h6
theorem least_in {p : Int → Bool} {lo n : Int} (h1 : lo ≤ n) (h2 : p n = true) : ∃ q, lo ≤ q ∧ q ≤ n ∧ p q = true ∧ ∀ m, lo ≤ m → m < q → p m = false := by
  obtain ⟨j, hj, hmin⟩ := Mx.min_ex (P := fun j => p (lo + (j : Nat)) = true) ⟨(n - lo).toNat, by rw [show lo + (((n - lo).toNat : Nat) : Int) = n by omega]; exact h2⟩
  have := hmin (n - lo).toNat (by rw [show lo + (((n - lo).toNat : Nat) : Int) = n by omega]; exact h2)
  refine ⟨lo + j, by omega, by omega, hj, fun m m1 m2 => ?_⟩
  cases hp : p m with
  | false => rfl
  | true =>
    have := hmin (m - lo).toNat (by rw [show lo + (((m - lo).toNat : Nat) : Int) = m by omega]; exact hp)
    omega
end
section
variable {k : Nat} {C : List Clo} {M : Mem} {s r : FS}

theorem raw_has_ok (h : s.Ok) {n : Int} (hn : 0 ≤ n) : run prL F (k + 1) C (.fn 46) [.p s.d, .p (.int n)] M = .ok (.p (.bool (s.at n))) M := by
  have h1 := h.b0
  have h2 := h.w0
  have h3 := h.len
  have h4 := h.le
  by_cases hlt : n < s.b + s.w
  · rw [run_fn (d := d_raw_has) rfl rfl]
    simp_arith [d_raw_has, unp_s, atI_bls, s.at_lt hlt]
  · have l1 := Int.emod_nonneg (n - s.b) (show s.w ≠ 0 by omega)
    have l2 := Int.emod_lt_of_pos (n - s.b) h2
    rw [run_fn (d := d_raw_has) rfl rfl]
    simp_arith [d_raw_has, unp_s, atI_bls, s.at_ge h (show s.b ≤ n by omega)]

theorem raw_least_set_ok (hF : 10000 ≤ F) (h : s.Ok) : run prL F (k + 3) C (.fn 47) [.p s.d] M = .ok (.p (canS s.at).d) M := by
  have hb := h.b0
  have hw := h.w0
  have hlen := h.len
  have hl := h.le
  have hdl : ((s.fl.drop s.b.toNat).length : Int) = s.w := by rw [List.length_drop]; omega
  obtain ⟨p, p1, p2, p3, p4⟩ := least_in (p := perS s) (lo := 1) (n := s.w) (by omega) ((perS_iff h hw (Int.le_refl _)).mpr ⟨Int.dvd_refl _, h.ep⟩)
  obtain ⟨pd, pe⟩ := (perS_iff h (by omega) p2).mp p3
  obtain ⟨rest, hrest⟩ := filI_head (p := perS s) (hi := s.w + 1) (q := p) (m := (p - 1).toNat) (lo := 1) (by omega) (by omega) p3 p4
  rw [run_fn (d := d_raw_least_set) rfl rfl]
  simp_arith [d_raw_least_set, unp_s, cut_map, cut_from]
  rw [comp_f2 (lo := 1) (hi := s.w + 1) (perS s) (fun n => .int n)]
  · rw [hrest, List.map_cons]
    simp_arith [atI_int]
    simp only [Int.toNat_zero, List.getElem?_cons_zero]
    simp_arith []
    generalize hW : whG _ _ _ _ _ _ = W
    obtain ⟨c, rfl, c0, cb, cdp, cst⟩ : ∃ c, W = .ok (.nx [some (.p s.d), some (.p (.int c)), some (.p (.int s.w)), some (.p (.tuple (s.fl.map .bool))), some (.p (.tuple ((s.fl.drop s.b.toNat).map .bool))), some (.p (.int p)), none, none, none]) M ∧ 0 ≤ c ∧ c ≤ s.b ∧ Mx.EPb s.at c p ∧ (c = 0 ∨ s.at (c - 1 + p) ≠ s.at (c - 1)) := by
      rw [← hW]
      obtain ⟨σ', M', e1, rfl, c, rfl, hf⟩ := whl_I (g := gOf prL F (k + 2) C) (n := F) (σ := [some (.p s.d), some (.p (.int s.b)), some (.p (.int s.w)), some (.p (.tuple (s.fl.map .bool))), some (.p (.tuple ((s.fl.drop s.b.toNat).map .bool))), some (.p (.int p)), none, none, none]) (M := M)
        (c := (.and (.cmp .gt (.var 1) (.int 0)) (.cmp .eq (.call 46 [.var 0, .bin .add (.bin .sub (.var 1) (.int 1)) (.var 5)]) (.idx (.var 3) (.bin .sub (.var 1) (.int 1)))))) (b := [.asg 1 (.bin .sub (.var 1) (.int 1))])
        (fun m σ M' => M' = M ∧ ∃ c, σ = [some (.p s.d), some (.p (.int c)), some (.p (.int s.w)), some (.p (.tuple (s.fl.map .bool))), some (.p (.tuple ((s.fl.drop s.b.toNat).map .bool))), some (.p (.int p)), none, none, none] ∧ 0 ≤ c ∧ c ≤ s.b ∧ Mx.EPb s.at c p ∧ c ≤ m)
        (fun σ M' => M' = M ∧ ∃ c, σ = [some (.p s.d), some (.p (.int c)), some (.p (.int s.w)), some (.p (.tuple (s.fl.map .bool))), some (.p (.tuple ((s.fl.drop s.b.toNat).map .bool))), some (.p (.int p)), none, none, none] ∧ 0 ≤ c ∧ c ≤ s.b ∧ Mx.EPb s.at c p ∧ (c = 0 ∨ s.at (c - 1 + p) ≠ s.at (c - 1))) ⟨s.b.toNat, by omega, rfl, s.b, rfl, hb, Int.le_refl _, pe, by omega⟩ (by
          rintro m σ M' ⟨rfl, c, rfl, hc0, hcb, hdc, hm⟩
          by_cases hc : c = 0
          · left
            subst hc
            exact ⟨by simp_arith [], rfl, 0, rfl, hc0, hcb, hdc, .inl rfl⟩
          · have eg : gb s.fl (c - 1) = s.at (c - 1) := (s.at_lt (by omega)).symm
            by_cases he : s.at (c - 1 + p) = s.at (c - 1)
            · right
              refine ⟨[some (.p s.d), some (.p (.int (c - 1))), some (.p (.int s.w)), some (.p (.tuple (s.fl.map .bool))), some (.p (.tuple ((s.fl.drop s.b.toNat).map .bool))), some (.p (.int p)), none, none, none], M', m - 1, by omega, ?_, ?_, rfl, c - 1, rfl, by omega, by omega, ?_, by omega⟩
              · simp_arith [raw_has_ok h, atI_bls, eg, he]
              · simp_arith []
              · refine ⟨by omega, by omega, fun n hn => ?_⟩
                by_cases e : n = c - 1
                · rw [e]
                  exact he
                · exact hdc.2.2 n (by omega)
            · left
              exact ⟨by simp_arith [raw_has_ok h, atI_bls, eg, he], rfl, c, rfl, hc0, hcb, hdc, .inr he⟩)
      exact ⟨c, e1, hf⟩
    clear hW
    have ec : canS s.at = tabS s.at c p := by
      refine canS_eq (Mx.leastF_of h.ep.dp pe.dp pd (fun q t hq hd => ?_) cdp.dp (Mx.preF_of cdp.dp ?_))
      · refine Int.not_lt.mp fun hlt => ?_
        have q0 := hd.2.1
        have := p4 q (by omega) hlt
        rw [(perS_iff h q0 (Int.le_of_dvd hw hq)).mpr ⟨hq, hd.epb⟩] at this
        cases this
      · rcases cst with e | e
        · exact .inl e
        · right
          rw [Int.add_zero]
          exact fun z => e (Mx.ind_inj z)
    simp_arith []
    rw [comp_r1 (hi := c + p) (fun n => .bool (s.at n))]
    · rw [rowP_bool, ec]
      simp_arith [mkS]
      rfl
    · simp_arith []
    · omega
    · intro n h1 h2 M'
      simp_arith [raw_has_ok h]
  · simp_arith []
  · omega
  · omega
  · intro n n1 n2 M'
    have q1 : 0 ≤ s.w / n := Int.ediv_nonneg (by omega) (by omega)
    have q2 : s.w / n ≤ s.w := Int.ediv_le_self _ (by omega)
    by_cases hm : s.w % n = 0
    · have hz : ((((s.fl.drop s.b.toNat).take n.toNat).map PyData.bool).length) * (s.w / n).toNat ≤ 1000000 := by
        have e := Int.ediv_mul_cancel (Int.dvd_of_emod_eq_zero hm)
        have l1 : (((s.fl.drop s.b.toNat).take n.toNat).map PyData.bool).length = n.toNat := by
          rw [List.length_map, List.length_take]
          omega
        rw [l1]
        have e2 : ((n.toNat * (s.w / n).toNat : Nat) : Int) = s.w := by
          rw [Int.natCast_mul, show (((s.w / n).toNat : Nat) : Int) = s.w / n by omega, show ((n.toNat : Nat) : Int) = n by omega, Int.mul_comm, e]
        omega
      simp_arith [hm, cut_map, cut_to, ← List.map_take, b_mulT ⟨q1, by omega⟩ hz, map_rep, cmp_bls]
      unfold perS
      rw [decide_eq_true hm, Bool.true_and]
    · simp_arith [hm]
      unfold perS
      rw [decide_eq_false hm, Bool.false_and]
  · intro n n1 n2 _ M'
    simp_arith []

theorem made_set_ok (hF : 10000 ≤ F) {f : Int → Bool} {b w : Int} {n : Nat} (h : Mx.EPb f b w) (hz : b + w ≤ 5000) (hc : ∀ m, 0 ≤ m → m < b + w → ∀ M, run prL F (k + 3) C (.clo n) [.p (.int m)] M = .ok (.p (.bool (f m))) M) :
    run prL F (k + 4) C (.fn 48) [.p (.int b), .p (.int w), .clo n] M = .ok (.p (canS f).d) M := by
  have hb := h.1
  have hw := h.2.1
  rw [run_fn (d := d_made_set) rfl rfl]
  simp_arith [d_made_set, check_width_ok hz]
  rw [comp_r1 (hi := b + w) (fun n => .bool (f n))]
  · have e : (⟨b, w, rowB f 0 (b + w)⟩ : FS) = tabS f b w := rfl
    rw [rowP_bool]
    simp_arith [mkS]
    rw [e, raw_least_set_ok hF (tabS_ok h hz), canS_congr fun n hn => tabS_at h hn]
    simp_arith []
  · simp_arith []
  · omega
  · intro m h1 h2 M'
    simp_arith [hc m h1 h2]

end


/-! ### XB2_k68 -/

/-! Counting; the first number of a price. -/
section
/-- how many there are below -/
def cnN (f : Int → Bool) : Nat → Nat
  | 0 => 0
  | n + 1 => cnN f n + (if f n = true then 1 else 0)
def cn (f : Int → Bool) (n : Int) : Int := cnN f n.toNat
variable {f g : Int → Bool}
theorem cn_zero : cn f 0 = 0 := rfl
theorem cn_succ {n : Int} (hn : 0 ≤ n) : cn f (n + 1) = cn f n + (if f n = true then 1 else 0) := by
  unfold cn
  rw [show (n + 1).toNat = n.toNat + 1 by omega]
  show ((cnN f n.toNat + (if f (n.toNat : Nat) = true then 1 else 0) : Nat) : Int) = _
  rw [show ((n.toNat : Nat) : Int) = n by omega]
  split <;> simp
theorem cn_nonneg (n : Int) : 0 ≤ cn f n := by unfold cn; omega
theorem cn_ind {P : Int → Prop} {a : Int} (h0 : P a) (hs : ∀ n, a ≤ n → P n → P (n + 1)) : ∀ n, a ≤ n → P n := by
  intro n hn
  have key : ∀ j : Nat, P (a + j) := by
    intro j
    induction j with
    | zero => simpa using h0
    | succ j ih =>
      have := hs (a + j) (by omega) ih
      rw [show a + ((j + 1 : Nat) : Int) = a + j + 1 by omega]
      exact this
  have := key (n - a).toNat
  rw [show a + ((n - a).toNat : Int) = n by omega] at this
  exact this
theorem cn_mono {m n : Int} (h0 : 0 ≤ m) (h : m ≤ n) : cn f m ≤ cn f n := by
  refine cn_ind (P := fun n => cn f m ≤ cn f n) (Int.le_refl _) (fun n hn ih => ?_) n h
  rw [cn_succ (by omega)]
  split <;> omega
theorem cn_lt {m n : Int} (h0 : 0 ≤ m) (hf : f m = true) (h : m < n) : cn f m < cn f n := by
  have h1 := cn_succ (f := f) h0
  rw [hf, if_pos rfl] at h1
  have h2 := cn_mono (f := f) (show 0 ≤ m + 1 by omega) (show m + 1 ≤ n by omega)
  omega
theorem cn_inj {m n : Int} (hm0 : 0 ≤ m) (hn0 : 0 ≤ n) (hm : f m = true) (hn : f n = true) (h : cn f m = cn f n) : m = n := by
  rcases Int.lt_trichotomy m n with h1 | h1 | h1
  · have := cn_lt hm0 hm h1; omega
  · exact h1
  · have := cn_lt hn0 hn h1; omega
theorem cn_congr (e : ∀ n, 0 ≤ n → f n = g n) {n : Int} (hn : 0 ≤ n) : cn f n = cn g n := by
  refine cn_ind (P := fun n => cn f n = cn g n) rfl (fun n hn ih => ?_) n hn
  rw [cn_succ hn, cn_succ hn, ih, e n hn]
theorem cn_zero_iff {n : Int} (hn : 0 ≤ n) : cn f n = 0 ↔ ∀ m, 0 ≤ m → m < n → f m = false := by
  refine cn_ind (P := fun n => cn f n = 0 ↔ ∀ m, 0 ≤ m → m < n → f m = false) ⟨fun _ m _ _ => by omega, fun _ => rfl⟩ (fun n hn ih => ?_) n hn
  rw [cn_succ hn]
  have h0 := cn_nonneg (f := f) n
  constructor
  · intro h m m0 m1
    cases hf : f n with
    | true => rw [hf, if_pos rfl] at h; omega
    | false =>
      rw [hf, if_neg (by simp)] at h
      by_cases e : m = n
      · rw [e]; exact hf
      · exact ih.mp (by omega) m m0 (by omega)
  · intro h
    rw [h n hn (by omega), if_neg (by simp), ih.mpr fun m m0 m1 => h m m0 (by omega)]
    rfl
theorem filI_snoc {p : Int → Bool} {lo hi : Int} (h : lo ≤ hi) : filI p lo (hi + 1) = filI p lo hi ++ (if p hi = true then [hi] else []) := by
  unfold filI
  rw [show (hi + 1 - lo).toNat = (hi - lo).toNat + 1 by omega, List.range_succ, List.filter_append, List.map_append]
  congr 1
  have e : lo + ((hi - lo).toNat : Int) = hi := by omega
  rw [List.filter_cons, e]
  split
  · rw [List.filter_nil, List.map_cons, e, List.map_nil]
  · rfl
theorem filI_cn {lo : Int} (h0 : 0 ≤ lo) : ∀ {hi : Int}, lo ≤ hi → ((filI f lo hi).length : Int) = cn f hi - cn f lo := by
  intro hi h
  refine cn_ind (P := fun hi => ((filI f lo hi).length : Int) = cn f hi - cn f lo) (by rw [filI_nil (Int.le_refl _)]; simp) (fun n hn ih => ?_) hi h
  rw [filI_snoc hn, List.length_append, cn_succ (by omega)]
  split <;> simp <;> omega
/-- what stands at a place of the list of members -/
theorem filI_at {lo : Int} (h0 : 0 ≤ lo) : ∀ {hi : Int}, lo ≤ hi → ∀ {i : Nat} {m : Int}, (filI f lo hi)[i]? = some m → lo ≤ m ∧ m < hi ∧ f m = true ∧ cn f m = cn f lo + i := by
  intro hi h
  refine cn_ind (P := fun hi => ∀ {i : Nat} {m : Int}, (filI f lo hi)[i]? = some m → lo ≤ m ∧ m < hi ∧ f m = true ∧ cn f m = cn f lo + i) (fun {i m} e => by rw [filI_nil (Int.le_refl _)] at e; simp at e) (fun n hn ih => fun {i m} e => ?_) hi h
  rw [filI_snoc hn] at e
  by_cases hi : i < (filI f lo n).length
  · rw [List.getElem?_append_left hi] at e
    obtain ⟨a1, a2, a3, a4⟩ := ih e
    exact ⟨a1, by omega, a3, a4⟩
  · rw [List.getElem?_append_right (by omega)] at e
    have hl := filI_cn (f := f) h0 hn
    cases hf : f n with
    | false => rw [hf, if_neg (by simp)] at e; simp at e
    | true =>
      rw [hf, if_pos rfl] at e
      have hz : i - (filI f lo n).length = 0 := by
        have := (List.getElem?_eq_some_iff.mp e).1
        simp at this
        omega
      rw [hz] at e
      cases e
      exact ⟨hn, by omega, hf, by omega⟩
/-- the n-th member, if there is one -/
structure IsNth (f : Int → Bool) (n : Int) (o : Option Int) : Prop where
  yes : ∀ m, o = some m → 0 ≤ m ∧ f m = true ∧ cn f m = n
  no : o = none → ∀ m, 0 ≤ m → f m = true → cn f m ≠ n
theorem IsNth.uniq {n : Int} {o o' : Option Int} (h : IsNth f n o) (k : IsNth f n o') : o = o' := by
  cases o with
  | none =>
    cases o' with
    | none => rfl
    | some m =>
      obtain ⟨a, b, c⟩ := k.yes m rfl
      exact absurd c (h.no rfl m a b)
  | some m =>
    obtain ⟨a, b, c⟩ := h.yes m rfl
    cases o' with
    | none => exact absurd c (k.no rfl m a b)
    | some m' =>
      obtain ⟨a', b', c'⟩ := k.yes m' rfl
      rw [cn_inj a a' b b' (by omega)]
open Classical in
noncomputable def nthO (f : Int → Bool) (n : Int) : Option Int := if h : ∃ m, 0 ≤ m ∧ f m = true ∧ cn f m = n then some (choose h) else none
theorem nthO_is (n : Int) : IsNth f n (nthO f n) := by
  unfold nthO
  split
  · rename_i h
    refine ⟨fun m e => ?_, fun e => by cases e⟩
    cases e
    exact Classical.choose_spec h
  · rename_i h
    exact ⟨fun m e => (by cases e), fun _ m a b c => h ⟨m, a, b, c⟩⟩
theorem nthO_eq {n : Int} {o : Option Int} (h : IsNth f n o) : nthO f n = o := (nthO_is n).uniq h
theorem IsNth.congr {n : Int} {o : Option Int} (h : IsNth f n o) (e : ∀ n, 0 ≤ n → f n = g n) : IsNth g n o := ⟨fun m hm => by
  obtain ⟨a, b, c⟩ := h.yes m hm
  rw [← e m a, ← cn_congr e a]
  exact ⟨a, b, c⟩, fun hn m a b => by
  rw [← cn_congr e a]
  exact h.no hn m a (by rw [e m a]; exact b)⟩
theorem nthO_congr {n : Int} (e : ∀ n, 0 ≤ n → f n = g n) : nthO f n = nthO g n := nthO_eq ((nthO_is n).congr fun n hn => (e n hn).symm)
/-- the least member -/
theorem isNth0 {m : Int} (h0 : 0 ≤ m) (h1 : f m = true) (h2 : ∀ n, 0 ≤ n → f n = true → m ≤ n) : IsNth f 0 (some m) := by
  refine ⟨fun x e => ?_, fun e => (by cases e)⟩
  cases e
  refine ⟨h0, h1, (cn_zero_iff h0).mpr fun n n0 n1 => ?_⟩
  cases hf : f n with
  | false => rfl
  | true =>
    have := h2 n n0 hf
    omega
theorem isNth_none {n : Int} (h : ∀ m, 0 ≤ m → f m = false) : IsNth f n none := ⟨fun x e => (by cases e), fun _ m a b => (by rw [h m a] at b; cases b)⟩
theorem nth0_head {hi : Int} (hh : 0 ≤ hi) (hf : ∀ m, 0 ≤ m → f m = true → ∃ m', 0 ≤ m' ∧ m' < hi ∧ f m' = true) : nthO f 0 = (filI f 0 hi)[0]? := by
  refine nthO_eq ⟨fun m e => ?_, fun e m m0 hm => ?_⟩
  · obtain ⟨a1, a2, a3, a4⟩ := filI_at (f := f) (Int.le_refl 0) hh e
    refine ⟨a1, a3, ?_⟩
    rw [a4, cn_zero]
    rfl
  · obtain ⟨m', b1, b2, b3⟩ := hf m m0 hm
    have : m' ∈ filI f 0 hi := filI_mem.mpr ⟨b1, b2, b3⟩
    cases hl : filI f 0 hi with
    | nil => rw [hl] at this; cases this
    | cons x r => rw [hl] at e; cases e
def optD : Option Int → PyData
  | none => .none
  | some n => .int n
theorem sz_opt {o : Option Int} : Sz (optD o) := by
  cases o with
  | none => exact sz_none
  | some n => exact sz_int
def rowO (f : Int → Option Int) (lo hi : Int) : List (Option Int) := (List.range (hi - lo).toNat).map fun (k : Nat) => f (lo + k)
/-! ### the first number of a ring's place with a price -/
def firstR (s : FF) (p spot : Int) : Option Int := if gi s.pr spot = p then some spot else if s.r = 0 ∨ (p - gi s.pr spot).fmod s.r ≠ 0 ∨ (p - gi s.pr spot).fdiv s.r < 0 then none else some (spot + s.w * (p - gi s.pr spot).fdiv s.r)
variable {s : FF} {p spot : Int}
end
section
variable {k : Nat} {C : List Clo} {M : Mem} {s : FF}

end


/-! ### XB3_k68 -/

/-! Where prices are; members. -/
section
variable {f g : Int → Bool}
/-- where a sequence of prices is as another -/
theorem ep_cmp {u v : Int → Int} {b w t : Int} (h : Mx.DP u b w t) (k : Mx.DP v b w t) (q : Int → Int → Bool) (hq : ∀ x y z, q (x + z) (y + z) = q x y) : Mx.EPb (fun n => q (u n) (v n)) b w := ⟨h.1, h.2.1, fun n hn => by
  show q (u (n + w)) (v (n + w)) = q (u n) (v n)
  rw [h.2.2 n hn, k.2.2 n hn, hq]⟩
def cntL (bs : List Bool) : Nat := bs.countP fun b => decide (b = true)
/-! in, index over bools -/
theorem flat_bls (xs : List Bool) : (xs.map PyData.bool).all flatP = true := by
  rw [List.all_map, List.all_eq_true]
  intro x _
  rfl
theorem any_eq (xs : List Bool) (b : Bool) : (xs.map PyData.bool).any (fun y => PyData.eqv y (.bool b)) = decide (b ∈ xs) := by
  rw [List.any_map]
  induction xs with
  | nil => simp
  | cons x xs ih =>
    rw [List.any_cons, ih]
    show (PyData.eqv (.bool x) (.bool b) || _) = _
    rw [eqv_bool]
    by_cases h : x = b
    · subst h; simp
    · simp [h, Ne.symm h]
theorem cmp_inB {xs : List Bool} {b : Bool} : opCmp .isin (.bool b) (.tuple (xs.map .bool)) = some (decide (b ∈ xs)) := by
  show inP (.bool b) (xs.map .bool) = _
  unfold inP
  rw [flat_bls, any_eq]
  rfl
theorem mem_rowB {lo hi : Int} {b : Bool} : b ∈ rowB f lo hi ↔ ∃ n, lo ≤ n ∧ n < hi ∧ f n = b := by
  unfold rowB
  rw [List.mem_map]
  constructor
  · rintro ⟨k, hk, rfl⟩
    have := List.mem_range.mp hk
    exact ⟨lo + k, by omega, by omega, rfl⟩
  · rintro ⟨n, h1, h2, rfl⟩
    refine ⟨(n - lo).toNat, List.mem_range.mpr (by omega), ?_⟩
    congr 1
    omega
/-- a member below the end of the first round, if there is one at all -/
theorem EPb.near {b w : Int} (h : Mx.EPb f b w) {m : Int} (m0 : 0 ≤ m) (hm : f m = true) : ∃ m', 0 ≤ m' ∧ m' < b + w ∧ m' ≤ m ∧ f m' = true := by
  have hb := h.1
  have hw := h.2.1
  by_cases hlt : m < b + w
  · exact ⟨m, m0, hlt, Int.le_refl _, hm⟩
  · have h1 := Int.emod_nonneg (m - b) (show w ≠ 0 by omega)
    have h2 := Int.emod_lt_of_pos (m - b) hw
    rw [EPb.at_ h (by omega)] at hm
    exact ⟨b + (m - b) % w, by omega, by omega, by omega, hm⟩
end
section
variable {k : Nat} {C : List Clo} {M : Mem} {s r : FF} {t : FS}

theorem raw_bounds_ok (h : s.Ok) : run prL F (k + 1) C (.fn 18) [.p s.d] M = .ok (.p (.tuple [if 0 ≤ s.r then .int (minL s.pr) else .none, if s.r ≤ 0 then .int (maxL s.pr) else .none])) M := by
  by_cases h1 : 0 ≤ s.r
  · by_cases h2 : s.r ≤ 0
    · rw [run_fn (d := d_raw_bounds) rfl rfl]
      simp_arith [d_raw_bounds, idx_f2, idx_f3, bi_minT (pr_ne h), bi_maxT (pr_ne h), h1, h2]
    · rw [run_fn (d := d_raw_bounds) rfl rfl]
      simp_arith [d_raw_bounds, idx_f2, idx_f3, bi_minT (pr_ne h), bi_maxT (pr_ne h), h1, h2]
  · by_cases h2 : s.r ≤ 0
    · rw [run_fn (d := d_raw_bounds) rfl rfl]
      simp_arith [d_raw_bounds, idx_f2, idx_f3, bi_minT (pr_ne h), bi_maxT (pr_ne h), h1, h2]
    · omega

theorem bounds_of_ok (h : s.Ok) : run prL F (k + 5) C (.fn 19) [.p s.d] M = .ok (.p (.tuple [if 0 ≤ s.r then .int (minL s.pr) else .none, if s.r ≤ 0 then .int (maxL s.pr) else .none])) M := by
  rw [run_fn (d := d_bounds_of) rfl rfl]
  simp_arith [d_bounds_of, check_form_ok h, raw_bounds_ok h]

end


/-! ### XB4_k68 -/

/-! Where two prices meet, where one is less. -/
section
structure Meets (s r : FF) (B W : Int) : Prop where
  b0 : 0 ≤ B
  w0 : 0 < W
  le : B + W ≤ 5000
  eq : Mx.EPb (fun n => decide (s.at n = r.at n)) B W
  lt : Mx.EPb (fun n => decide (s.at n < r.at n)) B W
def gain2 (s r : FF) : Int := s.r * (rnd s.w r.w / s.w) - r.r * (rnd s.w r.w / r.w)
def turnF (s r : FF) (n : Int) : Int := if 0 < gain2 s r then upI (1 - (s.at n - r.at n)) (gain2 s r) else upI (1 + (s.at n - r.at n)) (0 - gain2 s r)
variable {k : Nat} {C : List Clo} {M : Mem} {s r : FF}

theorem meets_0 (h : s.Ok) (h2 : r.Ok) (hz : max s.b r.b + rnd s.w r.w ≤ 5000) (hg : gain2 s r = 0) : Meets s r (max s.b r.b) (rnd s.w r.w) := by
  obtain ⟨d1, d2⟩ := dp_two h h2
  have e : s.r * (rnd s.w r.w / s.w) = r.r * (rnd s.w r.w / r.w) := by unfold gain2 at hg; omega
  rw [e] at d1
  exact ⟨d1.1, d1.2.1, hz, ep_cmp d1 d2 (fun x y => decide (x = y)) (fun x y z => by simp), ep_cmp d1 d2 (fun x y => decide (x < y)) (fun x y z => by simp)⟩
end


/-! ### XB6_k68 -/

/-! The greater and the lesser of two prices. -/
section
variable {k : Nat} {C : List Clo} {M : Mem} {s r : FF}
def wonL (s r : FF) : List Int := 0 :: rowI (fun n => upI (r.at n - s.at n) (gain2 s r)) (max s.b r.b) (max s.b r.b + rnd s.w r.w)
/-- the number from which on the first is never less -/
def wonB (s r : FF) : Int := max s.b r.b + rnd s.w r.w * maxL (wonL s r)
def grB (s r : FF) : Int := if gain2 s r = 0 then max s.b r.b else if 0 < gain2 s r then wonB s r else wonB r s
def grW (s r : FF) : Int := if gain2 s r = 0 then rnd s.w r.w else if 0 < gain2 s r then s.w else r.w
def grR (s r : FF) : Int := if gain2 s r = 0 then s.r * (rnd s.w r.w / s.w) else if 0 < gain2 s r then s.r else r.r
def negF (s : FF) : FF := ⟨s.b, s.w, 0 - s.r, s.pr.map fun x => 0 - x⟩
end


/-! ### XR1_k68 -/

/-! Rules as trees: what is one, their nodes. -/
section
inductive Ru where
  | flat (c : Int) | pcs | stp (n : Int) | lst (ps : List Int) (w r : Int)
  | two (w : Str) (a b : Ru) | cnt (w : Str) (k : Int) (a : Ru) | un (w : Str) (a : Ru)
def Ru.d : Ru → PyData
  | .flat c => .tuple [.str "flat", .int c]
  | .pcs => .tuple [.str "pieces"]
  | .stp n => .tuple [.str "step", .int n]
  | .lst ps w r => .tuple [.str "list", .tuple (ps.map .int), .int w, .int r]
  | .two w a b => .tuple [.str w, a.d, b.d]
  | .cnt w k a => .tuple [.str w, .int k, a.d]
  | .un w a => .tuple [.str w, a.d]
def w2s : List Str := ["plus", "less", "max", "min", "split", "into"]
def w1s : List Str := ["times", "share", "left", "packs", "each", "move", "within"]
def w0s : List Str := ["change", "high", "low"]
def cntLo (w : Str) : Int := if w = "times" then -20 else if w = "move" then -60 else if w = "within" then 0 else 1
def cntHi (w : Str) : Int := if w = "move" then 60 else if w = "within" then 30 else 20
/-- the node alone is right -/
def Ru.Nd : Ru → Prop
  | .flat c => -9999 ≤ c ∧ c ≤ 9999
  | .pcs => True
  | .stp n => 0 ≤ n ∧ n ≤ 200
  | .lst ps w r => (1 ≤ ps.length ∧ ps.length ≤ 24) ∧ (∀ p ∈ ps, -9999 ≤ p ∧ p ≤ 9999) ∧ (1 ≤ w ∧ w ≤ ps.length) ∧ (-9999 ≤ r ∧ r ≤ 9999)
  | .two w _ _ => w ∈ w2s
  | .cnt w k _ => w ∈ w1s ∧ cntLo w ≤ k ∧ k ≤ cntHi w
  | .un w _ => w ∈ w0s
def Ru.kids : Ru → List Ru
  | .two _ a b => [a, b]
  | .cnt _ _ a => [a]
  | .un _ a => [a]
  | _ => []
def Ru.size : Ru → Nat
  | .two _ a b => a.size + b.size + 1
  | .cnt _ _ a => a.size + 1
  | .un _ a => a.size + 1
  | _ => 1
def Ru.deep : Ru → Nat
  | .two _ a b => max a.deep b.deep + 1
  | .cnt _ _ a => a.deep + 1
  | .un _ a => a.deep + 1
  | _ => 1
/-- all nodes are right -/
def Ru.All : Ru → Prop
  | .two w a b => w ∈ w2s ∧ a.All ∧ b.All
  | .cnt w k a => (w ∈ w1s ∧ cntLo w ≤ k ∧ k ≤ cntHi w) ∧ a.All
  | .un w a => w ∈ w0s ∧ a.All
  | r => r.Nd
structure Ru.Ok (r : Ru) : Prop where
  all : r.All
  size : r.size ≤ 30
  deep : r.deep ≤ 8
theorem Ru.All.nd {r : Ru} (h : r.All) : r.Nd := by
  cases r <;> first | exact h | exact h.1
theorem Ru.All.kid {r a : Ru} (h : r.All) (ha : a ∈ r.kids) : a.All := by
  cases r <;> first
    | cases ha; done
    | (obtain ⟨_, h1, h2⟩ := h
       rcases List.mem_cons.mp ha with rfl | ha
       · exact h1
       · rw [List.mem_singleton.mp ha]; exact h2)
    | (rw [List.mem_singleton.mp ha]; exact h.2)
theorem Ru.size_pos (r : Ru) : 0 < r.size := by cases r <;> simp [Ru.size]
theorem Ru.size_kids (r : Ru) : r.size = (r.kids.map Ru.size).sum + 1 := by cases r <;> simp [Ru.size, Ru.kids]
theorem Ru.deep_kid {r a : Ru} (ha : a ∈ r.kids) : a.deep + 1 ≤ r.deep := by
  cases r <;> simp [Ru.kids] at ha <;> simp [Ru.deep]
  · rcases ha with rfl | rfl <;> omega
  · subst ha; omega
  · subst ha; omega
end
section
variable {k : Nat} {C : List Clo} {M : Mem} {r : Ru}
theorem atI_0 {x : PyData} {xs : List PyData} : L2.atI (x :: xs) 0 = some x := atI_head
theorem atI_1 {x y : PyData} {xs : List PyData} : L2.atI (x :: y :: xs) 1 = some y := by
  rw [atI_int (by omega)]
  rfl

theorem is_listed_ok {ps : List Int} {w t : Int} (h : (Ru.lst ps w t).Nd) : run prL F (k + 3) C (.fn 60) [.p (Ru.lst ps w t).d] M = .ok (.p (.bool true)) M := by
  obtain ⟨⟨h1, h2⟩, h3, h4, h5⟩ := h
  have hc : cut [PyData.str "list", .tuple (ps.map .int), .int w, .int t] (some 1) none = [.tuple (ps.map .int), .int w, .int t] := rfl
  have e6 : run prL F (k + 2) C (.fn 3) [.p (.tuple (ps.map .int)), .p (.int 1), .p (.int 24)] M = .ok (.p (.bool true)) M := is_sized_t (by rw [List.length_map]; omega) (by rw [List.length_map]; omega)
  rw [run_fn (d := d_is_listed) rfl rfl]
  simp_arith [d_is_listed, Ru.d, hc, e6]
  rw [comp_tI (xs := ps) (fun _ => .bool true)]
  · simp_arith []
    rw [all_tt _ (by simp)]
    simp_arith [List.length_map, is_within_t]
  · simp_arith []
  · omega
  · intro n hn M'
    have := h3 n hn
    simp_arith [is_within_t]

theorem w2_facts {w : Str} (h : w ∈ w2s) : w_SIZES.lookup w = some (.int 3) ∧ w_LOWS.lookup w = none ∧ Dif w "flat" ∧ Dif w "step" ∧ Dif w "list" ∧ w_SPOTS.lookup w = some (.tuple [.int 1, .int 2]) := by
  simp only [w2s, List.mem_cons, List.not_mem_nil, or_false] at h
  rcases h with rfl | rfl | rfl | rfl | rfl | rfl <;> exact ⟨rfl, rfl, by decide +kernel, by decide +kernel, by decide +kernel, rfl⟩
theorem w1_facts {w : Str} (h : w ∈ w1s) : w_SIZES.lookup w = some (.int 3) ∧ w_LOWS.lookup w = some (.int (cntLo w)) ∧ w_HIGHS.lookup w = some (.int (cntHi w)) ∧ Dif w "flat" ∧ Dif w "step" ∧ Dif w "list" ∧ w_SPOTS.lookup w = some (.tuple [.int 2]) := by
  simp only [w1s, List.mem_cons, List.not_mem_nil, or_false] at h
  rcases h with rfl | rfl | rfl | rfl | rfl | rfl | rfl <;> exact ⟨rfl, rfl, rfl, by decide +kernel, by decide +kernel, by decide +kernel, rfl⟩
theorem w0_facts {w : Str} (h : w ∈ w0s) : w_SIZES.lookup w = some (.int 2) ∧ w_LOWS.lookup w = none ∧ Dif w "flat" ∧ Dif w "step" ∧ Dif w "list" ∧ w_SPOTS.lookup w = some (.tuple [.int 1]) := by
  simp only [w0s, List.mem_cons, List.not_mem_nil, or_false] at h
  rcases h with rfl | rfl | rfl <;> exact ⟨rfl, rfl, by decide +kernel, by decide +kernel, by decide +kernel, rfl⟩
theorem is_node_ok (h : r.Nd) : run prL F (k + 4) C (.fn 61) [.p r.d] M = .ok (.p (.bool true)) M := by
  cases r with
  | flat c =>
    obtain ⟨h1, h2⟩ := h
    have l1 : w_SIZES.lookup ("flat" : Str) = some (.int 2) := rfl
    rw [run_fn (d := d_is_node) rfl rfl]
    simp_arith [d_is_node, Ru.d, atI_0, atI_1, l1, Option.isSome_some, cS_t (show PyData.strOk "flat" = true by decide +kernel), is_within_t]
  | pcs =>
    have l1 : w_SIZES.lookup ("pieces" : Str) = some (.int 1) := rfl
    have l2 : w_LOWS.lookup ("pieces" : Str) = none := rfl
    have n1 : Dif "pieces" "flat" := by decide +kernel
    have n2 : Dif "pieces" "step" := by decide +kernel
    have n3 : Dif "pieces" "list" := by decide +kernel
    rw [run_fn (d := d_is_node) rfl rfl]
    simp_arith [d_is_node, Ru.d, atI_0, l1, l2, Option.isSome_some, Option.isSome_none, cS_f n1, cS_f n2, cS_f n3]
  | stp n =>
    obtain ⟨h1, h2⟩ := h
    have l1 : w_SIZES.lookup ("step" : Str) = some (.int 2) := rfl
    have n1 : Dif "step" "flat" := by decide +kernel
    rw [run_fn (d := d_is_node) rfl rfl]
    simp_arith [d_is_node, Ru.d, atI_0, atI_1, l1, Option.isSome_some, cS_f n1, cS_t (show PyData.strOk "step" = true by decide +kernel), is_within_t]
  | lst ps w t =>
    have l1 : w_SIZES.lookup ("list" : Str) = some (.int 4) := rfl
    have n1 : Dif "list" "flat" := by decide +kernel
    have n2 : Dif "list" "step" := by decide +kernel
    have il := is_listed_ok (F := F) (k := k) (C := C) (M := M) h
    unfold Ru.d at il
    rw [run_fn (d := d_is_node) rfl rfl]
    simp_arith [d_is_node, Ru.d, atI_0, l1, Option.isSome_some, cS_f n1, cS_f n2, cS_t (show PyData.strOk "list" = true by decide +kernel), il]
  | two w a b =>
    obtain ⟨l1, l2, n1, n2, n3, _⟩ := w2_facts h
    rw [run_fn (d := d_is_node) rfl rfl]
    simp_arith [d_is_node, Ru.d, atI_0, l1, l2, Option.isSome_some, Option.isSome_none, cS_f n1, cS_f n2, cS_f n3]
  | cnt w q a =>
    obtain ⟨h1, h2, h3⟩ := h
    obtain ⟨l1, l2, l3, n1, n2, n3, _⟩ := w1_facts h1
    rw [run_fn (d := d_is_node) rfl rfl]
    simp_arith [d_is_node, Ru.d, atI_0, atI_1, l1, l2, l3, Option.isSome_some, Option.isSome_none, cS_f n1, cS_f n2, cS_f n3, is_within_t]
  | un w a =>
    obtain ⟨l1, l2, n1, n2, n3, _⟩ := w0_facts h
    rw [run_fn (d := d_is_node) rfl rfl]
    simp_arith [d_is_node, Ru.d, atI_0, l1, l2, Option.isSome_some, Option.isSome_none, cS_f n1, cS_f n2, cS_f n3]

end


/-! ### XR2_k68 -/

/-! Rules as trees: is it a rule, its nodes, its forms. -/
section
variable {k : Nat} {C : List Clo} {M : Mem} {r : Ru}
theorem small1 {xs : List PyData} (h : xs.length ≤ 1000000) : xs.length ≤ sizeLine := Nat.le_trans h (by decide)
theorem Ru.kids_le (r : Ru) : r.kids.length ≤ 2 := by cases r <;> simp [Ru.kids]
theorem len_n {n : Nat} {xs : List PyData} (h : M[n]? = some xs) : opBi M .len [.loc n] = some (.p (.int (xs.length : Nat))) := by
  have e : opBi M .len [.loc n] = (M[n]?).map fun xs => .p (.int xs.length) := rfl
  rw [e, h]
  rfl
theorem fin_loc {n j : Nat} {xs : List PyData} (h : M[j]? = some xs) (hj : n ≤ j) : finF n false (.ok (.ret (.loc j)) M) = .ok (.p (.list xs)) (M.take n) := by
  show (if j < n then _ else match M[j]? with | some xs => _ | none => _) = _
  rw [if_neg (by omega), h]
  rfl
theorem fin_dic {t : Bool} {n : Nat} {xs : List PyData} (h : M[n]? = some xs) : finF n true (.ok (.ret (.dic t n)) M) = .ok (.dic t n) (M.take n ++ [xs]) := by
  show (if n < n then _ else match M[n]? with | some xs => _ | none => _) = _
  rw [if_neg (by omega), h]
  rfl
theorem tupR_0 : tupR [] M = .ok (.p (.tuple [])) M := rfl
theorem it_enum {xs : List PyData} : itemsI M .enum [.p (.list xs)] = some (enums 0 xs) := rfl
theorem Ru.deep_pos (r : Ru) : 0 < r.deep := by cases r <;> simp [Ru.deep]

theorem raw_parts_ok (h : r.Nd) : run prL F (k + 1) C (.fn 62) [.p r.d] M = .ok (.p (.list (r.kids.map Ru.d))) M := by
  have none_ : ∀ (w : Str) (xs : List PyData), w_SPOTS.lookup w = some (.tuple []) → run prL F (k + 1) C (.fn 62) [.p (.tuple (.str w :: xs))] M = .ok (.p (.list [])) M := by
    intro w xs hw
    rw [run_fn (d := d_raw_parts) rfl rfl]
    simp_arith [d_raw_parts]
    rw [comp_at (M1 := M) (ds := [.p (.tuple [])]) (xs := []) (f := fun x => x) (by simp_arith [atI_0, hw]) it_t (by decide) (by intro x hx; cases hx)]
    simp_arith []
  have one_ : ∀ (w : Str) (xs : List PyData) (i : Int) (y : PyData), w_SPOTS.lookup w = some (.tuple [.int i]) → L2.atI (PyData.str w :: xs) i = some y → run prL F (k + 1) C (.fn 62) [.p (.tuple (.str w :: xs))] M = .ok (.p (.list [y])) M := by
    intro w xs i y hw hy
    rw [run_fn (d := d_raw_parts) rfl rfl]
    simp_arith [d_raw_parts]
    rw [comp_at (M1 := M) (ds := [.p (.tuple [.int i])]) (xs := [.int i]) (f := fun x => y) (by simp_arith [atI_0, hw]) it_t (small1 (by simp)) (by
      intro x hx
      rw [List.mem_singleton.mp hx]
      exact ⟨_, rfl, fun acc => by simp_arith [hy]⟩)]
    simp_arith []
  have two_ : ∀ (w : Str) (xs : List PyData) (i j : Int) (y z : PyData), i ≠ j → w_SPOTS.lookup w = some (.tuple [.int i, .int j]) → L2.atI (PyData.str w :: xs) i = some y → L2.atI (PyData.str w :: xs) j = some z → run prL F (k + 1) C (.fn 62) [.p (.tuple (.str w :: xs))] M = .ok (.p (.list [y, z])) M := by
    intro w xs i j y z hij hw hy hz
    rw [run_fn (d := d_raw_parts) rfl rfl]
    simp_arith [d_raw_parts]
    rw [comp_at (M1 := M) (ds := [.p (.tuple [.int i, .int j])]) (xs := [.int i, .int j]) (f := fun x => match x with | .int n => if n = i then y else z | _ => z) (by simp_arith [atI_0, hw]) it_t (small1 (by simp)) (by
      intro x hx
      rcases List.mem_cons.mp hx with rfl | hx
      · exact ⟨_, rfl, fun acc => by simp_arith [hy]⟩
      · rw [List.mem_singleton.mp hx]
        refine ⟨_, rfl, fun acc => ?_⟩
        simp only [if_neg (Ne.symm hij)]
        simp_arith [hz])]
    simp only [List.map_cons, List.map_nil, if_true, if_neg (Ne.symm hij)]
    simp_arith []
  cases r with
  | flat c => exact none_ "flat" _ rfl
  | pcs => exact none_ "pieces" _ rfl
  | stp n => exact none_ "step" _ rfl
  | lst ps w t => exact none_ "list" _ rfl
  | two w a b =>
    obtain ⟨_, _, _, _, _, l⟩ := w2_facts h
    exact two_ w _ 1 2 a.d b.d (by omega) l atI_1 (by rw [atI_int (by omega)]; rfl)
  | cnt w q a =>
    obtain ⟨_, _, _, _, _, _, l⟩ := w1_facts h.1
    exact one_ w _ 2 a.d l (by rw [atI_int (by omega)]; rfl)
  | un w a =>
    obtain ⟨_, _, _, _, _, l⟩ := w0_facts h
    exact one_ w _ 1 a.d l atI_1

def wtD (x : Ru × Nat) : PyData := .tuple [x.1.d, .int x.2]
def wtN (ws : List (Ru × Nat)) : Nat := (ws.map fun x => x.1.size).sum
theorem wtN_app {a b : List (Ru × Nat)} : wtN (a ++ b) = wtN a + wtN b := by unfold wtN; rw [List.map_append, List.sum_append]
theorem wtN_kids {r : Ru} {d : Nat} : wtN (r.kids.map fun a => (a, d)) + 1 = r.size := by
  unfold wtN
  rw [r.size_kids, List.map_map]
  rfl
theorem last_ex {α : Type} : ∀ {xs : List α}, xs ≠ [] → ∃ ys y, xs = ys ++ [y]
  | [], h => absurd rfl h
  | x :: xs, _ => ⟨(x :: xs).dropLast, (x :: xs).getLast (by simp), (List.dropLast_concat_getLast _).symm⟩
theorem wt_le : ∀ {ws : List (Ru × Nat)}, ws.length ≤ wtN ws
  | [] => Nat.zero_le _
  | x :: ws => by
    have := wt_le (ws := ws)
    have := x.1.size_pos
    unfold wtN at *
    rw [List.length_cons, List.map_cons, List.sum_cons]
    omega
theorem raw_is_rule_ok (hF : 10000 ≤ F) (h : r.Ok) : run prL F (k + 5) C (.fn 63) [.p r.d] M = .ok (.p (.bool true)) M := by
  rw [run_fn (d := d_raw_is_rule) rfl rfl]
  simp_arith [d_raw_is_rule, lstMR_1]
  obtain ⟨σ', M', h1, x, rfl, u1, u2, u3, rfl⟩ := whl_I (g := gOf prL F (k + 4) C) (c := (.cmp .gt (.bi .len [.var 1]) (.int 0))) (b := [.unp [3, 4] (.me .pop (.var 1) []), .asg 2 (.bin .add (.var 2) (.int 1)), .ite (.or (.cmp .gt (.var 2) (.int 30)) (.or (.cmp .gt (.var 4) (.int 8)) (.not (.call 61 [.var 3])))) [.ret (.bl false)] [], .expr (.me .extend (.var 1) [.comp (.one 6) .seq [.call 62 [.var 3]] [] [5, 6] (.tup [.var 6, .bin .add (.var 4) (.int 1)])])]) (n := F) (σ := [some (.p r.d), some (.loc M.length), some (.p (.int 0)), none, none, none, none]) (M := M ++ [[.tuple [r.d, .int 1]]])
    (fun m σ M' => ∃ ws, ∃ many : Nat, ∃ a b, m = wtN ws ∧ σ = [some (.p r.d), some (.loc M.length), some (.p (.int many)), a, b, none, none] ∧ M' = M ++ [ws.map wtD] ∧ many + wtN ws ≤ 30 ∧ ∀ x ∈ ws, x.1.All ∧ x.2 + x.1.deep ≤ 9)
    (fun σ M' => ∃ xs, M' = M ++ [xs] ∧ ∃ a b c, σ = [some (.p r.d), some (.loc M.length), a, b, c, none, none])
    ⟨wtN [(r, 1)], by have := h.size; unfold wtN; simp; omega, [(r, 1)], 0, none, none, rfl, rfl, rfl, by have := h.size; unfold wtN; simp; omega, by intro x hx; rw [List.mem_singleton.mp hx]; exact ⟨h.all, by have := h.deep; show 1 + r.deep ≤ 9; omega⟩⟩ (by
      rintro m σ M' ⟨ws, many, a, b, rfl, rfl, rfl, hm, hw⟩
      by_cases h0 : ws = []
      · left
        subst h0
        exact ⟨by simp_arith [len_top], _, rfl, _, _, _, rfl⟩
      · right
        obtain ⟨us, ⟨r1, d1⟩, rfl⟩ := last_ex h0
        obtain ⟨ha, hd⟩ := hw (r1, d1) (by simp)
        have hd : d1 + r1.deep ≤ 9 := hd
        have hdp := r1.deep_pos
        rw [wtN_app] at hm
        have hs : wtN [(r1, d1)] = r1.size := by unfold wtN; simp
        have hp := r1.size_pos
        have hk := wtN_kids (r := r1) (d := d1 + 1)
        refine ⟨[some (.p r.d), some (.loc M.length), some (.p (.int (many + 1 : Nat))), some (.p r1.d), some (.p (.int d1)), none, none], M ++ [(us ++ r1.kids.map fun a => (a, d1 + 1)).map wtD], wtN (us ++ r1.kids.map fun a => (a, d1 + 1)), ?_, ?_, ?_, _, many + 1, _, _, rfl, rfl, rfl, ?_, ?_⟩
        · rw [wtN_app, wtN_app]; omega
        · simp_arith [len_top, List.length_map, List.length_append]
        · have l1 : ((us ++ [(r1, d1)]).map wtD) = us.map wtD ++ [.tuple [r1.d, .int d1]] := by rw [List.map_append]; rfl
          rw [l1]
          have c1 : ¬ ((many : Int) + 1 > 30) := by omega
          have c2 : ¬ ((d1 : Int) > 8) := by omega
          simp_arith [me_pop, is_node_ok ha.nd]
          rw [me_extend (ys := r1.kids.map fun a => .tuple [a.d, .int (d1 + 1)])]
          · simp_arith []
            rw [List.map_append, List.map_map]
            rfl
          · rw [comp_at (M1 := M ++ [us.map wtD]) (ds := [.p (.list (r1.kids.map Ru.d))]) (xs := r1.kids.map Ru.d) (f := fun x => .tuple [x, .int (d1 + 1)]) (by simp_arith [raw_parts_ok ha.nd]) it_l (small1 (by rw [List.length_map]; exact Nat.le_trans r1.kids_le (by omega))) (by
              intro x hx
              exact ⟨_, rfl, fun acc => by simp_arith []⟩)]
            rw [List.map_map]
            rfl
          · rw [List.length_map, List.length_map]
            have := wt_le (ws := us)
            have := r1.kids_le
            exact Nat.le_trans (by omega) (show 1000000 ≤ sizeLine by decide)
        · rw [wtN_app]; omega
        · intro x hx
          rcases List.mem_append.mp hx with hx | hx
          · exact hw x (by simp [hx])
          · obtain ⟨a, ha1, rfl⟩ := List.mem_map.mp hx
            have := r1.deep_kid ha1
            have : d1 + r1.deep ≤ 9 := (hw (r1, d1) (by simp)).2
            exact ⟨ha.kid ha1, by show d1 + 1 + a.deep ≤ 9; omega⟩)
  rw [h1]
  simp_arith []
  rw [List.take_left]

theorem check_rule_ok (hF : 10000 ≤ F) (h : r.Ok) : run prL F (k + 6) C (.fn 64) [.p r.d] M = .ok (.p .none) M := by
  rw [run_fn (d := d_check_rule) rfl rfl]
  simp_arith [d_check_rule, raw_is_rule_ok hF h]

/-- the nodes of a rule, with their paths -/
def Ru.nodes : Ru → List Int → List (List Int × Ru)
  | .two w a b, p => (p, .two w a b) :: (b.nodes (p ++ [1]) ++ a.nodes (p ++ [0]))
  | .cnt w k a, p => (p, .cnt w k a) :: a.nodes (p ++ [0])
  | .un w a, p => (p, .un w a) :: a.nodes (p ++ [0])
  | r, p => [(p, r)]
def Ru.kidsP : Ru → List Int → List (List Int × Ru)
  | .two _ a b, p => [(p ++ [0], a), (p ++ [1], b)]
  | .cnt _ _ a, p => [(p ++ [0], a)]
  | .un _ a, p => [(p ++ [0], a)]
  | _, _ => []
def ptD (p : List Int) : PyData := .tuple (p.map .int)
def nodD (x : List Int × Ru) : PyData := .tuple [ptD x.1, x.2.d]
def nodesS (ws : List (List Int × Ru)) : List (List Int × Ru) := (ws.reverse.map fun x => x.2.nodes x.1).flatten
theorem nodesS_app {a b : List (List Int × Ru)} : nodesS (a ++ b) = nodesS b ++ nodesS a := by unfold nodesS; rw [List.reverse_append, List.map_append, List.flatten_append]
theorem nodes_eq {r : Ru} {p : List Int} : r.nodes p = (p, r) :: nodesS (r.kidsP p) := by cases r <;> simp [Ru.nodes, Ru.kidsP, nodesS]
theorem nodes_pos {r : Ru} {p : List Int} : 0 < (r.nodes p).length := by rw [nodes_eq]; exact Nat.succ_pos _
theorem nodesS_len : ∀ {ws : List (List Int × Ru)}, ws.length ≤ (nodesS ws).length
  | [] => Nat.zero_le _
  | x :: ws => by
    have h1 := nodesS_len (ws := ws)
    have e : nodesS (x :: ws) = nodesS ws ++ nodesS [x] := nodesS_app (a := [x]) (b := ws)
    have e2 : nodesS [x] = x.2.nodes x.1 := by simp [nodesS]
    have := nodes_pos (r := x.2) (p := x.1)
    rw [e, List.length_append, e2, List.length_cons]
    omega
theorem nodes_size : ∀ {r : Ru} {p : List Int}, (r.nodes p).length = r.size
  | .two w a b, p => by simp [Ru.nodes, Ru.size, nodes_size (r := a), nodes_size (r := b)]; omega
  | .cnt w k a, p => by simp [Ru.nodes, Ru.size, nodes_size (r := a)]
  | .un w a, p => by simp [Ru.nodes, Ru.size, nodes_size (r := a)]
  | .flat _, p | .pcs, p | .stp _, p | .lst _ _ _, p => rfl
theorem enum_kids {r : Ru} {p : List Int} : (enums 0 (r.kids.map Ru.d)).map (fun x => match x with | .tuple [.int i, y] => .tuple [ptD (p ++ [i]), y] | x => x) = (r.kidsP p).map nodD := by cases r <;> rfl
theorem kidsP_all {r : Ru} {p : List Int} (h : r.All) : ∀ x ∈ r.kidsP p, x.2.All := by
  cases r <;> intro x hx <;> simp [Ru.kidsP] at hx
  · rcases hx with rfl | rfl
    · exact h.2.1
    · exact h.2.2
  · subst hx; exact h.2
  · subst hx; exact h.2
theorem kidsP_le {r : Ru} {p : List Int} : (r.kidsP p).length ≤ 2 := by cases r <;> simp [Ru.kidsP]
theorem Ru.deep_size : ∀ r : Ru, r.deep ≤ r.size
  | .two w a b => by have := a.deep_size; have := b.deep_size; simp only [Ru.deep, Ru.size]; omega
  | .cnt w k a => by have := a.deep_size; simp only [Ru.deep, Ru.size]; omega
  | .un w a => by have := a.deep_size; simp only [Ru.deep, Ru.size]; omega
  | .flat _ | .pcs | .stp _ | .lst _ _ _ => Nat.le_refl 1
theorem kidsP_deep {r : Ru} {p : List Int} {n : Nat} (h : p.length + r.deep ≤ n) : ∀ x ∈ r.kidsP p, x.1.length + x.2.deep ≤ n := by
  cases r <;> intro x hx <;> simp [Ru.kidsP] at hx <;> simp only [Ru.deep] at h
  · rcases hx with rfl | rfl <;> simp only [List.length_append, List.length_singleton] <;> omega
  · subst hx; simp only [List.length_append, List.length_singleton]; omega
  · subst hx; simp only [List.length_append, List.length_singleton]; omega
theorem enums_mem : ∀ {xs : List PyData} {i : Nat} {x : PyData}, x ∈ enums i xs → ∃ (j : Nat) (y : PyData), x = .tuple [.int j, y]
  | a :: xs, i, x, h => by
    rcases List.mem_cons.mp h with rfl | h
    · exact ⟨i, a, rfl⟩
    · exact enums_mem h
theorem enums_len : ∀ {xs : List PyData} {i : Nat}, (enums i xs).length = xs.length
  | [], _ => rfl
  | a :: xs, i => by show (enums (i + 1) xs).length + 1 = xs.length + 1; rw [enums_len]
theorem add_pt {p : List Int} {j : Int} (h : p.length ≤ 10000) : opBin .add (ptD p) (.tuple [.int j]) = some (ptD (p ++ [j])) := by
  have e : opBin .add (ptD p) (.tuple [.int j]) = if (p.map PyData.int).length + [PyData.int j].length ≤ sizeLine then some (.tuple (p.map .int ++ [.int j])) else none := rfl
  rw [e, if_pos (Nat.le_trans (by rw [List.length_map]; simp; omega) (show 1000000 ≤ sizeLine by decide))]
  unfold ptD
  rw [List.map_append]
  rfl
theorem raw_nodes_ok (hF : 10000 ≤ F) (h : r.All) (hz : r.size ≤ 1000) : run prL F (k + 2) C (.fn 65) [.p r.d] M = .ok (.p (.list ((r.nodes []).map nodD))) M := by
  have bz : 1000000 ≤ sizeLine := by decide
  rw [run_fn (d := d_raw_nodes) rfl rfl]
  simp_arith [d_raw_nodes, tupR_0, lstMR_1, lstMR_0, two_mk, two_len]
  obtain ⟨σ', M', h1, rfl, u1, u2, u3, u4, u5, rfl⟩ := whl_I (g := gOf prL F (k + 1) C) (c := (.cmp .gt (.bi .len [.var 2]) (.int 0))) (b := [.unp [3, 4] (.me .pop (.var 2) []), .expr (.me .append (.var 1) [.tup [.var 3, .var 4]]), .expr (.me .extend (.var 2) [.comp (.many [6, 7]) .enum [.call 62 [.var 4]] [] [5, 6, 7] (.tup [.bin .add (.var 3) (.tup [.var 6]), .var 7])])]) (n := F) (σ := [some (.p r.d), some (.loc M.length), some (.loc (M.length + 1)), none, none, none, none, none]) (M := M ++ [[], [.tuple [.tuple [], r.d]]])
    (fun m σ M' => ∃ ws ns, ∃ a b c d e, m = (nodesS ws).length ∧ σ = [some (.p r.d), some (.loc M.length), some (.loc (M.length + 1)), a, b, c, d, e] ∧ M' = M ++ [ns.map nodD, ws.map nodD] ∧ ns ++ nodesS ws = r.nodes [] ∧ ∀ x ∈ ws, x.2.All ∧ x.1.length + x.2.deep ≤ 1000)
    (fun σ M' => M' = M ++ [(r.nodes []).map nodD, []] ∧ ∃ a b c d e, σ = [some (.p r.d), some (.loc M.length), some (.loc (M.length + 1)), a, b, c, d, e])
    ⟨(nodesS [([], r)]).length, by have := nodes_size (r := r) (p := []); unfold nodesS; simp; omega, [([], r)], [], none, none, none, none, none, rfl, rfl, rfl, by simp [nodesS], by intro x hx; rw [List.mem_singleton.mp hx]; exact ⟨h, by have := r.deep_size; show 0 + r.deep ≤ 1000; omega⟩⟩ (by
      rintro m σ M' ⟨ws, ns, a, b, c, d, e, rfl, rfl, rfl, hn, hw⟩
      have hsz : (ns ++ nodesS ws).length = r.size := by rw [hn]; exact nodes_size
      rw [List.length_append] at hsz
      by_cases h0 : ws = []
      · left
        subst h0
        have e0 : nodesS [] = [] := rfl
        rw [e0, List.append_nil] at hn
        subst hn
        exact ⟨by simp_arith [len_n two_1], rfl, _, _, _, _, _, rfl⟩
      · right
        obtain ⟨us, ⟨p, r1⟩, rfl⟩ := last_ex h0
        obtain ⟨ha, hd⟩ := hw (p, r1) (by simp)
        have hd : p.length + r1.deep ≤ 1000 := hd
        have e1 : nodesS (us ++ [(p, r1)]) = (p, r1) :: nodesS (us ++ r1.kidsP p) := by
          rw [nodesS_app, nodesS_app]
          have : nodesS [(p, r1)] = (p, r1) :: nodesS (r1.kidsP p) := by rw [← nodes_eq]; simp [nodesS]
          rw [this]
          rfl
        rw [e1] at hn hsz
        rw [List.length_cons] at hsz
        refine ⟨[some (.p r.d), some (.loc M.length), some (.loc (M.length + 1)), some (.p (ptD p)), some (.p r1.d), c, d, e], M ++ [(ns ++ [(p, r1)]).map nodD, (us ++ r1.kidsP p).map nodD], (nodesS (us ++ r1.kidsP p)).length, ?_, ?_, ?_, _, _, _, _, _, _, _, rfl, rfl, rfl, ?_, ?_⟩
        · rw [e1, List.length_cons]; omega
        · simp_arith [len_n two_1, List.length_map, List.length_append]
        · have l1 : ((us ++ [(p, r1)]).map nodD) = us.map nodD ++ [.tuple [ptD p, r1.d]] := by rw [List.map_append]; rfl
          rw [l1]
          simp_arith [me_pop_n two_1, two_s1]
          rw [me_append_n (d := .tuple [ptD p, r1.d]) (M2 := M ++ [ns.map nodD, us.map nodD]) (xs := ns.map nodD) (by simp_arith []) two_0 (by rw [List.length_map]; omega)]
          simp_arith [two_s0]
          rw [me_extend_n (M2 := M ++ [ns.map nodD ++ [.tuple [ptD p, r1.d]], us.map nodD]) (ys := (r1.kidsP p).map nodD) (xs := us.map nodD) ?_ two_1 ?_]
          · simp_arith [two_s1]
            rw [List.map_append, List.map_append]
            rfl
          · rw [comp_at (M1 := M ++ [ns.map nodD ++ [.tuple [ptD p, r1.d]], us.map nodD]) (ds := [.p (.list (r1.kids.map Ru.d))]) (f := fun x => match x with | .tuple [.int i, y] => .tuple [ptD (p ++ [i]), y] | x => x) (by simp_arith [raw_parts_ok ha.nd]) it_enum ?_ ?_]
            · rw [enum_kids]
            · exact small1 (by rw [enums_len, List.length_map]; exact Nat.le_trans r1.kids_le (by omega))
            · intro x hx
              obtain ⟨j, y, rfl⟩ := enums_mem hx
              refine ⟨_, rfl, fun acc => ?_⟩
              simp_arith [add_pt (p := p) (j := (j : Int)) (by omega)]
          · rw [List.length_map, List.length_map]
            have := kidsP_le (r := r1) (p := p)
            have : us.length ≤ (nodesS us).length := nodesS_len
            rw [nodesS_app, List.length_append] at hsz
            omega
        · rw [← hn]; simp
        · intro x hx
          rcases List.mem_append.mp hx with hx | hx
          · exact hw x (by simp [hx])
          · exact ⟨kidsP_all ha x hx, kidsP_deep hd x hx⟩)
  rw [h1]
  simp_arith []
  rw [fin_loc two_0 (Nat.le_refl _), two_take]

/-! ### its forms -/
theorem nkeys_ints : ∀ p : List Int, nkeys (p.map .int) = some (p.map .num)
  | [] => rfl
  | i :: p => by
    show (match nkey (.int i) with | some k => (nkeys (p.map .int)).map (k :: ·) | none => none) = _
    rw [nkeys_ints p]
    rfl
theorem depth_nums : ∀ p : List Int, NestedKey.depthAll (p.map .num) = 0
  | [] => by simp [NestedKey.depthAll]
  | i :: p => by simp [NestedKey.depthAll, NestedKey.depth, depth_nums p]
theorem nkey_pt {p : List Int} : nkey (ptD p) = some (.tup (p.map .num)) := by
  show (nkeys (p.map .int)).map NestedKey.tup = _
  rw [nkeys_ints]
  rfl
theorem key_pt {p : List Int} : keyOk true (ptD p) = true := by
  show (match nkeys (p.map .int) with | some ks => decide ((NestedKey.tup ks).depth ≤ 8) | none => false) = true
  rw [nkeys_ints]
  simp [NestedKey.depth, depth_nums]
theorem num_inj : ∀ {p q : List Int}, p.map NestedKey.num = q.map NestedKey.num → p = q
  | [], [], _ => rfl
  | a :: p, b :: q, h => by
    rw [List.map_cons, List.map_cons] at h
    injection h with h1 h2
    injection h1 with h1
    rw [h1, num_inj h2]
theorem pt_inj {p q : List Int} : nkey (ptD p) = nkey (ptD q) ↔ p = q := by
  rw [nkey_pt, nkey_pt]
  constructor
  · intro h
    injection h with h
    injection h with h
    exact num_inj h
  · rintro rfl; rfl
abbrev Dc := List (List Int × PyData)
def cellD (x : List Int × PyData) : PyData := .tuple [ptD x.1, x.2]
def dcPut : Dc → List Int → PyData → Dc
  | [], p, v => [(p, v)]
  | x :: r, p, v => if x.1 = p then (p, v) :: dcPut r p v else x :: dcPut r p v
def dcGet : Dc → List Int → Option PyData
  | [], _ => none
  | x :: r, p => if x.1 = p then some x.2 else dcGet r p
theorem dfind_dc : ∀ {D : Dc} {p : List Int}, dfind (D.map cellD) (ptD p) = dcGet D p
  | [], p => rfl
  | x :: D, p => by
    show (if nkey (ptD x.1) = nkey (ptD p) then some x.2 else dfind (D.map cellD) (ptD p)) = if x.1 = p then some x.2 else dcGet D p
    rw [dfind_dc (D := D)]
    by_cases h : x.1 = p
    · rw [if_pos (pt_inj.mpr h), if_pos h]
    · rw [if_neg (fun e => h (pt_inj.mp e)), if_neg h]
def dcSet : Dc → List Int → PyData → Dc
  | [], _, _ => []
  | x :: r, p, v => (if x.1 = p then (x.1, v) else x) :: dcSet r p v
def dcPut2 (D : Dc) (p : List Int) (v : PyData) : Dc := if (dcGet D p).isSome then dcSet D p v else D ++ [(p, v)]
theorem dputL_dc {p : List Int} {v : PyData} : ∀ {D : Dc}, dputL (ptD p) v (D.map cellD) = (dcSet D p v).map cellD
  | [] => rfl
  | x :: D => by
    show (if nkey (ptD x.1) = nkey (ptD p) then PyData.tuple [ptD x.1, v] else .tuple [ptD x.1, x.2]) :: dputL (ptD p) v (D.map cellD) = cellD (if x.1 = p then (x.1, v) else x) :: (dcSet D p v).map cellD
    rw [dputL_dc (D := D)]
    by_cases h : x.1 = p
    · rw [if_pos (pt_inj.mpr h), if_pos h]; rfl
    · rw [if_neg (fun e => h (pt_inj.mp e)), if_neg h]; rfl
theorem dput_dc {D : Dc} {p : List Int} {v : PyData} : dput (D.map cellD) (ptD p) v = (dcPut2 D p v).map cellD := by
  unfold dput dcPut2
  rw [dfind_dc, dputL_dc]
  split
  · rfl
  · rw [List.map_append]; rfl
theorem get_set {p q : List Int} {v : PyData} : ∀ {D : Dc}, dcGet (dcSet D p v) q = if q = p then (if (dcGet D p).isSome then some v else none) else dcGet D q
  | [] => by simp [dcSet, dcGet]
  | x :: D => by
    show (if (if x.1 = p then (x.1, v) else x).1 = q then some (if x.1 = p then (x.1, v) else x).2 else dcGet (dcSet D p v) q) = _
    rw [get_set (D := D)]
    simp only [dcGet]
    by_cases h : x.1 = p
    · subst h
      by_cases h2 : x.1 = q
      · subst h2; simp
      · simp [h2, Ne.symm h2]
    · by_cases h2 : x.1 = q
      · subst h2; simp [h]
      · by_cases h3 : q = p <;> simp [h, h2, h3]
theorem get_app {q : List Int} {E : Dc} : ∀ {D : Dc}, dcGet (D ++ E) q = match dcGet D q with | some v => some v | none => dcGet E q
  | [] => rfl
  | x :: D => by
    show (if x.1 = q then some x.2 else dcGet (D ++ E) q) = _
    rw [get_app (D := D)]
    simp only [dcGet]
    split <;> rfl
theorem get_put {D : Dc} {p q : List Int} {v : PyData} : dcGet (dcPut2 D p v) q = if q = p then some v else dcGet D q := by
  unfold dcPut2
  by_cases h : (dcGet D p).isSome
  · rw [if_pos h, get_set]
    simp [h]
  · rw [if_neg h, get_app]
    by_cases h2 : q = p
    · subst h2
      have : dcGet D q = none := by simpa using h
      rw [this]
      simp [dcGet]
    · rw [if_neg h2]
      have : dcGet [(p, v)] q = none := by simp [dcGet, Ne.symm h2]
      rw [this]
      split <;> simp_all
theorem set_len {p : List Int} {v : PyData} : ∀ {D : Dc}, (dcSet D p v).length = D.length
  | [] => rfl
  | x :: D => by show (dcSet D p v).length + 1 = D.length + 1; rw [set_len]
theorem put_len {D : Dc} {p : List Int} {v : PyData} : (dcPut2 D p v).length ≤ D.length + 1 := by
  unfold dcPut2
  split
  · rw [set_len]; omega
  · rw [List.length_append]; exact Nat.le_refl _

/-- what a form_by answers at the nodes: `G`: went well with the form `fo`, or the exception `e` -/
def Fby (F k : Nat) (C : List Clo) (fo : Ru → FF) (G : Ru → Prop) (e : Xc) (x : Ru) : Prop := (∀ a ∈ x.kids, G a) →
  (G x ∧ ∀ M, run prL F k C (.fn 70) [.p x.d, .p (.list (x.kids.map fun a => (fo a).d))] M = .ok (.p (fo x).d) M) ∨ (∀ M, run prL F k C (.fn 70) [.p x.d, .p (.list (x.kids.map fun a => (fo a).d))] M = .exc e M)
def Ru.Each (P : Ru → Prop) : Ru → Prop
  | .two w a b => P (.two w a b) ∧ a.Each P ∧ b.Each P
  | .cnt w k a => P (.cnt w k a) ∧ a.Each P
  | .un w a => P (.un w a) ∧ a.Each P
  | r => P r
end


/-! ### XR3_k68 -/

/-! The forms of a rule's nodes. -/
section
variable {k : Nat} {C : List Clo} {M : Mem} {r : Ru} {fo : Ru → FF} {G : Ru → Prop} {e : Xc}
theorem pre_app {p q : List Int} {i : Int} (h : ¬ p <+: q) : ¬ (p ++ [i]) <+: q := fun ⟨t, e⟩ => h ⟨i :: t, by rw [← e, List.append_assoc]; rfl⟩
theorem pre_not {p : List Int} {i j : Int} (h : i ≠ j) : ¬ (p ++ [i]) <+: (p ++ [j]) := fun ⟨t, e⟩ => by
  rw [List.append_assoc] at e
  have e2 := List.append_cancel_left e
  injection e2 with e2 _
  exact h e2
theorem pre_ne {p q : List Int} (h : ¬ p <+: q) : q ≠ p := fun e => h (e ▸ List.prefix_refl _)

theorem len_spots {x : Ru} (h : x.Nd) {w : Str} {xs : List PyData} (hx : x.d = .tuple (.str w :: xs)) : ∃ ys, w_SPOTS.lookup w = some (.tuple ys) ∧ ys.length = x.kids.length := by
  cases x with
  | flat c => injection hx with hx; injection hx with hx; injection hx with hx; subst hx; exact ⟨_, rfl, rfl⟩
  | pcs => injection hx with hx; injection hx with hx; injection hx with hx; subst hx; exact ⟨_, rfl, rfl⟩
  | stp n => injection hx with hx; injection hx with hx; injection hx with hx; subst hx; exact ⟨_, rfl, rfl⟩
  | lst ps w t => injection hx with hx; injection hx with hx; injection hx with hx; subst hx; exact ⟨_, rfl, rfl⟩
  | two w a b => injection hx with hx; injection hx with hx; injection hx with hx; subst hx; obtain ⟨_, _, _, _, _, l⟩ := w2_facts h; exact ⟨_, l, rfl⟩
  | cnt w q a => injection hx with hx; injection hx with hx; injection hx with hx; subst hx; obtain ⟨_, _, _, _, _, _, l⟩ := w1_facts h.1; exact ⟨_, l, rfl⟩
  | un w a => injection hx with hx; injection hx with hx; injection hx with hx; subst hx; obtain ⟨_, _, _, _, _, l⟩ := w0_facts h; exact ⟨_, l, rfl⟩
theorem word_ex (x : Ru) : ∃ w xs, x.d = .tuple (.str w :: xs) := by cases x <;> exact ⟨_, _, rfl⟩
/-- one turn: the form at a path -/
theorem forms_turn {x : Ru} (hx : x.Nd) {p : List Int} (hp : p.length ≤ 1000) {D : Dc} (hD : D.length ≤ 1000) (hk : ∀ (i : Nat) (a : Ru), x.kids[i]? = some a → dcGet D (p ++ [(i : Int)]) = some (fo a).d) (H : Fby F k C fo G e x) (hG : ∀ a ∈ x.kids, G a) :
    (G x ∧ evSs (gOf prL F k C) [.dset (.var 1) (.var 2) (.call 70 [.var 3, .comp (.one 5) .range [.bi .len [.wget w_SPOTS (.idx (.var 3) (.int 0))]] [] [4, 5] (.dget (.var 1) (.bin .add (.var 2) (.tup [.var 5])))])] [some (.p r.d), some (.dic true M.length), some (.p (ptD p)), some (.p x.d), none, none] (M ++ [D.map cellD]) = .ok (.nx [some (.p r.d), some (.dic true M.length), some (.p (ptD p)), some (.p x.d), none, none]) (M ++ [(dcPut2 D p (fo x).d).map cellD]))
    ∨ evSs (gOf prL F k C) [.dset (.var 1) (.var 2) (.call 70 [.var 3, .comp (.one 5) .range [.bi .len [.wget w_SPOTS (.idx (.var 3) (.int 0))]] [] [4, 5] (.dget (.var 1) (.bin .add (.var 2) (.tup [.var 5])))])] [some (.p r.d), some (.dic true M.length), some (.p (ptD p)), some (.p x.d), none, none] (M ++ [D.map cellD]) = .exc e (M ++ [D.map cellD]) := by
  obtain ⟨w, xs, hw⟩ := word_ex x
  obtain ⟨ys, hy, hl⟩ := len_spots hx hw
  have i0 : opIdx (M ++ [D.map cellD]) (.p x.d) (.p (.int 0)) = some (.p (.str w)) := by rw [hw, idx_t, atI_head]; rfl
  have cc : evE (gOf prL F k C) (.comp (.one 5) .range [.bi .len [.wget w_SPOTS (.idx (.var 3) (.int 0))]] [] [4, 5] (.dget (.var 1) (.bin .add (.var 2) (.tup [.var 5])))) [some (.p r.d), some (.dic true M.length), some (.p (ptD p)), some (.p x.d), none, none] (M ++ [D.map cellD]) = .ok (.p (.list (x.kids.map fun a => (fo a).d))) (M ++ [D.map cellD]) := by
    rw [comp_r1_at (hi := ys.length) (fun n => match x.kids[n.toNat]? with | some a => (fo a).d | none => .none)]
    · rw [hl]
      cases x <;> rfl
    · simp_arith [i0, hy]
    · have := x.kids_le
      omega
    · intro n h0 h1 acc
      obtain ⟨m, rfl⟩ : ∃ m : Nat, n = m := ⟨n.toNat, by omega⟩
      have hm : m < x.kids.length := by omega
      have hq : x.kids[(m : Int).toNat]? = some x.kids[m] := List.getElem?_eq_getElem hm
      have at2 : (M ++ [D.map cellD] ++ [acc])[M.length]? = some (D.map cellD) := by rw [List.append_assoc]; exact two_0
      simp_arith [add_pt (p := p) (j := (m : Int)) (by omega), dget_of key_pt at2, dfind_dc, hk m x.kids[m] hq]
      rw [hq]
  rcases H hG with ⟨g, h⟩ | h
  · left
    refine ⟨g, ?_⟩
    simp_arith [s_dset]
    rw [cc]
    simp_arith [h]
    rw [dset_of key_pt at_top (Nat.lt_of_lt_of_le (by rw [List.length_map]; omega) (show 1000000 ≤ sizeLine by decide)), dput_dc, set_top]
    simp_arith []
  · right
    simp_arith [s_dset]
    rw [cc]
    simp_arith [h]

def FL (F k : Nat) (C : List Clo) (M : Mem) (r : Ru) (xs : List PyData) (y z : Option Ev.D) (D : Dc) : R Fl := forG (gOf prL F k C) (.many [2, 3]) [.dset (.var 1) (.var 2) (.call 70 [.var 3, .comp (.one 5) .range [.bi .len [.wget w_SPOTS (.idx (.var 3) (.int 0))]] [] [4, 5] (.dget (.var 1) (.bin .add (.var 2) (.tup [.var 5])))])] xs [some (.p r.d), some (.dic true M.length), y, z, none, none] (M ++ [D.map cellD])
def FP (F k : Nat) (C : List Clo) (M : Mem) (r : Ru) (fo : Ru → FF) (G : Ru → Prop) (e : Xc) (x : Ru) (p : List Int) (xs rest : List PyData) (y z : Option Ev.D) (D D0 : Dc) (n : Nat) : Prop :=
  (G x ∧ ∃ D' y' z', FL F k C M r xs y z D = FL F k C M r rest y' z' D' ∧ dcGet D' p = some (fo x).d ∧ (∀ q, ¬ p <+: q → dcGet D' q = dcGet D0 q) ∧ D'.length ≤ n + 1) ∨ ∃ D' : Dc, FL F k C M r xs y z D = .exc e (M ++ [D'.map cellD])
theorem forms_node {x : Ru} (hx : x.Nd) {p : List Int} (hp : p.length ≤ 1000) {D D0 : Dc} (hD : D.length ≤ 1000) (hk : ∀ (i : Nat) (a : Ru), x.kids[i]? = some a → dcGet D (p ++ [(i : Int)]) = some (fo a).d) (H : Fby F k C fo G e x) (hG : ∀ a ∈ x.kids, G a)
    (hq : ∀ q, ¬ p <+: q → dcGet D q = dcGet D0 q) {rest : List PyData} {y z : Option Ev.D} : FP F k C M r fo G e x p (nodD (p, x) :: rest) rest y z D D0 D.length := by
  unfold FP FL
  rw [forG_cons (σ1 := [some (.p r.d), some (.dic true M.length), some (.p (ptD p)), some (.p x.d), none, none]) rfl]
  rcases forms_turn (M := M) (r := r) hx hp hD hk H hG with ⟨g, h⟩ | h
  · left
    refine ⟨g, dcPut2 D p (fo x).d, some (.p (ptD p)), some (.p x.d), ?_, ?_, fun q hn => ?_, put_len⟩
    · rw [h, bind_ok, forK_nx]
    · rw [get_put, if_pos rfl]
    · rw [get_put, if_neg (pre_ne hn), hq q hn]
  · right
    refine ⟨D, ?_⟩
    rw [h, bind_exc]
theorem forms_one {x a : Ru} {p : List Int} {D : Dc} (hx : x.Nd) (ek : x.kids = [a]) (hp : p.length ≤ 1000) {n : Nat} (hn : n + 1 ≤ 1000) (H : Fby F k C fo G e x) {rest ys : List PyData} {y z : Option Ev.D}
    (ih : FP F k C M r fo G e a (p ++ [0]) (ys ++ nodD (p, x) :: rest) (nodD (p, x) :: rest) y z D D n) : FP F k C M r fo G e x p (ys ++ nodD (p, x) :: rest) rest y z D D (n + 1) := by
  rcases ih with ⟨g1, D1, y1, z1, h1, h2, h3, h4⟩ | ⟨D1, h1⟩
  · rcases forms_node (M := M) (r := r) (p := p) (x := x) (D := D1) (D0 := D) (rest := rest) (y := y1) (z := z1) hx hp (by omega) (by
      intro i b hb
      rw [ek] at hb
      match i, hb with
      | 0, hb => injection hb with hb; subst hb; exact h2) H (by intro b hb; rw [ek] at hb; rw [List.mem_singleton.mp hb]; exact g1) (fun q hq => h3 q (pre_app hq)) with ⟨g2, D2, y2, z2, k1, k2, k3, k4⟩ | ⟨D2, k1⟩
    · exact .inl ⟨g2, D2, y2, z2, h1.trans k1, k2, k3, by omega⟩
    · exact .inr ⟨D2, h1.trans k1⟩
  · exact .inr ⟨D1, h1⟩
theorem forms_loop : ∀ (x : Ru) (p : List Int) (D : Dc) (rest : List PyData) (y z : Option Ev.D), x.All → x.Each (Fby F k C fo G e) → p.length + x.deep ≤ 1000 → D.length + x.size ≤ 1000 →
    FP F k C M r fo G e x p ((x.nodes p).reverse.map nodD ++ rest) rest y z D D (D.length + x.size - 1)
  | .flat c, p, D, rest, y, z, h, H, h1, h2 => forms_node h (by omega) (by omega) (by intro i a hi; cases hi) H (by intro a ha; cases ha) fun _ _ => rfl
  | .pcs, p, D, rest, y, z, h, H, h1, h2 => forms_node h (by omega) (by omega) (by intro i a hi; cases hi) H (by intro a ha; cases ha) fun _ _ => rfl
  | .stp n, p, D, rest, y, z, h, H, h1, h2 => forms_node h (by omega) (by omega) (by intro i a hi; cases hi) H (by intro a ha; cases ha) fun _ _ => rfl
  | .lst ps w t, p, D, rest, y, z, h, H, h1, h2 => forms_node h (by omega) (by omega) (by intro i a hi; cases hi) H (by intro a ha; cases ha) fun _ _ => rfl
  | .cnt w q a, p, D, rest, y, z, h, H, h1, h2 => by
    simp only [Ru.deep, Ru.size] at h1 h2
    have ih := forms_loop a (p ++ [0]) D (nodD (p, .cnt w q a) :: rest) y z h.2 H.2 (by rw [List.length_append, List.length_singleton]; omega) (by omega)
    have e1 : ((Ru.cnt w q a).nodes p).reverse.map nodD ++ rest = (a.nodes (p ++ [0])).reverse.map nodD ++ nodD (p, .cnt w q a) :: rest := by simp [Ru.nodes]
    have e2 : D.length + (Ru.cnt w q a).size - 1 = D.length + a.size - 1 + 1 := by have := a.size_pos; simp only [Ru.size]; omega
    rw [e1, e2]
    exact forms_one (Ru.All.nd h) rfl (by omega) (by omega) H.1 ih
  | .un w a, p, D, rest, y, z, h, H, h1, h2 => by
    simp only [Ru.deep, Ru.size] at h1 h2
    have ih := forms_loop a (p ++ [0]) D (nodD (p, .un w a) :: rest) y z h.2 H.2 (by rw [List.length_append, List.length_singleton]; omega) (by omega)
    have e1 : ((Ru.un w a).nodes p).reverse.map nodD ++ rest = (a.nodes (p ++ [0])).reverse.map nodD ++ nodD (p, .un w a) :: rest := by simp [Ru.nodes]
    have e2 : D.length + (Ru.un w a).size - 1 = D.length + a.size - 1 + 1 := by have := a.size_pos; simp only [Ru.size]; omega
    rw [e1, e2]
    exact forms_one (Ru.All.nd h) rfl (by omega) (by omega) H.1 ih
  | .two w a b, p, D, rest, y, z, h, H, h1, h2 => by
    simp only [Ru.deep, Ru.size] at h1 h2
    have pa := a.size_pos
    have pb := b.size_pos
    have e1 : ((Ru.two w a b).nodes p).reverse.map nodD ++ rest = (a.nodes (p ++ [0])).reverse.map nodD ++ ((b.nodes (p ++ [1])).reverse.map nodD ++ nodD (p, .two w a b) :: rest) := by simp [Ru.nodes]
    have e2 : D.length + (Ru.two w a b).size - 1 = D.length + a.size + b.size := by simp only [Ru.size]; omega
    rw [e1, e2]
    rcases forms_loop a (p ++ [0]) D ((b.nodes (p ++ [1])).reverse.map nodD ++ nodD (p, .two w a b) :: rest) y z h.2.1 H.2.1 (by rw [List.length_append, List.length_singleton]; omega) (by omega) with ⟨g1, D1, y1, z1, j1, j2, j3, j4⟩ | ⟨D1, j1⟩
    · rcases forms_loop b (p ++ [1]) D1 (nodD (p, .two w a b) :: rest) y1 z1 h.2.2 H.2.2 (by rw [List.length_append, List.length_singleton]; omega) (by omega) with ⟨g2, D2, y2, z2, k1, k2, k3, k4⟩ | ⟨D2, k1⟩
      · rcases forms_node (M := M) (r := r) (p := p) (x := .two w a b) (D := D2) (D0 := D) (rest := rest) (y := y2) (z := z2) (Ru.All.nd h) (by omega) (by omega) (by
          intro i c hc
          match i, hc with
          | 0, hc => injection hc with hc; subst hc; rw [k3 _ (pre_not (by omega))]; exact j2
          | 1, hc => injection hc with hc; subst hc; exact k2) H.1 (by
          intro c hc
          rcases List.mem_cons.mp hc with rfl | hc
          · exact g1
          · rw [List.mem_singleton.mp hc]; exact g2) (fun q hq => by rw [k3 q (pre_app hq), j3 q (pre_app hq)]) with ⟨g3, D3, y3, z3, l1, l2, l3, l4⟩ | ⟨D3, l1⟩
        · exact .inl ⟨g3, D3, y3, z3, (j1.trans k1).trans l1, l2, l3, by omega⟩
        · exact .inr ⟨D3, (j1.trans k1).trans l1⟩
      · exact .inr ⟨D2, j1.trans k1⟩
    · exact .inr ⟨D1, j1⟩

theorem raw_form_ok (hF : 10000 ≤ F) (h : r.All) (hz : r.size ≤ 500) (H : r.Each (Fby F (k + 2) C fo G e)) : (G r ∧ run prL F (k + 4) C (.fn 72) [.p r.d] M = .ok (.p (fo r).d) M) ∨ run prL F (k + 4) C (.fn 72) [.p r.d] M = .exc e M := by
  have hd := r.deep_size
  have key : ∀ M : Mem, (G r ∧ ∃ D : Dc, run prL F (k + 3) C (.fn 71) [.p r.d] M = .ok (.dic true M.length) (M ++ [D.map cellD]) ∧ dcGet D [] = some (fo r).d) ∨ run prL F (k + 3) C (.fn 71) [.p r.d] M = .exc e M := by
    intro M
    have L := forms_loop (M := M) (r := r) r [] [] [] none none h H (by simp; omega) (by simp; omega)
    rw [List.append_nil] at L
    unfold FP FL at L
    rw [List.map_nil, List.map_reverse] at L
    rw [run_fn (d := d_raw_forms) rfl rfl]
    simp_arith [d_raw_forms, e_dnew, raw_nodes_ok hF h (show r.size ≤ 1000 by omega), it_l]
    rcases L with ⟨g, D, y, z, h1, h2, h3, h4⟩ | ⟨D, h1⟩
    · left
      refine ⟨g, D, ?_, h2⟩
      rw [h1, forG_nil]
      simp_arith []
      rw [fin_dic at_top, List.take_left]
    · right
      rw [h1]
      simp_arith []
      rw [List.take_left]
  rcases key M with ⟨g, D, h1, h2⟩ | h1
  · left
    refine ⟨g, ?_⟩
    rw [run_fn (d := d_raw_form) rfl rfl]
    simp_arith [d_raw_form, h1, e_dget, tupR_0]
    have e0 : PyData.tuple [] = ptD [] := rfl
    rw [e0, dget_of key_pt at_top, dfind_dc, h2]
    simp_arith []
    rw [List.take_left]
  · right
    rw [run_fn (d := d_raw_form) rfl rfl]
    simp_arith [d_raw_form, h1, e_dget]

def Fok (F k : Nat) (C : List Clo) (fo : Ru → FF) (G : Ru → Prop) (x : Ru) : Prop := (∀ a ∈ x.kids, G a) → G x ∧ ∀ M, run prL F k C (.fn 70) [.p x.d, .p (.list (x.kids.map fun a => (fo a).d))] M = .ok (.p (fo x).d) M
theorem Ru.Each.imp {P Q : Ru → Prop} (h : ∀ x, P x → Q x) : ∀ {r : Ru}, r.Each P → r.Each Q
  | .two _ a b, H => ⟨h _ H.1, H.2.1.imp h, H.2.2.imp h⟩
  | .cnt _ _ a, H => ⟨h _ H.1, H.2.imp h⟩
  | .un _ a, H => ⟨h _ H.1, H.2.imp h⟩
  | .flat _, H => h _ H
  | .pcs, H => h _ H
  | .stp _, H => h _ H
  | .lst _ _ _, H => h _ H

theorem raw_form_yes (hF : 10000 ≤ F) (h : r.All) (hz : r.size ≤ 500) (H : r.Each (Fok F (k + 2) C fo G)) : G r ∧ run prL F (k + 4) C (.fn 72) [.p r.d] M = .ok (.p (fo r).d) M := by
  have at1 : ∀ e : Xc, (G r ∧ run prL F (k + 4) C (.fn 72) [.p r.d] M = .ok (.p (fo r).d) M) ∨ run prL F (k + 4) C (.fn 72) [.p r.d] M = .exc e M := fun e => raw_form_ok hF h hz (H.imp fun x hx hk => .inl (hx hk))
  rcases at1 ⟨0, []⟩ with h1 | h1
  · exact h1
  · rcases at1 ⟨1, []⟩ with h2 | h2
    · exact h2
    · rw [h1] at h2
      injection h2 with h2
      injection h2 with h2
      cases h2

theorem form_of_yes (hF : 10000 ≤ F) (h : r.Ok) (H : r.Each (Fok F (k + 4) C fo G)) : G r ∧ run prL F (k + 7) C (.fn 73) [.p r.d] M = .ok (.p (fo r).d) M := by
  obtain ⟨g, e⟩ := raw_form_yes (k := k + 2) (M := M) hF h.all (by have := h.size; omega) H
  refine ⟨g, ?_⟩
  rw [run_fn (d := d_form_of) rfl rfl]
  simp_arith [d_form_of, check_rule_ok hF h, e]
end


/-! ### XR4_k68 -/

/-! The form at one node, word by word. -/
section
variable {k : Nat} {C : List Clo} {M : Mem} {e : Xc} {x y z : PyData}

theorem form_plus_ok {a b : Ru} (h : run prL F (k + 1) C (.fn 21) [.p x, .p y] M = .ok (.p z) M) : run prL F (k + 3) C (.fn 70) [.p (Ru.two "plus" a b).d, .p (.list [x, y])] M = .ok (.p z) M := by
  have e2 : run prL F (k + 2) C (.fn 68) [.p (.str "plus"), .p x, .p y] M = .ok (.p z) M := by
    rw [run_fn (d := d_joined_by) rfl rfl]
    simp_arith [d_joined_by, h, cS_t (show PyData.strOk "plus" = true by decide +kernel)]
  rw [run_fn (d := d_form_by) rfl rfl]
  simp_arith [d_form_by, Ru.d, atI_0, atI_1, bi_len_l, e2]

theorem form_less_ok {a b : Ru} (h : run prL F (k + 1) C (.fn 23) [.p x, .p y] M = .ok (.p z) M) : run prL F (k + 3) C (.fn 70) [.p (Ru.two "less" a b).d, .p (.list [x, y])] M = .ok (.p z) M := by
  have e2 : run prL F (k + 2) C (.fn 68) [.p (.str "less"), .p x, .p y] M = .ok (.p z) M := by
    rw [run_fn (d := d_joined_by) rfl rfl]
    simp_arith [d_joined_by, h, cS_f (show Dif "less" "plus" by decide +kernel), cS_t (show PyData.strOk "less" = true by decide +kernel)]
  rw [run_fn (d := d_form_by) rfl rfl]
  simp_arith [d_form_by, Ru.d, atI_0, atI_1, bi_len_l, e2]

theorem form_times_ok {a : Ru} {q : Int} (h : run prL F (k + 1) C (.fn 29) [.p x, .p (.int q)] M = .ok (.p z) M) : run prL F (k + 3) C (.fn 70) [.p (Ru.cnt "times" q a).d, .p (.list [x])] M = .ok (.p z) M := by
  have e2 : run prL F (k + 2) C (.fn 69) [.p (.str "times"), .p (.int q), .p x] M = .ok (.p z) M := by
    rw [run_fn (d := d_counted_by) rfl rfl]
    simp_arith [d_counted_by, h, cS_t (show PyData.strOk "times" = true by decide +kernel)]
  have n1 : opCmp .eq (.str "times") (.str "change") = some false := cS_f (by decide +kernel)
  have n2 : opCmp .isin (.str "times") (.tuple [.str "high", .str "low"]) = some false := by rfl
  rw [run_fn (d := d_form_by) rfl rfl]
  simp_arith [d_form_by, Ru.d, atI_0, atI_1, bi_len_l, e2, n1, n2]

theorem form_share_ok {a : Ru} {q : Int} (h : run prL F (k + 1) C (.fn 32) [.p x, .p (.int q)] M = .ok (.p z) M) : run prL F (k + 3) C (.fn 70) [.p (Ru.cnt "share" q a).d, .p (.list [x])] M = .ok (.p z) M := by
  have e2 : run prL F (k + 2) C (.fn 69) [.p (.str "share"), .p (.int q), .p x] M = .ok (.p z) M := by
    rw [run_fn (d := d_counted_by) rfl rfl]
    simp_arith [d_counted_by, h, cS_f (show Dif "share" "times" by decide +kernel), cS_t (show PyData.strOk "share" = true by decide +kernel)]
  have n1 : opCmp .eq (.str "share") (.str "change") = some false := cS_f (by decide +kernel)
  have n2 : opCmp .isin (.str "share") (.tuple [.str "high", .str "low"]) = some false := by rfl
  rw [run_fn (d := d_form_by) rfl rfl]
  simp_arith [d_form_by, Ru.d, atI_0, atI_1, bi_len_l, e2, n1, n2]

theorem form_left_ok {a : Ru} {q : Int} (h : run prL F (k + 1) C (.fn 34) [.p x, .p (.int q)] M = .ok (.p z) M) : run prL F (k + 3) C (.fn 70) [.p (Ru.cnt "left" q a).d, .p (.list [x])] M = .ok (.p z) M := by
  have e2 : run prL F (k + 2) C (.fn 69) [.p (.str "left"), .p (.int q), .p x] M = .ok (.p z) M := by
    rw [run_fn (d := d_counted_by) rfl rfl]
    simp_arith [d_counted_by, h, cS_f (show Dif "left" "times" by decide +kernel), cS_f (show Dif "left" "share" by decide +kernel), cS_t (show PyData.strOk "left" = true by decide +kernel)]
  have n1 : opCmp .eq (.str "left") (.str "change") = some false := cS_f (by decide +kernel)
  have n2 : opCmp .isin (.str "left") (.tuple [.str "high", .str "low"]) = some false := by rfl
  rw [run_fn (d := d_form_by) rfl rfl]
  simp_arith [d_form_by, Ru.d, atI_0, atI_1, bi_len_l, e2, n1, n2]

theorem form_packs_ok {a : Ru} {q : Int} (h : run prL F (k + 1) C (.fn 36) [.p x, .p (.int q)] M = .ok (.p z) M) : run prL F (k + 3) C (.fn 70) [.p (Ru.cnt "packs" q a).d, .p (.list [x])] M = .ok (.p z) M := by
  have e2 : run prL F (k + 2) C (.fn 69) [.p (.str "packs"), .p (.int q), .p x] M = .ok (.p z) M := by
    rw [run_fn (d := d_counted_by) rfl rfl]
    simp_arith [d_counted_by, h, cS_f (show Dif "packs" "times" by decide +kernel), cS_f (show Dif "packs" "share" by decide +kernel), cS_f (show Dif "packs" "left" by decide +kernel), cS_t (show PyData.strOk "packs" = true by decide +kernel)]
  have n1 : opCmp .eq (.str "packs") (.str "change") = some false := cS_f (by decide +kernel)
  have n2 : opCmp .isin (.str "packs") (.tuple [.str "high", .str "low"]) = some false := by rfl
  rw [run_fn (d := d_form_by) rfl rfl]
  simp_arith [d_form_by, Ru.d, atI_0, atI_1, bi_len_l, e2, n1, n2]

theorem form_each_ok {a : Ru} {q : Int} (h : run prL F (k + 1) C (.fn 37) [.p x, .p (.int q)] M = .ok (.p z) M) : run prL F (k + 3) C (.fn 70) [.p (Ru.cnt "each" q a).d, .p (.list [x])] M = .ok (.p z) M := by
  have e2 : run prL F (k + 2) C (.fn 69) [.p (.str "each"), .p (.int q), .p x] M = .ok (.p z) M := by
    rw [run_fn (d := d_counted_by) rfl rfl]
    simp_arith [d_counted_by, h, cS_f (show Dif "each" "times" by decide +kernel), cS_f (show Dif "each" "share" by decide +kernel), cS_f (show Dif "each" "left" by decide +kernel), cS_f (show Dif "each" "packs" by decide +kernel), cS_t (show PyData.strOk "each" = true by decide +kernel)]
  have n1 : opCmp .eq (.str "each") (.str "change") = some false := cS_f (by decide +kernel)
  have n2 : opCmp .isin (.str "each") (.tuple [.str "high", .str "low"]) = some false := by rfl
  rw [run_fn (d := d_form_by) rfl rfl]
  simp_arith [d_form_by, Ru.d, atI_0, atI_1, bi_len_l, e2, n1, n2]

theorem form_move_ok {a : Ru} {q : Int} (h : run prL F (k + 1) C (.fn 35) [.p x, .p (.int q)] M = .ok (.p z) M) : run prL F (k + 3) C (.fn 70) [.p (Ru.cnt "move" q a).d, .p (.list [x])] M = .ok (.p z) M := by
  have e2 : run prL F (k + 2) C (.fn 69) [.p (.str "move"), .p (.int q), .p x] M = .ok (.p z) M := by
    rw [run_fn (d := d_counted_by) rfl rfl]
    simp_arith [d_counted_by, h, cS_f (show Dif "move" "times" by decide +kernel), cS_f (show Dif "move" "share" by decide +kernel), cS_f (show Dif "move" "left" by decide +kernel), cS_f (show Dif "move" "packs" by decide +kernel), cS_f (show Dif "move" "each" by decide +kernel), cS_t (show PyData.strOk "move" = true by decide +kernel)]
  have n1 : opCmp .eq (.str "move") (.str "change") = some false := cS_f (by decide +kernel)
  have n2 : opCmp .isin (.str "move") (.tuple [.str "high", .str "low"]) = some false := by rfl
  rw [run_fn (d := d_form_by) rfl rfl]
  simp_arith [d_form_by, Ru.d, atI_0, atI_1, bi_len_l, e2, n1, n2]

theorem form_change_ok {a : Ru} (h : run prL F (k + 2) C (.fn 38) [.p x] M = .ok (.p z) M) : run prL F (k + 3) C (.fn 70) [.p (Ru.un "change" a).d, .p (.list [x])] M = .ok (.p z) M := by
  rw [run_fn (d := d_form_by) rfl rfl]
  simp_arith [d_form_by, Ru.d, atI_0, atI_1, bi_len_l, h, cS_t (show PyData.strOk "change" = true by decide +kernel)]

end


/-! ### XR5_k68 -/

/-! What a rule costs; rules of plain words. -/
section
def twoF (w : Str) (f g : Int → Int) (n : Int) : Int :=
  if w = "plus" then f n + g n else if w = "less" then f n - g n else if w = "max" then max (f n) (g n) else if w = "min" then min (f n) (g n)
  else if w = "split" then minL (rowI (fun i => f i + g (n - i)) 0 (n + 1)) else g (max 0 (f n))
def cntF (w : Str) (k : Int) (f : Int → Int) (n : Int) : Int :=
  if w = "times" then k * f n else if w = "share" then f n / k else if w = "left" then f n % k else if w = "packs" then f (upI n k) else if w = "each" then f (k * n)
  else if w = "move" then f (max 0 (n + k)) else minL (rowI (fun i => f (n + i)) 0 (k + 1))
def unF (w : Str) (f : Int → Int) (n : Int) : Int :=
  if w = "change" then f (n + 1) - f n else if w = "high" then maxL (rowI f 0 (n + 1)) else minL (rowI f 0 (n + 1))
def Ru.pr : Ru → Int → Int
  | .flat c => fun _ => c
  | .pcs => fun n => n
  | .stp m => fun n => if n < m then 0 else 1
  | .lst ps w t => (FF.mk (ps.length - w) w t ps).at
  | .two w a b => twoF w a.pr b.pr
  | .cnt w k a => cntF w k a.pr
  | .un w a => unF w a.pr
noncomputable def Ru.fo (x : Ru) : FF := canFF x.pr
theorem line_dp {f : Int → Int} {a c : Int} (h : ∀ n, 0 ≤ n → f n = a + n * c) : Mx.DP f 0 1 c := ⟨Int.le_refl 0, Int.zero_lt_one, fun n hn => by rw [h n hn, h (n + 1) (by omega), Int.add_mul]; omega⟩
theorem line_can {f : Int → Int} {a c : Int} (h : ∀ n, 0 ≤ n → f n = a + n * c) : canFF f = ⟨0, 1, c, [a]⟩ := by
  rw [canFF_eq (b := 0) (p := 1) (s := c) ⟨line_dp h, fun _ _ _ d => d.2.1, fun _ _ d => d.1⟩]
  have e : rowI f 0 (0 + 1) = [a] := by
    have e1 : rowI f 0 (0 + 1) = [f 0] := rfl
    rw [e1, h 0 (Int.le_refl 0)]
    simp
  unfold tabF
  rw [e]
theorem lst_ok {ps : List Int} {w t : Int} (h : (Ru.lst ps w t).Nd) : (FF.mk (ps.length - w) w t ps).Ok := by
  obtain ⟨⟨h1, h2⟩, _, ⟨h3, h4⟩, h5⟩ := h
  exact ⟨by show 0 ≤ (ps.length : Int) - w; omega, by show 0 < w; omega, by show (ps.length : Int) = ps.length - w + w; omega, by show (ps.length : Int) - w + w ≤ 5000; omega, by show -1000000000000000 ≤ t ∧ t ≤ 1000000000000000; omega⟩
theorem stp_ok {m : Int} (h : (Ru.stp m).Nd) : (FF.mk m 1 0 (List.replicate m.toNat 0 ++ [1])).Ok := by
  obtain ⟨h1, h2⟩ := h
  exact ⟨h1, Int.zero_lt_one, by show ((List.replicate m.toNat (0 : Int) ++ [1]).length : Int) = m + 1; rw [List.length_append, List.length_replicate, List.length_singleton]; omega, by show m + 1 ≤ 5000; omega, by show -1000000000000000 ≤ (0 : Int) ∧ (0 : Int) ≤ 1000000000000000; omega⟩
theorem stp_dp {m : Int} (h : 0 ≤ m) : Mx.DP (Ru.stp m).pr m 1 0 := ⟨h, Int.zero_lt_one, fun n hn => by
  show (if n + 1 < m then (0 : Int) else 1) = (if n < m then 0 else 1) + 0
  rw [if_neg (by omega), if_neg (by omega)]; rfl⟩
theorem stp_at {m : Int} (h : (Ru.stp m).Nd) {n : Int} (hn : 0 ≤ n) : (FF.mk m 1 0 (List.replicate m.toNat 0 ++ [1])).at n = (Ru.stp m).pr n := by
  have hm := h.1
  have row : rowI (Ru.stp m).pr 0 (m + 1) = List.replicate m.toNat 0 ++ [1] := by
    have e : (m + 1 - 0).toNat = m.toNat + 1 := by omega
    unfold rowI
    rw [e, List.range_succ, List.map_append]
    congr 1
    · apply List.eq_replicate_iff.mpr
      refine ⟨by simp, fun b hb => ?_⟩
      obtain ⟨k, hk, rfl⟩ := List.mem_map.mp hb
      have := List.mem_range.mp hk
      show (if (0 : Int) + k < m then (0 : Int) else 1) = 0
      rw [if_pos (by omega)]
    · show [if (0 : Int) + m.toNat < m then (0 : Int) else 1] = [1]
      rw [if_neg (by omega)]
  have e : FF.mk m 1 0 (List.replicate m.toNat 0 ++ [1]) = tabF (Ru.stp m).pr m 1 0 := by unfold tabF; rw [row]
  rw [e, tabF_at (stp_dp hm) hn]
end
section
variable {k : Nat} {C : List Clo} {M : Mem} {x y z : PyData}

theorem b_mulTT {xs : List PyData} {n : Int} (h1 : 0 ≤ n ∧ n ≤ 1000000000) (h2 : xs.length * n.toNat ≤ 1000000) : opBin .mul (.tuple xs) (.int n) = some (.tuple (List.replicate n.toNat xs).flatten) := by
  have e : opBin .mul (.tuple xs) (.int n) = (if (decide (-(2 ^ 62) ≤ n ∧ n < 2 ^ 62) && decide (xs.length * n.toNat ≤ sizeLine)) = true then some (PyData.tuple (Ev.rep xs n.toNat)) else none) := rfl
  rw [e, decide_eq_true (by omega), decide_eq_true (Nat.le_trans h2 line_big)]
  rfl
theorem b_addTT {xs ys : List PyData} (h : xs.length + ys.length ≤ 1000000) : opBin .add (.tuple xs) (.tuple ys) = some (.tuple (xs ++ ys)) := by
  have e : opBin .add (.tuple xs) (.tuple ys) = if xs.length + ys.length ≤ sizeLine then some (.tuple (xs ++ ys)) else none := rfl
  rw [e, if_pos (Nat.le_trans h line_big)]
theorem flat_rep : ∀ (n : Nat), (List.replicate n [PyData.int 0]).flatten = (List.replicate n (0 : Int)).map .int
  | 0 => rfl
  | n + 1 => by rw [List.replicate_succ, List.flatten_cons, flat_rep n, List.replicate_succ, List.map_cons]; rfl

theorem form_flat {c : Int} : run prL F (k + 3) C (.fn 70) [.p (Ru.flat c).d, .p (.list [])] M = .ok (.p (Ru.fo (.flat c)).d) M := by
  have e : Ru.fo (.flat c) = ⟨0, 1, 0, [c]⟩ := line_can fun n _ => by show c = c + n * 0; omega
  have e2 : run prL F (k + 2) C (.fn 66) [.p (Ru.flat c).d] M = .ok (.p (Ru.fo (.flat c)).d) M := by
    rw [e]
    rw [run_fn (d := d_leaf_form) rfl rfl]
    simp_arith [d_leaf_form, Ru.d, atI_0, atI_1, cS_t (show PyData.strOk "flat" = true by decide +kernel), mkF1]
  unfold Ru.d at e2 ⊢
  rw [run_fn (d := d_form_by) rfl rfl]
  simp_arith [d_form_by, atI_0, bi_len_l, e2]

theorem form_pcs : run prL F (k + 3) C (.fn 70) [.p Ru.pcs.d, .p (.list [])] M = .ok (.p (Ru.fo .pcs).d) M := by
  have e : Ru.fo .pcs = ⟨0, 1, 1, [0]⟩ := line_can fun n _ => by show n = 0 + n * 1; omega
  have e2 : run prL F (k + 2) C (.fn 66) [.p Ru.pcs.d] M = .ok (.p (Ru.fo .pcs).d) M := by
    rw [e]
    rw [run_fn (d := d_leaf_form) rfl rfl]
    simp_arith [d_leaf_form, Ru.d, atI_0, atI_1, cS_f (show Dif "pieces" "flat" by decide +kernel), cS_t (show PyData.strOk "pieces" = true by decide +kernel), mkF1]
  unfold Ru.d at e2 ⊢
  rw [run_fn (d := d_form_by) rfl rfl]
  simp_arith [d_form_by, atI_0, bi_len_l, e2]

theorem form_stp (hF : 10000 ≤ F) {m : Int} (h : (Ru.stp m).Nd) : run prL F (k + 6) C (.fn 70) [.p (Ru.stp m).d, .p (.list [])] M = .ok (.p (Ru.fo (.stp m)).d) M := by
  have hm := h.1
  have hm2 := h.2
  have e2 : run prL F (k + 5) C (.fn 66) [.p (Ru.stp m).d] M = .ok (.p (Ru.fo (.stp m)).d) M := by
    have e3 : run prL F (k + 4) C (.fn 15) [.p (FF.mk m 1 0 (List.replicate m.toNat 0 ++ [1])).d] M = .ok (.p (Ru.fo (.stp m)).d) M := by
      rw [raw_least_ok hF (stp_ok h), canFF_congr fun n hn => stp_at h hn]
      rfl
    have e4 : PyData.tuple [.int m, .int 1, .int 0, .tuple ((List.replicate m.toNat [PyData.int 0]).flatten ++ [.int 1])] = (FF.mk m 1 0 (List.replicate m.toNat 0 ++ [1])).d := by
      rw [flat_rep]
      unfold FF.d
      rw [List.map_append]
      rfl
    rw [run_fn (d := d_leaf_form) rfl rfl]
    simp_arith [d_leaf_form, Ru.d, atI_0, atI_1, cS_f (show Dif "step" "flat" by decide +kernel), cS_f (show Dif "step" "pieces" by decide +kernel), cS_t (show PyData.strOk "step" = true by decide +kernel), b_mulTT (xs := [.int 0]) (n := m) ⟨hm, by omega⟩ (by simp; omega)]
    rw [b_addTT (by rw [flat_rep]; simp; omega)]
    simp_arith [e4, e3]
  unfold Ru.d at e2 ⊢
  rw [run_fn (d := d_form_by) rfl rfl]
  simp_arith [d_form_by, atI_0, bi_len_l, e2]

theorem form_lst (hF : 10000 ≤ F) {ps : List Int} {w t : Int} (h : (Ru.lst ps w t).Nd) : run prL F (k + 6) C (.fn 70) [.p (Ru.lst ps w t).d, .p (.list [])] M = .ok (.p (Ru.fo (.lst ps w t)).d) M := by
  have e2 : run prL F (k + 5) C (.fn 66) [.p (Ru.lst ps w t).d] M = .ok (.p (Ru.fo (.lst ps w t)).d) M := by
    have e3 : run prL F (k + 4) C (.fn 15) [.p (FF.mk (ps.length - w) w t ps).d] M = .ok (.p (Ru.fo (.lst ps w t)).d) M := by
      rw [raw_least_ok hF (lst_ok h)]
      rfl
    rw [run_fn (d := d_leaf_form) rfl rfl]
    simp_arith [d_leaf_form, Ru.d, atI_0, atI_1, cS_f (show Dif "list" "flat" by decide +kernel), cS_f (show Dif "list" "pieces" by decide +kernel), cS_f (show Dif "list" "step" by decide +kernel), at4_2, at4_3, List.length_map, mkF, e3]
  unfold Ru.d at e2 ⊢
  rw [run_fn (d := d_form_by) rfl rfl]
  simp_arith [d_form_by, atI_0, bi_len_l, e2]

end


/-! ### XR6_k68 -/

/-! Rules of plain words: their numbers, their forms. -/
section
variable {k : Nat} {C : List Clo} {M : Mem} {s : FF} {f g : Int → Int} {b w t c v u q : Int}
/-- a form with the given numbers that costs `f` -/
theorem tab_ok (h : Mx.DP f b w t) (hz : b + w ≤ 5000) (ht : -100000 ≤ t ∧ t ≤ 100000) : (tabF f b w t).Ok := tabF_ok h hz (by omega)
theorem dp_congr (h : Mx.DP f b w t) (e : ∀ n, 0 ≤ n → f n = g n) : Mx.DP g b w t := ⟨h.1, h.2.1, fun n hn => by
  have h1 := h.1
  have h2 := h.2.1
  rw [← e n (by omega), ← e (n + w) (by omega), h.2.2 n hn]⟩
theorem cdp_times (h : Mx.DP f b w t) (hz : b + w ≤ 5000) (ht : -100000 ≤ t ∧ t ≤ 100000) (q : Int) : Mx.DP (cntF "times" q f) b w (q * t) :=
  dp_congr (dp_scaled (tab_ok h hz ht) q) fun n hn => by rw [tabF_at h hn]; rfl
theorem cdp_share (h : Mx.DP f b w t) (hz : b + w ≤ 5000) (ht : -100000 ≤ t ∧ t ≤ 100000) (hq : 0 < q) : Mx.DP (cntF "share" q f) b (w * q) t :=
  dp_congr (dp_shared (tab_ok h hz ht) hq) fun n hn => by rw [tabF_at h hn]; rfl
theorem cdp_left (h : Mx.DP f b w t) (hz : b + w ≤ 5000) (ht : -100000 ≤ t ∧ t ≤ 100000) (hq : 0 < q) : Mx.DP (cntF "left" q f) b (w * q) 0 :=
  dp_congr (dp_left (tab_ok h hz ht) hq) fun n hn => by rw [tabF_at h hn]; rfl
theorem up_nn {n k : Int} (hn : 0 ≤ n) (hk : 0 < k) : 0 ≤ upI n k := up_ge hk (by omega)
theorem cdp_packs (h : Mx.DP f b w t) (hz : b + w ≤ 5000) (ht : -100000 ≤ t ∧ t ≤ 100000) (hq : 0 < q) : Mx.DP (cntF "packs" q f) (b * q) (w * q) t :=
  dp_congr (dp_packed (tab_ok h hz ht) hq) fun n hn => by rw [tabF_at h (up_nn hn hq)]; rfl
theorem cdp_move (h : Mx.DP f b w t) (hz : b + w ≤ 5000) (ht : -100000 ≤ t ∧ t ≤ 100000) (q : Int) : Mx.DP (cntF "move" q f) (max 0 (b - q)) w t :=
  dp_congr (dp_moved (tab_ok h hz ht) q) fun n hn => by rw [tabF_at h (by omega)]; rfl
theorem cdp_each (h : Mx.DP f b w t) (hz : b + w ≤ 5000) (ht : -100000 ≤ t ∧ t ≤ 100000) (hq : 0 < q) : Mx.DP (cntF "each" q f) (upI b q) w (t * q) := by
  have d := dp_unpacked (tab_ok h hz ht) (k := q) (g := 1) hq (by omega) ⟨w, by show w = 1 * w; omega⟩ ⟨q, by omega⟩
  have e : Mx.DP (fun n => (tabF f b w t).at (q * n)) (upI b q) w (t * q) := by
    have e1 : w / 1 = w := Int.ediv_one w
    have e2 : q / 1 = q := Int.ediv_one q
    have d : Mx.DP (fun n => (tabF f b w t).at (q * n)) (upI b q) (w / 1) (t * (q / 1)) := d
    rw [e1, e2] at d
    exact d
  exact dp_congr e fun n hn => by rw [tabF_at h (Int.mul_nonneg (by omega) hn)]; rfl
theorem udp_change (h : Mx.DP f b w t) (hz : b + w ≤ 5000) (ht : -100000 ≤ t ∧ t ≤ 100000) : Mx.DP (unF "change" f) b w 0 :=
  dp_congr (dp_change (tab_ok h hz ht)) fun n hn => by rw [tabF_at h hn, tabF_at h (by omega)]; rfl
theorem tdp_plus (h : Mx.DP f b w t) (h2 : Mx.DP g c v u) : Mx.DP (twoF "plus" f g) (max b c) (rnd w v) (t * (rnd w v / w) + u * (rnd w v / v)) := by
  obtain ⟨d1, d2⟩ := h.both h2 (rnd_l h.2.1 h2.2.1) rnd_r (rnd_pos h.2.1 h2.2.1)
  exact d1.add d2
theorem tdp_less (h : Mx.DP f b w t) (h2 : Mx.DP g c v u) : Mx.DP (twoF "less" f g) (max b c) (rnd w v) (t * (rnd w v / w) - u * (rnd w v / v)) := by
  obtain ⟨d1, d2⟩ := h.both h2 (rnd_l h.2.1 h2.2.1) rnd_r (rnd_pos h.2.1 h2.2.1)
  exact d1.less d2
theorem rnd_dvd {a b m : Int} (ha : 0 < a) (hb : 0 < b) (h1 : a ∣ m) (h2 : b ∣ m) : rnd a b ∣ m := by
  obtain ⟨A, rfl⟩ : ∃ A : Nat, a = A := ⟨a.toNat, by omega⟩
  obtain ⟨B, rfl⟩ : ∃ B : Nat, b = B := ⟨b.toNat, by omega⟩
  have e : rnd (A : Int) B = ((Nat.lcm A B : Nat) : Int) := by
    unfold rnd Nat.lcm
    have g : Int.gcd (A : Int) B = Nat.gcd A B := rfl
    rw [g]
    obtain ⟨d, hd⟩ := Nat.gcd_dvd_left A B
    have hg : 0 < Nat.gcd A B := Nat.gcd_pos_of_pos_left _ (by omega)
    have e1 : A / Nat.gcd A B = d := by conv => lhs; lhs; rw [hd]
                                        exact Nat.mul_div_cancel_left _ hg
    have e2 : A * B / Nat.gcd A B = d * B := by
      conv => lhs; lhs; lhs; rw [hd]
      rw [Nat.mul_assoc, Nat.mul_div_cancel_left _ hg]
    rw [e2, ← Int.natCast_ediv, e1]
    exact (Int.natCast_mul d B).symm
  rw [e]
  have h3 : (A : Int) ∣ (m.natAbs : Int) := Int.dvd_natAbs.mpr h1
  have h4 : (B : Int) ∣ (m.natAbs : Int) := Int.dvd_natAbs.mpr h2
  exact Int.dvd_natAbs.mp (Int.natCast_dvd_natCast.mpr (Nat.lcm_dvd (Int.natCast_dvd_natCast.mp h3) (Int.natCast_dvd_natCast.mp h4)))
theorem rnd_mono {a b c d : Int} (ha : 0 < a) (hb : 0 < b) (hc : 0 < c) (hd : 0 < d) (h1 : a ∣ c) (h2 : b ∣ d) : rnd a b ≤ rnd c d :=
  Int.le_of_dvd (rnd_pos hc hd) (rnd_dvd ha hb (Int.dvd_trans h1 (rnd_l hc hd)) (Int.dvd_trans h2 rnd_r))
theorem CanF.rle (h : CanF f b w t) (hw : 0 < w) {B : Int} (hB : 0 ≤ B) (ht : -B ≤ t ∧ t ≤ B) : -B ≤ (canFF f).r ∧ (canFF f).r ≤ B := ratio_le h.cr h.ok.w0 h.cwle hB ht
/-! the forms -/
variable {x y : Ru}

theorem nod_times (hF : 10000 ≤ F) (c : CanF x.pr b w t) (hw : 0 < w) (ht : -100000 ≤ t ∧ t ≤ 100000) (hq : -20 ≤ q ∧ q ≤ 20) : run prL F (k + 8) C (.fn 70) [.p (Ru.cnt "times" q x).d, .p (.list [x.fo.d])] M = .ok (.p (Ru.cnt "times" q x).fo.d) M := by
  have r := c.rle hw (by omega) ht
  have e := form_times_ok (k := k + 5) (C := C) (M := M) (a := x) (raw_scaled_ok hF c.ok hq (by omega))
  have e2 : (canFF fun n => q * (canFF x.pr).at n) = (Ru.cnt "times" q x).fo := canFF_congr fun n hn => by rw [c.at_ n hn]; rfl
  rw [e2] at e
  exact e

theorem nod_share (hF : 10000 ≤ F) (c : CanF x.pr b w t) (hq : 1 ≤ q ∧ q ≤ 20) (hz : b + w * q ≤ 5000) : run prL F (k + 8) C (.fn 70) [.p (Ru.cnt "share" q x).d, .p (.list [x.fo.d])] M = .ok (.p (Ru.cnt "share" q x).fo.d) M := by
  have h1 := c.cb
  have h2 := Int.mul_le_mul_of_nonneg_right c.cwle (show 0 ≤ q by omega)
  have e := form_share_ok (k := k + 5) (C := C) (M := M) (a := x) (raw_shared_ok hF c.ok hq (by omega))
  have e2 : (canFF fun n => (canFF x.pr).at n / q) = (Ru.cnt "share" q x).fo := canFF_congr fun n hn => by rw [c.at_ n hn]; rfl
  rw [e2] at e
  exact e

theorem nod_left (hF : 10000 ≤ F) (c : CanF x.pr b w t) (hq : 1 ≤ q ∧ q ≤ 20) (hz : b + w * q ≤ 5000) : run prL F (k + 8) C (.fn 70) [.p (Ru.cnt "left" q x).d, .p (.list [x.fo.d])] M = .ok (.p (Ru.cnt "left" q x).fo.d) M := by
  have h1 := c.cb
  have h2 := Int.mul_le_mul_of_nonneg_right c.cwle (show 0 ≤ q by omega)
  have e := form_left_ok (k := k + 5) (C := C) (M := M) (a := x) (raw_left_ok hF c.ok hq (by omega))
  have e2 : (canFF fun n => (canFF x.pr).at n % q) = (Ru.cnt "left" q x).fo := canFF_congr fun n hn => by rw [c.at_ n hn]; rfl
  rw [e2] at e
  exact e

theorem nod_packs (hF : 10000 ≤ F) (c : CanF x.pr b w t) (hq : 1 ≤ q ∧ q ≤ 20) (hz : b * q + w * q ≤ 5000) : run prL F (k + 8) C (.fn 70) [.p (Ru.cnt "packs" q x).d, .p (.list [x.fo.d])] M = .ok (.p (Ru.cnt "packs" q x).fo.d) M := by
  have h1 := Int.mul_le_mul_of_nonneg_right c.cb (show 0 ≤ q by omega)
  have h2 := Int.mul_le_mul_of_nonneg_right c.cwle (show 0 ≤ q by omega)
  have e := form_packs_ok (k := k + 5) (C := C) (M := M) (a := x) (raw_packed_ok hF c.ok hq (by omega))
  have e2 : (canFF fun n => (canFF x.pr).at (upI n q)) = (Ru.cnt "packs" q x).fo := canFF_congr fun n hn => by rw [c.at_ _ (up_nn hn (by omega))]; rfl
  rw [e2] at e
  exact e

theorem nod_move (hF : 10000 ≤ F) (c : CanF x.pr b w t) (hz : max 0 (b - q) + w ≤ 5000) : run prL F (k + 8) C (.fn 70) [.p (Ru.cnt "move" q x).d, .p (.list [x.fo.d])] M = .ok (.p (Ru.cnt "move" q x).fo.d) M := by
  have h1 := c.cb
  have h2 := c.cwle
  have e := form_move_ok (k := k + 5) (C := C) (M := M) (a := x) (raw_moved_ok (q := q) hF c.ok (by omega))
  have e2 : (canFF fun n => (canFF x.pr).at (max 0 (n + q))) = (Ru.cnt "move" q x).fo := canFF_congr fun n hn => by rw [c.at_ _ (by omega)]; rfl
  rw [e2] at e
  exact e

theorem nod_each (hF : 10000 ≤ F) (c : CanF x.pr b w t) (hw : 0 < w) (ht : -100000 ≤ t ∧ t ≤ 100000) (hq : 1 ≤ q ∧ q ≤ 20) : run prL F (k + 8) C (.fn 70) [.p (Ru.cnt "each" q x).d, .p (.list [x.fo.d])] M = .ok (.p (Ru.cnt "each" q x).fo.d) M := by
  have r := c.rle hw (by omega) ht
  have e := form_each_ok (k := k + 5) (C := C) (M := M) (a := x) (raw_unpacked_ok hF c.ok hq (by omega))
  have e2 : (canFF fun n => (canFF x.pr).at (q * n)) = (Ru.cnt "each" q x).fo := canFF_congr fun n hn => by rw [c.at_ _ (Int.mul_nonneg (by omega) hn)]; rfl
  rw [e2] at e
  exact e

theorem nod_change (hF : 10000 ≤ F) (c : CanF x.pr b w t) : run prL F (k + 8) C (.fn 70) [.p (Ru.un "change" x).d, .p (.list [x.fo.d])] M = .ok (.p (Ru.un "change" x).fo.d) M := by
  have e := form_change_ok (k := k + 5) (C := C) (M := M) (a := x) (raw_change_ok hF c.ok)
  have e2 : (canFF fun n => (canFF x.pr).at (n + 1) - (canFF x.pr).at n) = (Ru.un "change" x).fo := canFF_congr fun n hn => by rw [c.at_ _ hn, c.at_ _ (by omega)]; rfl
  rw [e2] at e
  exact e

theorem nod_plus (hF : 10000 ≤ F) (c1 : CanF x.pr b w t) (c2 : CanF y.pr c v u) (hw : 0 < w) (hv : 0 < v) (ht : -100000 ≤ t ∧ t ≤ 100000) (hu : -100000 ≤ u ∧ u ≤ 100000) (hz : max b c + rnd w v ≤ 5000) : run prL F (k + 8) C (.fn 70) [.p (Ru.two "plus" x y).d, .p (.list [x.fo.d, y.fo.d])] M = .ok (.p (Ru.two "plus" x y).fo.d) M := by
  have h1 := c1.cb
  have h2 := c2.cb
  have h3 := rnd_mono c1.ok.w0 c2.ok.w0 hw hv c1.cw c2.cw
  have e := form_plus_ok (k := k + 5) (C := C) (M := M) (a := x) (b := y) (raw_added_R hF c1.ok c2.ok (c1.rle hw (by omega) ht) (c2.rle hv (by omega) hu) (by omega))
  have e2 : (canFF fun n => (canFF x.pr).at n + (canFF y.pr).at n) = (Ru.two "plus" x y).fo := canFF_congr fun n hn => by rw [c1.at_ _ hn, c2.at_ _ hn]; rfl
  rw [e2] at e
  exact e

theorem nod_less (hF : 10000 ≤ F) (c1 : CanF x.pr b w t) (c2 : CanF y.pr c v u) (hw : 0 < w) (hv : 0 < v) (ht : -100000 ≤ t ∧ t ≤ 100000) (hu : -100000 ≤ u ∧ u ≤ 100000) (hz : max b c + rnd w v ≤ 5000) : run prL F (k + 8) C (.fn 70) [.p (Ru.two "less" x y).d, .p (.list [x.fo.d, y.fo.d])] M = .ok (.p (Ru.two "less" x y).fo.d) M := by
  have h1 := c1.cb
  have h2 := c2.cb
  have h3 := rnd_mono c1.ok.w0 c2.ok.w0 hw hv c1.cw c2.cw
  have e := form_less_ok (k := k + 5) (C := C) (M := M) (a := x) (b := y) (raw_lessened_R hF c1.ok c2.ok (c1.rle hw (by omega) ht) (c2.rle hv (by omega) hu) (by omega))
  have e2 : (canFF fun n => (canFF x.pr).at n - (canFF y.pr).at n) = (Ru.two "less" x y).fo := canFF_congr fun n hn => by rw [c1.at_ _ hn, c2.at_ _ hn]; rfl
  rw [e2] at e
  exact e

end


/-! ### XR7_k68 -/

/-! Rules of plain words: what form_of answers. -/
section
abbrev Nb := Int × Int × Int
def cntNb (w : Str) (q : Int) (n : Nb) : Nb := if w = "times" then (n.1, n.2.1, q * n.2.2) else if w = "share" then (n.1, n.2.1 * q, n.2.2) else if w = "left" then (n.1, n.2.1 * q, 0) else if w = "packs" then (n.1 * q, n.2.1 * q, n.2.2) else if w = "move" then (max 0 (n.1 - q), n.2.1, n.2.2) else if w = "each" then (upI n.1 q, n.2.1, n.2.2 * q) else n
def twoNb (w : Str) (n m : Nb) : Nb := if w = "plus" then (max n.1 m.1, rnd n.2.1 m.2.1, n.2.2 * (rnd n.2.1 m.2.1 / n.2.1) + m.2.2 * (rnd n.2.1 m.2.1 / m.2.1)) else (max n.1 m.1, rnd n.2.1 m.2.1, n.2.2 * (rnd n.2.1 m.2.1 / n.2.1) - m.2.2 * (rnd n.2.1 m.2.1 / m.2.1))
/-- begin, round and rise of a plain rule, not least -/
def Ru.nb : Ru → Nb
  | .flat _ => (0, 1, 0)
  | .pcs => (0, 1, 1)
  | .stp m => (m, 1, 0)
  | .lst ps w t => (ps.length - w, w, t)
  | .two w a b => twoNb w a.nb b.nb
  | .cnt w q a => cntNb w q a.nb
  | .un _ a => (a.nb.1, a.nb.2.1, 0)
def Fit (n : Nb) : Prop := n.1 + n.2.1 ≤ 5000 ∧ -100000 ≤ n.2.2 ∧ n.2.2 ≤ 100000
instance {n : Nb} : Decidable (Fit n) := by unfold Fit; infer_instance
/-- plain words alone, the numbers within bounds at each node -/
def Ru.Pl : Ru → Prop
  | .two w a b => (w = "plus" ∨ w = "less") ∧ Fit (Ru.two w a b).nb ∧ a.Pl ∧ b.Pl
  | .cnt w q a => (w = "times" ∨ w = "share" ∨ w = "left" ∨ w = "packs" ∨ w = "move" ∨ w = "each") ∧ Fit (Ru.cnt w q a).nb ∧ a.Pl
  | .un w a => w = "change" ∧ Fit (Ru.un w a).nb ∧ a.Pl
  | _ => True
structure Ru.Nb (x : Ru) : Prop where
  dp : Mx.DP x.pr x.nb.1 x.nb.2.1 x.nb.2.2
  fit : Fit x.nb
theorem Ru.Nb.can {x : Ru} (h : x.Nb) : CanF x.pr x.nb.1 x.nb.2.1 x.nb.2.2 := canF h.dp h.fit.1 (by have := h.fit.2; omega)
variable {k : Nat} {C : List Clo} {M : Mem} {r : Ru}
theorem leaf_nb : ∀ {x : Ru}, x.Nd → x.kids = [] → x.Nb
  | .flat c, _, _ => ⟨line_dp (a := c) fun n _ => by show c = c + n * 0; omega, (by decide : Fit (0, 1, 0))⟩
  | .pcs, _, _ => ⟨line_dp (a := 0) fun n _ => by show n = 0 + n * 1; omega, (by decide : Fit (0, 1, 1))⟩
  | .stp m, h, _ => ⟨stp_dp h.1, by have h1 := h.2; exact ⟨by show m + 1 ≤ 5000; omega, by show (-100000 : Int) ≤ 0; omega, by show (0 : Int) ≤ 100000; omega⟩⟩
  | .lst ps w t, h, _ => ⟨(lst_ok h).dp, by obtain ⟨⟨h1, h2⟩, _, ⟨h3, h4⟩, h5, h6⟩ := h; exact ⟨by show (ps.length : Int) - w + w ≤ 5000; omega, by show -100000 ≤ t; omega, by show t ≤ 100000; omega⟩⟩

theorem fok_times (hF : 10000 ≤ F) {q : Int} {x : Ru} (hn : (Ru.cnt "times" q x).Nd) (f : Fit (Ru.cnt "times" q x).nb) : Fok F (k + 8) C Ru.fo Ru.Nb (.cnt "times" q x) := fun g => by
  have h := g x (by simp [Ru.kids])
  have hq := hn.2
  exact ⟨⟨cdp_times h.dp h.fit.1 h.fit.2 q, f⟩, fun M => nod_times hF h.can h.dp.2.1 h.fit.2 hq⟩

theorem fok_share (hF : 10000 ≤ F) {q : Int} {x : Ru} (hn : (Ru.cnt "share" q x).Nd) (f : Fit (Ru.cnt "share" q x).nb) : Fok F (k + 8) C Ru.fo Ru.Nb (.cnt "share" q x) := fun g => by
  have h := g x (by simp [Ru.kids])
  have hq := hn.2
  exact ⟨⟨cdp_share h.dp h.fit.1 h.fit.2 (by have : 1 ≤ q := hq.1; omega), f⟩, fun M => nod_share hF h.can hq f.1⟩

theorem fok_left (hF : 10000 ≤ F) {q : Int} {x : Ru} (hn : (Ru.cnt "left" q x).Nd) (f : Fit (Ru.cnt "left" q x).nb) : Fok F (k + 8) C Ru.fo Ru.Nb (.cnt "left" q x) := fun g => by
  have h := g x (by simp [Ru.kids])
  have hq := hn.2
  exact ⟨⟨cdp_left h.dp h.fit.1 h.fit.2 (by have : 1 ≤ q := hq.1; omega), f⟩, fun M => nod_left hF h.can hq f.1⟩

theorem fok_packs (hF : 10000 ≤ F) {q : Int} {x : Ru} (hn : (Ru.cnt "packs" q x).Nd) (f : Fit (Ru.cnt "packs" q x).nb) : Fok F (k + 8) C Ru.fo Ru.Nb (.cnt "packs" q x) := fun g => by
  have h := g x (by simp [Ru.kids])
  have hq := hn.2
  exact ⟨⟨cdp_packs h.dp h.fit.1 h.fit.2 (by have : 1 ≤ q := hq.1; omega), f⟩, fun M => nod_packs hF h.can hq f.1⟩

theorem fok_move (hF : 10000 ≤ F) {q : Int} {x : Ru} (hn : (Ru.cnt "move" q x).Nd) (f : Fit (Ru.cnt "move" q x).nb) : Fok F (k + 8) C Ru.fo Ru.Nb (.cnt "move" q x) := fun g => by
  have h := g x (by simp [Ru.kids])
  have hq := hn.2
  exact ⟨⟨cdp_move h.dp h.fit.1 h.fit.2 q, f⟩, fun M => nod_move hF h.can f.1⟩

theorem fok_each (hF : 10000 ≤ F) {q : Int} {x : Ru} (hn : (Ru.cnt "each" q x).Nd) (f : Fit (Ru.cnt "each" q x).nb) : Fok F (k + 8) C Ru.fo Ru.Nb (.cnt "each" q x) := fun g => by
  have h := g x (by simp [Ru.kids])
  have hq := hn.2
  exact ⟨⟨cdp_each h.dp h.fit.1 h.fit.2 (by have : 1 ≤ q := hq.1; omega), f⟩, fun M => nod_each hF h.can h.dp.2.1 h.fit.2 hq⟩

theorem fok_plus (hF : 10000 ≤ F) {x y : Ru} (f : Fit (Ru.two "plus" x y).nb) : Fok F (k + 8) C Ru.fo Ru.Nb (.two "plus" x y) := fun g => by
  have h := g x (by simp [Ru.kids])
  have h2 := g y (by simp [Ru.kids])
  exact ⟨⟨tdp_plus h.dp h2.dp, f⟩, fun M => nod_plus hF h.can h2.can h.dp.2.1 h2.dp.2.1 h.fit.2 h2.fit.2 f.1⟩

theorem fok_less (hF : 10000 ≤ F) {x y : Ru} (f : Fit (Ru.two "less" x y).nb) : Fok F (k + 8) C Ru.fo Ru.Nb (.two "less" x y) := fun g => by
  have h := g x (by simp [Ru.kids])
  have h2 := g y (by simp [Ru.kids])
  exact ⟨⟨tdp_less h.dp h2.dp, f⟩, fun M => nod_less hF h.can h2.can h.dp.2.1 h2.dp.2.1 h.fit.2 h2.fit.2 f.1⟩

theorem fok_change (hF : 10000 ≤ F) {x : Ru} (f : Fit (Ru.un "change" x).nb) : Fok F (k + 8) C Ru.fo Ru.Nb (.un "change" x) := fun g => by
  have h := g x (by simp [Ru.kids])
  exact ⟨⟨udp_change h.dp h.fit.1 h.fit.2, f⟩, fun M => nod_change hF h.can⟩

theorem fok_leaf (hF : 10000 ≤ F) : ∀ {x : Ru}, x.Nd → x.kids = [] → Fok F (k + 8) C Ru.fo Ru.Nb x
  | .flat _, h, e => fun _ => ⟨leaf_nb h e, fun M => form_flat⟩
  | .pcs, h, e => fun _ => ⟨leaf_nb h e, fun M => form_pcs⟩
  | .stp _, h, e => fun _ => ⟨leaf_nb h e, fun M => form_stp hF h⟩
  | .lst _ _ _, h, e => fun _ => ⟨leaf_nb h e, fun M => form_lst hF h⟩

theorem fok_plain (hF : 10000 ≤ F) : ∀ {r : Ru}, r.All → r.Pl → r.Each (Fok F (k + 8) C Ru.fo Ru.Nb)
  | .flat _, h, _ | .pcs, h, _ | .stp _, h, _ | .lst _ _ _, h, _ => fok_leaf hF h rfl
  | .two w a b, h, p => by
    refine ⟨?_, fok_plain hF h.2.1 p.2.2.1, fok_plain hF h.2.2 p.2.2.2⟩
    obtain ⟨hw, f, _⟩ := p
    rcases hw with rfl | rfl
    · exact fok_plus hF f
    · exact fok_less hF f
  | .cnt w q a, h, p => by
    refine ⟨?_, fok_plain hF h.2 p.2.2⟩
    have hn := Ru.All.nd h
    obtain ⟨hw, f, _⟩ := p
    rcases hw with rfl | rfl | rfl | rfl | rfl | rfl
    · exact fok_times hF hn f
    · exact fok_share hF hn f
    · exact fok_left hF hn f
    · exact fok_packs hF hn f
    · exact fok_move hF hn f
    · exact fok_each hF hn f
  | .un w a, h, p => by
    refine ⟨?_, fok_plain hF h.2 p.2.2⟩
    obtain ⟨rfl, f, _⟩ := p
    exact fok_change hF f

theorem form_of_plain (hF : 10000 ≤ F) (h : r.Ok) (p : r.Pl) : r.Nb ∧ run prL F (k + 11) C (.fn 73) [.p r.d] M = .ok (.p r.fo.d) M := form_of_yes (k := k + 4) hF h (fok_plain hF h.all p)

end


/-! ### XR8_k68 -/

/-! Alike rules; a rule's price. -/
section
instance : DecidableEq FF := fun a b => decidable_of_iff (a.b = b.b ∧ a.w = b.w ∧ a.r = b.r ∧ a.pr = b.pr) (by
  constructor
  · rintro ⟨h1, h2, h3, h4⟩
    cases a; cases b
    simp only at h1 h2 h3 h4
    rw [h1, h2, h3, h4]
  · rintro rfl; exact ⟨rfl, rfl, rfl, rfl⟩)
variable {k : Nat} {C : List Clo} {M : Mem} {s t : FF} {x y : Ru} {n : Int} {f : Int → Bool} {b w : Int}

theorem least_ok (hF : 10000 ≤ F) (h : s.Ok) : run prL F (k + 5) C (.fn 17) [.p s.d] M = .ok (.p (canFF s.at).d) M := by
  rw [run_fn (d := d_least) rfl rfl]
  simp_arith [d_least, check_form_ok h, raw_least_ok hF h]

end


/-! ### XV1_k68 -/

/-! The words on forms of any size: TooMany beyond 5000. -/
section
variable {k : Nat} {C : List Clo} {M : Mem} {s r : FF} {f : Int → Int} {b w t q : Int}

def TM : Xc := ⟨c_TooMany, [.int 5000]⟩
/-- a form made of prices, or TooMany -/
noncomputable def MkR (f : Int → Int) (b w : Int) (M : Mem) : R D := if b + w ≤ 5000 then .ok (.p (canFF f).d) M else .exc TM M
theorem check_width_no (h : 5000 < b + w) : run prL F (k + 1) C (.fn 11) [.p (.int b), .p (.int w)] M = .exc TM M := by
  rw [run_fn (d := d_check_width) rfl rfl]
  simp_arith [d_check_width]
  rfl

theorem made_gen (hF : 10000 ≤ F) {n : Nat} (h : Mx.DP f b w t) (hr : b + w ≤ 5000 → -1000000000000000 ≤ t ∧ t ≤ 1000000000000000) (hc : ∀ m, 0 ≤ m → m < b + w → b + w ≤ 5000 → ∀ M, run prL F (k + 3) C (.clo n) [.p (.int m)] M = .ok (.p (.int (f m))) M) :
    run prL F (k + 4) C (.fn 16) [.p (.int b), .p (.int w), .p (.int t), .clo n] M = MkR f b w M := by
  unfold MkR
  by_cases hz : b + w ≤ 5000
  · rw [if_pos hz, made_ok hF h hz (hr hz) fun m m0 m1 M => hc m m0 m1 hz M]
  · rw [if_neg hz]
    rw [run_fn (d := d_made) rfl rfl]
    simp_arith [d_made, check_width_no (show 5000 < b + w by omega)]
def RB (s : FF) : Prop := -100000000000 ≤ s.r ∧ s.r ≤ 100000000000

end


/-! ### XV2_k68 -/

/-! Two forms of any size. -/
section
variable {k : Nat} {C : List Clo} {M : Mem} {s r : FF} {f : Int → Int} {b w t q : Int}
theorem risesW (h : s.Ok) (h2 : r.Ok) (hr : RB s) (hr2 : RB r) (hW : rnd s.w r.w ≤ 100000) : 0 < rnd s.w r.w ∧ (-10000000000000000 ≤ s.r * (rnd s.w r.w / s.w) ∧ s.r * (rnd s.w r.w / s.w) ≤ 10000000000000000) ∧ (-10000000000000000 ≤ r.r * (rnd s.w r.w / r.w) ∧ r.r * (rnd s.w r.w / r.w) ≤ 10000000000000000) ∧
    (rnd s.w r.w ≤ 5000 → (-500000000000000 ≤ s.r * (rnd s.w r.w / s.w) ∧ s.r * (rnd s.w r.w / s.w) ≤ 500000000000000) ∧ (-500000000000000 ≤ r.r * (rnd s.w r.w / r.w) ∧ r.r * (rnd s.w r.w / r.w) ≤ 500000000000000)) := by
  have hw := h.w0
  have hw2 := h2.w0
  have h0 := rnd_pos hw hw2
  have l1 := Int.ediv_le_self (a := rnd s.w r.w) s.w (by omega)
  have l2 := Int.ediv_le_self (a := rnd s.w r.w) r.w (by omega)
  have g1 : 0 ≤ rnd s.w r.w / s.w := Int.ediv_nonneg (by omega) (by omega)
  have g2 : 0 ≤ rnd s.w r.w / r.w := Int.ediv_nonneg (by omega) (by omega)
  have m1 := mul_bd hr (by omega) (q := rnd s.w r.w / s.w) (Q := 100000) ⟨g1, by omega⟩
  have m2 := mul_bd hr2 (by omega) (q := rnd s.w r.w / r.w) (Q := 100000) ⟨g2, by omega⟩
  refine ⟨h0, by omega, by omega, fun z => ?_⟩
  have n1 := mul_bd hr (by omega) (q := rnd s.w r.w / s.w) (Q := 5000) ⟨g1, by omega⟩
  have n2 := mul_bd hr2 (by omega) (q := rnd s.w r.w / r.w) (Q := 5000) ⟨g2, by omega⟩
  omega

theorem raw_added_gen (hF : 10000 ≤ F) (h : s.Ok) (h2 : r.Ok) (hr : RB s) (hr2 : RB r) (hW : rnd s.w r.w ≤ 100000) : run prL F (k + 6) C (.fn 21) [.p s.d, .p r.d] M = MkR (fun n => s.at n + r.at n) (max s.b r.b) (rnd s.w r.w) M := by
  obtain ⟨a1, a3, a4, a5⟩ := risesW h h2 hr hr2 hW
  obtain ⟨d1, d2⟩ := dp_two h h2
  have := h.w0
  have := h.b0
  have := h.le
  have := h2.w0
  have := h2.b0
  have := h2.le
  rw [run_fn (d := d_raw_added) rfl rfl]
  simp_arith [d_raw_added, idx_f0, idx_f1, common_round_ok hF, rise_in_ok]
  rw [made_gen hF (f := fun n => s.at n + r.at n) (d1.add d2) (fun _ => by omega) ?_]
  · unfold MkR; split <;> simp_arith []
  · intro m m1 m2 _ M
    simp_arith [run_clo1, raw_price_ok]

theorem raw_lessened_gen (hF : 10000 ≤ F) (h : s.Ok) (h2 : r.Ok) (hr : RB s) (hr2 : RB r) (hW : rnd s.w r.w ≤ 100000) : run prL F (k + 6) C (.fn 23) [.p s.d, .p r.d] M = MkR (fun n => s.at n - r.at n) (max s.b r.b) (rnd s.w r.w) M := by
  obtain ⟨a1, a3, a4, a5⟩ := risesW h h2 hr hr2 hW
  obtain ⟨d1, d2⟩ := dp_two h h2
  have := h.w0
  have := h.b0
  have := h.le
  have := h2.w0
  have := h2.b0
  have := h2.le
  rw [run_fn (d := d_raw_lessened) rfl rfl]
  simp_arith [d_raw_lessened, idx_f0, idx_f1, common_round_ok hF, rise_in_ok]
  rw [made_gen hF (f := fun n => s.at n - r.at n) (d1.less d2) (fun _ => by omega) ?_]
  · unfold MkR; split <;> simp_arith []
  · intro m m1 m2 _ M
    simp_arith [run_clo1, raw_price_ok]

end


/-! ### XV12_k68 -/

/-! Where two forms of any size meet. -/
section
variable {k : Nat} {C : List Clo} {M : Mem} {s r : FF}

/-- a set made of flags, or TooMany -/
noncomputable def MkS (f : Int → Bool) (b w : Int) (M : Mem) : R D := if b + w ≤ 5000 then .ok (.p (canS f).d) M else .exc TM M
end


/-! ### XW2_k68 -/

/-! Drawn rules: what a word makes of a row. -/
section
variable {k : Nat} {C : List Clo} {M : Mem} {f g : Int → Int} {L Lb q : Int}
theorem atR (h0 : 0 ≤ q) (h1 : q < L) : L2.atI ((rowI f 0 L).map PyData.int) q = some (.int (f q)) := by
  rw [atI_ints h0 (by rw [len_rowI]; omega), gi_row h0 (by omega), Int.zero_add]
/-- where a word with a number, or alone, ends -/
def oneL (w : Str) (k L : Int) : Int := if w = "each" then (L - 1) / k + 1 else if w = "move" then L - max 0 k else if w = "within" then L - k else if w = "change" then L - 1 else L
def oneF (w : Str) (k : Int) (f : Int → Int) : Int → Int := if w ∈ w0s then unF w f else cntF w k f
def facD (w : Str) (k : Int) : PyData := if w ∈ w0s then .none else .int k

end


/-! ### XA68_k68 -/

/-! k68: prices rounded. -/
section
variable {k : Nat} {C : List Clo} {M : Mem} {s r : FF} {p q n j : Int}
inductive Wy where | up | down | near | even
def Wy.w : Wy → Str
  | .up => "up" | .down => "down" | .near => "near" | .even => "even"
/-- a price rounded to a multiple of q -/
def rdI (y : Wy) (q p : Int) : Int := match y with
  | .down => p / q * q
  | .up => if p - p / q * q = 0 then p / q * q else p / q * q + q
  | .near => if 2 * (p - p / q * q) < q then p / q * q else p / q * q + q
  | .even => if 2 * (p - p / q * q) < q then p / q * q else if q < 2 * (p - p / q * q) then p / q * q + q else if p / q % 2 = 1 then p / q * q + q else p / q * q
theorem rd_far (hq : 0 < q) : 0 ≤ p - p / q * q ∧ p - p / q * q < q := by
  have h1 := Int.emod_nonneg p (show q ≠ 0 by omega)
  have h2 := Int.emod_lt_of_pos p hq
  have h3 := Int.mul_ediv_add_emod p q
  rw [Int.mul_comm] at h3
  omega
theorem rd_div (hq : 0 < q) : (p + 2 * q * j) / q = p / q + 2 * j := by
  rw [show p + 2 * q * j = p + q * (2 * j) by rw [Int.mul_comm 2 q, Int.mul_assoc], Int.add_mul_ediv_left _ _ (by omega)]
theorem rd_shift {y : Wy} (hq : 0 < q) : rdI y q (p + 2 * q * j) = rdI y q p + 2 * q * j := by
  have e := rd_div (p := p) (j := j) hq
  have e2 : (p / q + 2 * j) * q = p / q * q + 2 * q * j := by rw [Int.add_mul, Int.mul_comm 2 q, Int.mul_assoc, Int.mul_assoc, Int.mul_comm j q, ← Int.mul_assoc, ← Int.mul_assoc, Int.mul_comm 2 q]
  have e3 : p + 2 * q * j - (p / q * q + 2 * q * j) = p - p / q * q := by omega
  have e4 : (p / q + 2 * j) % 2 = p / q % 2 := by omega
  cases y with
  | down => show (p + 2 * q * j) / q * q = _; rw [e, e2]; rfl
  | up =>
    unfold rdI
    simp only
    rw [e, e2, e3]
    split <;> omega
  | near =>
    unfold rdI
    simp only
    rw [e, e2, e3]
    split <;> omega
  | even =>
    unfold rdI
    simp only
    rw [e, e2, e3, e4]
    split
    · omega
    · split
      · omega
      · split <;> omega
theorem rd_mult {y : Wy} : ∃ m, rdI y q p = m * q := by
  have e : p / q * q + q = (p / q + 1) * q := by rw [Int.add_mul, Int.one_mul]
  cases y with
  | down => exact ⟨_, rfl⟩
  | up =>
    unfold rdI
    simp only
    rw [e]
    split <;> exact ⟨_, rfl⟩
  | near =>
    unfold rdI
    simp only
    rw [e]
    split <;> exact ⟨_, rfl⟩
  | even =>
    unfold rdI
    simp only
    rw [e]
    split
    · exact ⟨_, rfl⟩
    · split
      · exact ⟨_, rfl⟩
      · split <;> exact ⟨_, rfl⟩
theorem rd_of_mult {y : Wy} (hq : 0 < q) (m : Int) : rdI y q (m * q) = m * q := by
  have e : m * q / q = m := Int.mul_ediv_cancel _ (by omega)
  have z : m * q - m * q = 0 := by omega
  cases y with
  | down => show m * q / q * q = _; rw [e]
  | up => unfold rdI; simp only; rw [e, z, if_pos rfl]
  | near => unfold rdI; simp only; rw [e, z, if_pos (by omega)]
  | even => unfold rdI; simp only; rw [e, z, if_pos (by omega)]
theorem rd_rd {y : Wy} (hq : 0 < q) : rdI y q (rdI y q p) = rdI y q p := by
  obtain ⟨m, e⟩ := rd_mult (y := y) (q := q) (p := p)
  rw [e, rd_of_mult hq]
/-- what rounding puts to a price -/
theorem rd_lost {y : Wy} (hq : 0 < q) : -q < rdI y q p - p ∧ rdI y q p - p < q := by
  obtain ⟨h1, h2⟩ := rd_far (p := p) hq
  cases y with
  | down => show -q < p / q * q - p ∧ p / q * q - p < q; omega
  | up => unfold rdI; simp only; split <;> omega
  | near => unfold rdI; simp only; split <;> omega
  | even =>
    unfold rdI
    simp only
    split
    · omega
    · split
      · omega
      · split <;> omega
theorem rd_up (hq : 0 < q) : 0 ≤ rdI .up q p - p := by
  obtain ⟨h1, h2⟩ := rd_far (p := p) hq
  unfold rdI; simp only; split <;> omega
theorem rd_down (hq : 0 < q) : rdI .down q p - p ≤ 0 := by
  obtain ⟨h1, h2⟩ := rd_far (p := p) hq
  show p / q * q - p ≤ 0
  omega
theorem rd_half {y : Wy} (hq : 0 < q) (h : y = .near ∨ y = .even) : -q ≤ 2 * (rdI y q p - p) ∧ 2 * (rdI y q p - p) ≤ q := by
  obtain ⟨h1, h2⟩ := rd_far (p := p) hq
  rcases h with rfl | rfl
  · unfold rdI; simp only; split <;> omega
  · unfold rdI
    simp only
    split
    · omega
    · split
      · omega
      · split <;> omega
theorem rd_upneg (hq : 0 < q) : -1 * (q * ((-1 * p) / q)) = rdI .up q p := by
  obtain ⟨h1, h2⟩ := rd_far (p := p) hq
  unfold rdI
  simp only
  by_cases z : p - p / q * q = 0
  · rw [if_pos z]
    have e : -1 * p = -(p / q) * q := by have := Int.neg_mul (p / q) q; omega
    rw [e, Int.mul_ediv_cancel _ (by omega), Int.mul_neg, Int.mul_comm q]
    omega
  · rw [if_neg z]
    have e : -1 * p = (q - (p - p / q * q)) + (-(p / q) - 1) * q := by have := Int.neg_mul (p / q) q; have := Int.sub_mul (-(p / q)) 1 q; omega
    rw [e, Int.add_mul_ediv_right _ _ (show q ≠ 0 by omega), Int.ediv_eq_zero_of_lt (by omega) (by omega), Int.zero_add, Int.mul_sub, Int.mul_neg, Int.mul_comm q (p / q)]
    omega
/-- how many rounds of prices make one of rounded ones -/
def tnI (q r : Int) : Int := 2 * q / (Int.gcd (2 * q) (r.natAbs : Int) : Nat)
theorem tn_spec (hq : 0 < q) (r : Int) : 1 ≤ tnI q r ∧ tnI q r ≤ 2 * q ∧ ∃ c, r * tnI q r = 2 * q * c := by
  obtain ⟨g, hg⟩ : ∃ g : Int, g = (Int.gcd (2 * q) (r.natAbs : Int) : Nat) := ⟨_, rfl⟩
  have g0 : 0 < g := by
    have : Int.gcd (2 * q) (r.natAbs : Int) ≠ 0 := fun e => by have := Int.eq_zero_of_gcd_eq_zero_left e; omega
    omega
  have d1 : g ∣ 2 * q := by rw [hg]; exact Int.gcd_dvd_left ..
  have d2 : g ∣ r := by
    have : g ∣ (r.natAbs : Int) := by rw [hg]; exact Int.gcd_dvd_right ..
    exact Int.dvd_natAbs.mp this
  have et : tnI q r = 2 * q / g := by unfold tnI; rw [hg]
  rw [et]
  refine ⟨by have := Int.ediv_pos_of_pos_of_dvd (show 0 < 2 * q by omega) (show 0 ≤ g by omega) d1; omega, Int.ediv_le_self _ (by omega), r / g, ?_⟩
  obtain ⟨u, hu⟩ := d1
  obtain ⟨v, hv⟩ := d2
  rw [hu, hv, Int.mul_ediv_cancel_left _ (show g ≠ 0 by omega), Int.mul_ediv_cancel_left _ (show g ≠ 0 by omega), Int.mul_assoc, Int.mul_assoc, Int.mul_comm v u]
theorem dp_rd {y : Wy} (h : s.Ok) (hq : 0 < q) : Mx.DP (fun n => rdI y q (s.at n)) s.b (s.w * tnI q s.r) (s.r * tnI q s.r) := by
  obtain ⟨t1, t2, c, hc⟩ := tn_spec hq s.r
  refine ⟨h.b0, Int.mul_pos h.w0 (by omega), fun n hn => ?_⟩
  have := h.dp.mulI (show 0 ≤ tnI q s.r by omega) hn
  show rdI y q (s.at (n + s.w * tnI q s.r)) = rdI y q (s.at n) + s.r * tnI q s.r
  rw [Int.mul_comm s.w, this, Int.mul_comm _ s.r, hc, rd_shift hq]
theorem dp_rd2 {y : Wy} (h : s.Ok) (hq : 0 < q) : Mx.DP (fun n => rdI y q (s.at n)) s.b (s.w * (2 * q)) (2 * q * s.r) := by
  refine ⟨h.b0, Int.mul_pos h.w0 (by omega), fun n hn => ?_⟩
  have := h.dp.mulI (show 0 ≤ 2 * q by omega) hn
  show rdI y q (s.at (n + s.w * (2 * q))) = rdI y q (s.at n) + 2 * q * s.r
  rw [Int.mul_comm s.w, this, rd_shift hq]
theorem Wy.cases_ (y : Wy) : y = .up ∨ y = .down ∨ y = .near ∨ y = .even := by cases y <;> simp

theorem raw_rounded_ok {y : Wy} (hq : 1 ≤ q ∧ q ≤ 100) : run prL F (k + 1) C (.fn 53) [.p (.int p), .p (.int q), .p (.str y.w)] M = .ok (.p (.int (rdI y q p))) M := by
  obtain ⟨h1, h2⟩ := rd_far (p := p) (q := q) (by omega)
  have mo : opBin .mod (.int (p / q)) (.int 2) = some (.int (p / q % 2)) := b_modP (by decide)
  cases y with
  | down =>
    by_cases z : p - p / q * q = 0
    · rw [run_fn (d := d_raw_rounded) rfl rfl]
      simp_arith [d_raw_rounded, Wy.w, rdI, z, cS_t (show PyData.strOk "down" = true by decide +kernel)]
    · rw [run_fn (d := d_raw_rounded) rfl rfl]
      simp_arith [d_raw_rounded, Wy.w, rdI, z, cS_t (show PyData.strOk "down" = true by decide +kernel)]
  | up =>
    by_cases z : p - p / q * q = 0
    · rw [run_fn (d := d_raw_rounded) rfl rfl]
      simp_arith [d_raw_rounded, Wy.w, rdI, z, cS_f (show Dif "up" "down" by decide +kernel), cS_t (show PyData.strOk "up" = true by decide +kernel)]
    · rw [run_fn (d := d_raw_rounded) rfl rfl]
      simp_arith [d_raw_rounded, Wy.w, rdI, z, cS_f (show Dif "up" "down" by decide +kernel), cS_t (show PyData.strOk "up" = true by decide +kernel)]
  | near =>
    by_cases z : p - p / q * q = 0
    · have z2 : 2 * (p - p / q * q) < q := by omega
      rw [run_fn (d := d_raw_rounded) rfl rfl]
      simp_arith [d_raw_rounded, Wy.w, rdI, z2, z, cS_f (show Dif "near" "down" by decide +kernel)]
      rw [if_pos (by omega)]
    · by_cases z2 : 2 * (p - p / q * q) < q
      · have z3 : ¬ q < 2 * (p - p / q * q) := by omega
        rw [run_fn (d := d_raw_rounded) rfl rfl]
        simp_arith [d_raw_rounded, Wy.w, rdI, z, z2, z3, cS_f (show Dif "near" "down" by decide +kernel), cS_f (show Dif "near" "up" by decide +kernel)]
      · by_cases z3 : q < 2 * (p - p / q * q)
        · rw [run_fn (d := d_raw_rounded) rfl rfl]
          simp_arith [d_raw_rounded, Wy.w, rdI, z, z2, z3, cS_f (show Dif "near" "down" by decide +kernel), cS_f (show Dif "near" "up" by decide +kernel)]
        · rw [run_fn (d := d_raw_rounded) rfl rfl]
          simp_arith [d_raw_rounded, Wy.w, rdI, z, z2, z3, cS_f (show Dif "near" "down" by decide +kernel), cS_f (show Dif "near" "up" by decide +kernel), cS_t (show PyData.strOk "near" = true by decide +kernel)]
  | even =>
    by_cases z : p - p / q * q = 0
    · have z2 : 2 * (p - p / q * q) < q := by omega
      rw [run_fn (d := d_raw_rounded) rfl rfl]
      simp_arith [d_raw_rounded, Wy.w, rdI, z2, z, cS_f (show Dif "even" "down" by decide +kernel)]
      rw [if_pos (by omega)]
    · by_cases z2 : 2 * (p - p / q * q) < q
      · have z3 : ¬ q < 2 * (p - p / q * q) := by omega
        rw [run_fn (d := d_raw_rounded) rfl rfl]
        simp_arith [d_raw_rounded, Wy.w, rdI, z, z2, z3, cS_f (show Dif "even" "down" by decide +kernel), cS_f (show Dif "even" "up" by decide +kernel)]
      · by_cases z3 : q < 2 * (p - p / q * q)
        · rw [run_fn (d := d_raw_rounded) rfl rfl]
          simp_arith [d_raw_rounded, Wy.w, rdI, z, z2, z3, cS_f (show Dif "even" "down" by decide +kernel), cS_f (show Dif "even" "up" by decide +kernel)]
        · by_cases z4 : p / q % 2 = 1
          · rw [run_fn (d := d_raw_rounded) rfl rfl]
            simp_arith [d_raw_rounded, Wy.w, rdI, z, z2, z3, z4, mo, cS_f (show Dif "even" "down" by decide +kernel), cS_f (show Dif "even" "up" by decide +kernel), cS_f (show Dif "even" "near" by decide +kernel)]
          · rw [run_fn (d := d_raw_rounded) rfl rfl]
            simp_arith [d_raw_rounded, Wy.w, rdI, z, z2, z3, z4, mo, cS_f (show Dif "even" "down" by decide +kernel), cS_f (show Dif "even" "up" by decide +kernel), cS_f (show Dif "even" "near" by decide +kernel)]
theorem law_rounded_ok {y : Wy} (hq : 1 ≤ q ∧ q ≤ 100) : run prL F (k + 1) C (.fn 85) [.p (.int p), .p (.int q), .p (.str y.w)] M = .ok (.p (.int (rdI y q p))) M := by
  obtain ⟨h1, h2⟩ := rd_far (p := p) (q := q) (by omega)
  have e : p / q * q / q = p / q := Int.mul_ediv_cancel _ (by omega)
  cases y with
  | down =>
    rw [run_fn (d := d_law_rounded) rfl rfl]
    simp_arith [d_law_rounded, Wy.w, rdI, cS_t (show PyData.strOk "down" = true by decide +kernel)]
  | up =>
    by_cases z : p - p / q * q = 0
    · rw [run_fn (d := d_law_rounded) rfl rfl]
      simp_arith [d_law_rounded, Wy.w, rdI, z, cS_f (show Dif "up" "down" by decide +kernel), cS_t (show PyData.strOk "up" = true by decide +kernel)]
    · rw [run_fn (d := d_law_rounded) rfl rfl]
      simp_arith [d_law_rounded, Wy.w, rdI, z, cS_f (show Dif "up" "down" by decide +kernel), cS_t (show PyData.strOk "up" = true by decide +kernel)]
  | near =>
    by_cases z : p - p / q * q = 0
    · rw [run_fn (d := d_law_rounded) rfl rfl]
      simp_arith [d_law_rounded, Wy.w, rdI, z, cS_f (show Dif "near" "down" by decide +kernel)]
      rw [if_pos (by omega)]
    · by_cases z2 : 2 * (p - p / q * q) < q
      · have z3 : ¬ q < 2 * (p - p / q * q) := by omega
        rw [run_fn (d := d_law_rounded) rfl rfl]
        simp_arith [d_law_rounded, Wy.w, rdI, z, z2, z3, cS_f (show Dif "near" "down" by decide +kernel), cS_f (show Dif "near" "up" by decide +kernel)]
      · by_cases z3 : q < 2 * (p - p / q * q)
        · rw [run_fn (d := d_law_rounded) rfl rfl]
          simp_arith [d_law_rounded, Wy.w, rdI, z, z2, z3, cS_f (show Dif "near" "down" by decide +kernel), cS_f (show Dif "near" "up" by decide +kernel)]
        · rw [run_fn (d := d_law_rounded) rfl rfl]
          simp_arith [d_law_rounded, Wy.w, rdI, z, z2, z3, cS_f (show Dif "near" "down" by decide +kernel), cS_f (show Dif "near" "up" by decide +kernel), cS_t (show PyData.strOk "near" = true by decide +kernel)]
  | even =>
    by_cases z : p - p / q * q = 0
    · rw [run_fn (d := d_law_rounded) rfl rfl]
      simp_arith [d_law_rounded, Wy.w, rdI, z, cS_f (show Dif "even" "down" by decide +kernel)]
      rw [if_pos (by omega)]
    · by_cases z2 : 2 * (p - p / q * q) < q
      · have z3 : ¬ q < 2 * (p - p / q * q) := by omega
        rw [run_fn (d := d_law_rounded) rfl rfl]
        simp_arith [d_law_rounded, Wy.w, rdI, z, z2, z3, cS_f (show Dif "even" "down" by decide +kernel), cS_f (show Dif "even" "up" by decide +kernel)]
      · by_cases z3 : q < 2 * (p - p / q * q)
        · rw [run_fn (d := d_law_rounded) rfl rfl]
          simp_arith [d_law_rounded, Wy.w, rdI, z, z2, z3, cS_f (show Dif "even" "down" by decide +kernel), cS_f (show Dif "even" "up" by decide +kernel)]
        · by_cases z4 : p / q % 2 = 1
          · have z5 : ¬ p / q / 2 * 2 = p / q := by omega
            rw [run_fn (d := d_law_rounded) rfl rfl]
            simp_arith [d_law_rounded, Wy.w, rdI, z, z2, z3, z4, z5, e, cS_f (show Dif "even" "down" by decide +kernel), cS_f (show Dif "even" "up" by decide +kernel), cS_f (show Dif "even" "near" by decide +kernel)]
          · have z5 : p / q / 2 * 2 = p / q := by omega
            rw [run_fn (d := d_law_rounded) rfl rfl]
            simp_arith [d_law_rounded, Wy.w, rdI, z, z2, z3, z4, z5, e, cS_f (show Dif "even" "down" by decide +kernel), cS_f (show Dif "even" "up" by decide +kernel), cS_f (show Dif "even" "near" by decide +kernel)]

end


/-! ### XB68_k68 -/

/-! k68: forms of rounded prices. -/
section
variable {k : Nat} {C : List Clo} {M : Mem} {s r : FF} {p q n j : Int} {y z : Wy}
/-- a drawn form with a step -/
structure K68 (s : FF) (q : Int) : Prop where
  ok : s.Ok
  q1 : 1 ≤ q ∧ q ≤ 100
  bw : s.b + s.w * (2 * q) ≤ 300
  b4 : s.b ≤ 4
  w4 : s.w ≤ 4
  r9 : -9999 ≤ s.r * tnI q s.r ∧ s.r * tnI q s.r ≤ 9999
  r1 : -9999 ≤ s.r ∧ s.r ≤ 9999
theorem b_addW {q : Int} (hq : 1 ≤ q ∧ q ≤ 100) : PyData.strOk y.w = true ∧ opCmp .notin (.str y.w) k_WAYS = some false := by
  cases y <;> exact ⟨by decide +kernel, rfl⟩

theorem check_way_ok (hq : 1 ≤ q ∧ q ≤ 100) : run prL F (k + 3) C (.fn 52) [.p (.int q), .p (.str y.w)] M = .ok (.p .none) M := by
  obtain ⟨h1, h2⟩ := b_addW (y := y) hq
  have i1 : isTys (.p (.str y.w)) [.str] = some true := rfl
  rw [run_fn (d := d_check_way) rfl rfl]
  simp_arith [d_check_way, is_within_t, i1, h2]
theorem rounded_ok (hq : 1 ≤ q ∧ q ≤ 100) : run prL F (k + 4) C (.fn 54) [.p (.int p), .p (.int q), .p (.str y.w)] M = .ok (.p (.int (rdI y q p))) M := by
  rw [run_fn (d := d_rounded) rfl rfl]
  simp_arith [d_rounded, is_integer_int, check_way_ok hq, raw_rounded_ok hq]
theorem raw_rounded_form_ok (hF : 10000 ≤ F) (h : s.Ok) (hq : 1 ≤ q ∧ q ≤ 100) (hr : -9999 ≤ s.r ∧ s.r ≤ 9999) (hz : s.b + s.w * tnI q s.r ≤ 5000) : run prL F (k + 6) C (.fn 55) [.p s.d, .p (.int q), .p (.str y.w)] M = .ok (.p (canFF fun n => rdI y q (s.at n)).d) M := by
  obtain ⟨t1, t2, c, hc⟩ := tn_spec (q := q) (by omega) s.r
  have b0 := h.b0
  have w0 := h.w0
  have le := h.le
  have cp := fun k C M => common_part_ok (F := F) (k := k) (C := C) (M := M) hF (a := 2 * q) (b := (s.r.natAbs : Int)) (by omega) (by omega) (by omega)
  have g0 : (0 : Int) < (Int.gcd (2 * q) (s.r.natAbs : Int) : Nat) ∧ ((Int.gcd (2 * q) (s.r.natAbs : Int) : Nat) : Int) ≤ 2 * q := by
    have h1 : 0 < Int.gcd (2 * q) (s.r.natAbs : Int) := Int.gcd_pos_of_ne_zero_left _ (by omega)
    have h2 := Int.le_of_dvd (show 0 < 2 * q by omega) (Int.gcd_dvd_left (2 * q) (s.r.natAbs : Int))
    omega
  have dv : opBin .div (.int (2 * q)) (.int (Int.gcd (2 * q) (s.r.natAbs : Int) : Nat)) = some (.int (tnI q s.r)) := b_divP g0.1 (by omega)
  rw [run_fn (d := d_raw_rounded_form) rfl rfl]
  simp_arith [d_raw_rounded_form, idx_f0, idx_f1, idx_f2, cp, dv]
  rw [made_ok hF (f := fun n => rdI y q (s.at n)) (dp_rd h (by omega)) hz ?_ ?_]
  · simp_arith []
  · have := Int.mul_le_mul_of_nonneg_left t2 (show 0 ≤ 9999 by omega)
    have a1 := Int.mul_le_mul_of_nonneg_right hr.2 (show 0 ≤ tnI q s.r by omega)
    have a2 := Int.mul_le_mul_of_nonneg_right hr.1 (show 0 ≤ tnI q s.r by omega)
    omega
  · intro m m0 m1 M
    simp_arith [run_clo1, raw_price_ok h, raw_rounded_ok hq]
theorem rounded_form_ok (hF : 10000 ≤ F) (h : s.Ok) (hq : 1 ≤ q ∧ q ≤ 100) (hr : -9999 ≤ s.r ∧ s.r ≤ 9999) (hz : s.b + s.w * tnI q s.r ≤ 5000) : run prL F (k + 7) C (.fn 56) [.p s.d, .p (.int q), .p (.str y.w)] M = .ok (.p (canFF fun n => rdI y q (s.at n)).d) M := by
  rw [run_fn (d := d_rounded_form) rfl rfl]
  simp_arith [d_rounded_form, check_form_ok h, check_way_ok hq, raw_rounded_form_ok hF h hq hr hz]
theorem law_form_of_ok (h : K68 s q) : run prL F (k + 5) C (.fn 86) [.p s.d, .p (.int q), .p (.str y.w)] M = .ok (.p (canFF fun n => rdI y q (s.at n)).d) M := by
  have ok := h.ok
  have b0 := ok.b0
  have w0 := ok.w0
  have bw := h.bw
  have q1 := h.q1
  have r1 := h.r1
  have d := dp_rd2 (y := y) ok (show 0 < q by omega)
  have e2 : s.w * 2 * q = s.w * (2 * q) := Int.mul_assoc ..
  have wp := Int.mul_pos w0 (show 0 < 2 * q by omega)
  have rr : -1999800 ≤ 2 * q * s.r ∧ 2 * q * s.r ≤ 1999800 := by
    have a1 := Int.mul_le_mul_of_nonneg_left r1.2 (show 0 ≤ 2 * q by omega)
    have a2 := Int.mul_le_mul_of_nonneg_left r1.1 (show 0 ≤ 2 * q by omega)
    omega
  have e : (fun n => rdI y q (s.at n)) (s.b + s.w * (2 * q)) - (fun n => rdI y q (s.at n)) s.b = 2 * q * s.r := by
    rw [d.2.2 s.b (Int.le_refl _)]; omega
  have md := law_made_ok (F := F) (k := k) (C := C) (M := M) (f := fun n => rdI y q (s.at n)) (b := s.b) (w := s.w * (2 * q)) (L := s.b + s.w * (2 * q) + 1) (by rw [e]; exact d) (by omega) (by rw [e]; omega) (by omega)
  rw [run_fn (d := d_law_form_of) rfl rfl]
  simp_arith [d_law_form_of, idx_f0, idx_f1, e2]
  rw [comp_r1 (hi := s.b + s.w * (2 * q) + 1) (fun n => .int (rdI y q (s.at n)))]
  · simp_arith [rowP_int, md]
  · simp_arith []
  · omega
  · intro n n0 n1 M'
    simp_arith [law_at_ok ok n0, law_rounded_ok q1]
/-- the form of rounded prices -/
structure Rd (s : FF) (q : Int) (y : Wy) : Prop where
  can : CanF (fun n => rdI y q (s.at n)) s.b (s.w * tnI q s.r) (s.r * tnI q s.r)
  wd : (canFF fun n => rdI y q (s.at n)).w ∣ s.w * (2 * q)
  r9 : -9999 ≤ (canFF fun n => rdI y q (s.at n)).r ∧ (canFF fun n => rdI y q (s.at n)).r ≤ 9999
  qd : q ∣ (canFF fun n => rdI y q (s.at n)).r
  le : (canFF fun n => rdI y q (s.at n)).b ≤ s.b ∧ (canFF fun n => rdI y q (s.at n)).b + (canFF fun n => rdI y q (s.at n)).w ≤ 300
theorem rd_of (h : K68 s q) (y : Wy) : Rd s q y := by
  have ok := h.ok
  have b0 := ok.b0
  have w0 := ok.w0
  have bw := h.bw
  have q1 := h.q1
  have q0 : 0 < q := by omega
  obtain ⟨t1, t2, c, hc⟩ := tn_spec q0 s.r
  have d := dp_rd (y := y) ok q0
  have wl := Int.mul_le_mul_of_nonneg_left t2 (show 0 ≤ s.w by omega)
  have can := canF d (by omega) (by have := h.r9; omega)
  have cb := can.cb
  have cw := can.cwle
  have lw := can.least.dvd (dp_rd2 (y := y) ok q0)
  refine ⟨can, lw, ratio_le can.cr can.ok.w0 cw (by omega) h.r9, ?_, ⟨cb, by omega⟩⟩
  have e := can.least.dp.2.2 s.b cb
  obtain ⟨m1, e1⟩ := rd_mult (y := y) (q := q) (p := s.at (s.b + (canFF fun n => rdI y q (s.at n)).w))
  obtain ⟨m2, e2⟩ := rd_mult (y := y) (q := q) (p := s.at s.b)
  have e : rdI y q (s.at (s.b + (canFF fun n => rdI y q (s.at n)).w)) = rdI y q (s.at s.b) + (canFF fun n => rdI y q (s.at n)).r := e
  rw [e1, e2] at e
  exact ⟨m1 - m2, by rw [Int.mul_comm q, Int.sub_mul]; omega⟩
theorem Rd.tn (h : Rd s q y) (hq : 0 < q) : tnI q (canFF fun n => rdI y q (s.at n)).r ≤ 2 := by
  obtain ⟨c, hc⟩ := h.qd
  unfold tnI
  rw [hc]
  have d : q ∣ (Int.gcd (2 * q) ((q * c).natAbs : Int) : Nat) := by
    exact Int.dvd_coe_gcd (Int.dvd_mul_left ..) (Int.dvd_natAbs.mpr (Int.dvd_mul_right ..))
  have g0 : (0 : Int) < (Int.gcd (2 * q) ((q * c).natAbs : Int) : Nat) := by
    have h1 : 0 < Int.gcd (2 * q) ((q * c).natAbs : Int) := Int.gcd_pos_of_ne_zero_left _ (by omega)
    omega
  have l := Int.le_of_dvd g0 d
  have := (Int.ediv_lt_iff_lt_mul g0).mpr (show 2 * q < 3 * (Int.gcd (2 * q) ((q * c).natAbs : Int) : Nat) by omega)
  omega

end


/-! ### XC68_k68 -/

/-! k68: one way, two ways. -/
section
variable {k : Nat} {C : List Clo} {M : Mem} {s r : FF} {p q n j : Int} {y z : Wy}
theorem row_minmax {f : Int → Int} {m : Int} {P : Int → Prop} (hm : 0 < m) (h : ∀ n, 0 ≤ n → P (f n)) : P (minL (rowI f 0 m)) ∧ P (maxL (rowI f 0 m)) := by
  obtain ⟨a, a0, a1, a2⟩ := mem_row.mp (minL_mem (row_ne (f := f) hm))
  obtain ⟨b, b0, b1, b2⟩ := mem_row.mp (maxL_mem (row_ne (f := f) hm))
  exact ⟨by rw [← a2]; exact h a a0, by rw [← b2]; exact h b b0⟩
theorem isNR_i {i : Int} : isNR (.p (.int i)) M = .ok (.p (.bool false)) M := Eq.trans rfl rfl
theorem K68.w1 (h : K68 s q) : s.w * (2 * q) ≤ 300 ∧ 0 < s.w * (2 * q) := by
  have := h.ok.b0
  have := h.bw
  have := Int.mul_pos h.ok.w0 (show 0 < 2 * q by have := h.q1; omega)
  omega
/-- rounds of the rounded form and the form go together -/
theorem Rd.rnd_ (h : K68 s q) (d : Rd s q y) : rnd (canFF fun n => rdI y q (s.at n)).w s.w ≤ 300 := by
  have := Int.le_of_dvd h.w1.2 (rnd_dvd d.can.ok.w0 h.ok.w0 d.wd (Int.dvd_mul_right ..))
  have := h.w1
  omega
theorem lost_dp (h : K68 s q) (d : Rd s q y) : Mx.DP (fun n => (canFF fun n => rdI y q (s.at n)).at n - s.at n) (max (canFF fun n => rdI y q (s.at n)).b s.b) (rnd (canFF fun n => rdI y q (s.at n)).w s.w) 0 := by
  obtain ⟨d1, d2⟩ := dp_two d.can.ok h.ok
  have e := d1.less d2
  have q0 : 0 < q := by have := h.q1; omega
  obtain ⟨t1, t2, c, hc⟩ := tn_spec q0 s.r
  -- the difference stays small, so it does not rise
  have z : (canFF fun n => rdI y q (s.at n)).r * (rnd (canFF fun n => rdI y q (s.at n)).w s.w / (canFF fun n => rdI y q (s.at n)).w) - s.r * (rnd (canFF fun n => rdI y q (s.at n)).w s.w / s.w) = 0 := by
    refine Decidable.byContradiction fun hne => ?_
    have w0 := rnd_pos d.can.ok.w0 h.ok.w0
    have b0 := d.can.ok.b0
    have sb0 := h.ok.b0
    generalize hg : (canFF fun n => rdI y q (s.at n)).r * (rnd (canFF fun n => rdI y q (s.at n)).w s.w / (canFF fun n => rdI y q (s.at n)).w) - s.r * (rnd (canFF fun n => rdI y q (s.at n)).w s.w / s.w) = u at *
    have m := e.mulI (k := 2 * q) (by omega) (Int.le_refl _)
    have l : ∀ n, 0 ≤ n → -q < (canFF fun n => rdI y q (s.at n)).at n - s.at n ∧ (canFF fun n => rdI y q (s.at n)).at n - s.at n < q := fun n hn => by rw [d.can.at_ n hn]; exact rd_lost q0
    have l1 := l (max (canFF fun n => rdI y q (s.at n)).b s.b) (by omega)
    have l2 := l (max (canFF fun n => rdI y q (s.at n)).b s.b + 2 * q * rnd (canFF fun n => rdI y q (s.at n)).w s.w) (by have := Int.mul_nonneg (show 0 ≤ 2 * q by omega) (show 0 ≤ rnd (canFF fun n => rdI y q (s.at n)).w s.w by omega); omega)
    have m : (canFF fun n => rdI y q (s.at n)).at (max (canFF fun n => rdI y q (s.at n)).b s.b + 2 * q * rnd (canFF fun n => rdI y q (s.at n)).w s.w) - s.at (max (canFF fun n => rdI y q (s.at n)).b s.b + 2 * q * rnd (canFF fun n => rdI y q (s.at n)).w s.w) = (canFF fun n => rdI y q (s.at n)).at (max (canFF fun n => rdI y q (s.at n)).b s.b) - s.at (max (canFF fun n => rdI y q (s.at n)).b s.b) + 2 * q * u := m
    rcases (show u ≤ -1 ∨ 1 ≤ u by omega) with hu | hu
    · have := Int.mul_le_mul_of_nonneg_left hu (show 0 ≤ 2 * q by omega)
      omega
    · have := Int.mul_le_mul_of_nonneg_left hu (show 0 ≤ 2 * q by omega)
      omega
  rw [z] at e
  exact e
/-- what rounding puts to prices, as a form -/
theorem lost_can (h : K68 s q) (d : Rd s q y) : CanF (fun n => (canFF fun n => rdI y q (s.at n)).at n - s.at n) (max (canFF fun n => rdI y q (s.at n)).b s.b) (rnd (canFF fun n => rdI y q (s.at n)).w s.w) 0 := canF (lost_dp h d) (by have := d.rnd_ h; have := d.le; have := h.b4; have := d.can.ok.w0; omega) (by omega)
theorem lost_r0 (h : K68 s q) (d : Rd s q y) : (canFF fun n => (canFF fun n => rdI y q (s.at n)).at n - s.at n).r = 0 := by
  have c := lost_can h d
  have e := c.cr
  rw [Int.zero_mul] at e
  have w0 := rnd_pos d.can.ok.w0 h.ok.w0
  rcases Int.mul_eq_zero.mp e with z | z
  · exact z
  · omega

theorem law_is_way_right_ok (hF : 10000 ≤ F) (h : K68 s q) (hn : 0 ≤ n) : run prL F (k + 9) C (.fn 88) [.p s.d, .p (.int q), .p (.str y.w), .p (.int n)] M = .ok (.p (.bool true)) M := by
  have ok := h.ok
  have b0 := ok.b0
  have w0 := ok.w0
  have q1 := h.q1
  have q0 : 0 < q := by omega
  have bw := h.bw
  have w1 := h.w1
  obtain ⟨t1, t2, c, hc⟩ := tn_spec q0 s.r
  have tl := Int.mul_le_mul_of_nonneg_left t2 (show 0 ≤ s.w by omega)
  have d := rd_of h y
  have dl := d.le
  have dr := d.r9
  have d2 := d.tn q0
  have dok := d.can.ok
  have dw0 := dok.w0
  have db0 := dok.b0
  have rl := d.rnd_ h
  have f1 := fun k C M => law_form_of_ok (F := F) (k := k) (C := C) (M := M) (y := y) h
  have f2 := fun k C M => rounded_form_ok (F := F) (k := k) (C := C) (M := M) (y := y) hF ok q1 h.r1 (by omega)
  have f3 := fun k C M => rounded_form_ok (F := F) (k := k) (C := C) (M := M) (y := y) hF dok q1 dr (by have := Int.mul_le_mul_of_nonneg_left d2 (show 0 ≤ (canFF fun n => rdI y q (s.at n)).w by omega); omega)
  have e3 : canFF (fun n => rdI y q ((canFF fun n => rdI y q (s.at n)).at n)) = canFF fun n => rdI y q (s.at n) := canFF_congr fun n hn => by rw [d.can.at_ n hn, rd_rd q0]
  rw [e3] at f3
  -- what is lost
  have lc := lost_can h d
  have l0 := lost_r0 h d
  have rr := h.r1
  have rl0 := fun k C M => raw_lessened_gen (F := F) (k := k) (C := C) (M := M) hF dok ok (by unfold RB; omega) (by unfold RB; omega) (by omega)
  unfold MkR at rl0
  simp only [if_pos (show max (canFF fun n => rdI y q (s.at n)).b s.b + rnd (canFF fun n => rdI y q (s.at n)).w s.w ≤ 5000 by omega)] at rl0
  have rf := fun k C M => raw_rounded_form_ok (F := F) (k := k) (C := C) (M := M) (y := y) hF ok q1 h.r1 (by omega)
  have lo : ∀ k C M, run prL F (k + 8) C (.fn 58) [.p s.d, .p (.int q), .p (.str y.w)] M = .ok (.p (canFF fun n => (canFF fun n => rdI y q (s.at n)).at n - s.at n).d) M := fun k C M => by
    have e : run prL F (k + 7) C (.fn 57) [.p s.d, .p (.int q), .p (.str y.w)] M = .ok (.p (canFF fun n => (canFF fun n => rdI y q (s.at n)).at n - s.at n).d) M := by
      rw [run_fn (d := d_raw_lost) rfl rfl]
      simp_arith [d_raw_lost, rf, rl0]
    rw [run_fn (d := d_lost) rfl rfl]
    simp_arith [d_lost, check_form_ok ok, check_way_ok q1, e]
  have ls : ∀ k C M, run prL F (k + 7) C (.fn 24) [.p (canFF fun n => rdI y q (s.at n)).d, .p s.d] M = .ok (.p (canFF fun n => (canFF fun n => rdI y q (s.at n)).at n - s.at n).d) M := fun k C M => by
    rw [run_fn (d := d_lessened) rfl rfl]
    simp_arith [d_lessened, check_two_ok dok ok, rl0]
  have gl : rnd (canFF fun n => (canFF fun n => rdI y q (s.at n)).at n - s.at n).w s.w ≤ 300 := by
    have dv : (canFF fun n => (canFF fun n => rdI y q (s.at n)).at n - s.at n).w ∣ s.w * (2 * q) := Int.dvd_trans lc.cw (rnd_dvd dw0 w0 d.wd (Int.dvd_mul_right ..))
    have := Int.le_of_dvd w1.2 (rnd_dvd lc.ok.w0 w0 dv (Int.dvd_mul_right ..))
    omega
  have lcb := lc.cb
  have ad0 := fun k C M => raw_added_gen (F := F) (k := k) (C := C) (M := M) hF lc.ok ok (by unfold RB; omega) (by unfold RB; omega) (by omega)
  unfold MkR at ad0
  simp only [if_pos (show max (canFF fun n => (canFF fun n => rdI y q (s.at n)).at n - s.at n).b s.b + rnd (canFF fun n => (canFF fun n => rdI y q (s.at n)).at n - s.at n).w s.w ≤ 5000 by omega)] at ad0
  have ea : canFF (fun n => (canFF fun n => (canFF fun n => rdI y q (s.at n)).at n - s.at n).at n + s.at n) = canFF fun n => rdI y q (s.at n) := canFF_congr fun n hn => by rw [lc.at_ n hn, d.can.at_ n hn]; omega
  rw [ea] at ad0
  have ad : ∀ k C M, run prL F (k + 7) C (.fn 22) [.p (canFF fun n => (canFF fun n => rdI y q (s.at n)).at n - s.at n).d, .p s.d] M = .ok (.p (canFF fun n => rdI y q (s.at n)).d) M := fun k C M => by
    rw [run_fn (d := d_added) rfl rfl]
    simp_arith [d_added, check_two_ok lc.ok ok, ad0]
  have bo := fun k C M => bounds_of_ok (F := F) (k := k) (C := C) (M := M) lc.ok
  rw [l0, if_pos (Int.le_refl 0), if_pos (Int.le_refl 0), lc.pr] at bo
  have gb0 := lc.ok.b0
  have gw0 := lc.ok.w0
  obtain ⟨L, hL⟩ : ∃ L, L = rowI (fun n => (canFF fun n => rdI y q (s.at n)).at n - s.at n) 0 ((canFF fun n => (canFF fun n => rdI y q (s.at n)).at n - s.at n).b + (canFF fun n => (canFF fun n => rdI y q (s.at n)).at n - s.at n).w) := ⟨_, rfl⟩
  have mm : ∀ {P : Int → Prop}, (∀ p, P (rdI y q p - p)) → P (minL L) ∧ P (maxL L) := fun {P} hP => by
    rw [hL]
    exact row_minmax (by omega) fun n hn => by rw [d.can.at_ n hn]; exact hP _
  rw [← hL] at bo
  have m1 := mm (P := fun v => -q < v ∧ v < q) fun p => rd_lost q0
  have c1 : ¬ minL L ≤ 0 - q := by omega
  have c2 : ¬ q ≤ maxL L := by omega
  have rd := fun k C M => rounded_ok (F := F) (k := k) (C := C) (M := M) (p := s.at n) (y := y) q1
  have lr := fun k C M => law_rounded_ok (F := F) (k := k) (C := C) (M := M) (p := s.at n) (y := y) q1
  have pa := fun k C M => price_at_ok (F := F) (k := k) (C := C) (M := M) dok hn
  rw [d.can.at_ n hn] at pa
  have la := fun k C M => law_at_ok (F := F) (k := k) (C := C) (M := M) ok hn
  have s1 : minL L ≤ 0 - q ↔ False := ⟨c1, False.elim⟩
  rcases y.cases_ with hy | hy | hy | hy
  · have m2 := mm (P := fun v => 0 ≤ v) fun p => by rw [hy]; exact rd_up q0
    have wy : y.w = "up" := by rw [hy]; rfl
    have c3 := m2.1
    rw [wy] at f1 f2 f3 lo rd lr ⊢
    rw [run_fn (d := d_law_is_way_right) rfl rfl]
    simp_arith [d_law_is_way_right, f1, f2, f3, la, lo, ls, ad, bo, rd, lr, pa, like_ok (sz_form dok), like_ok (sz_form lc.ok), like_ok sz_int, isNR_i, c1, c2, cS_t (show PyData.strOk "up" = true by decide +kernel), c3]
  · have m2 := mm (P := fun v => v ≤ 0) fun p => by rw [hy]; exact rd_down q0
    have wy : y.w = "down" := by rw [hy]; rfl
    have c3 := m2.2
    rw [wy] at f1 f2 f3 lo rd lr ⊢
    rw [run_fn (d := d_law_is_way_right) rfl rfl]
    simp_arith [d_law_is_way_right, f1, f2, f3, la, lo, ls, ad, bo, rd, lr, pa, like_ok (sz_form dok), like_ok (sz_form lc.ok), like_ok sz_int, isNR_i, c1, c2, cS_f (show Dif "down" "up" by decide +kernel), cS_t (show PyData.strOk "down" = true by decide +kernel), c3]
  · have m2 := mm (P := fun v => -q ≤ 2 * v ∧ 2 * v ≤ q) fun p => rd_half q0 (.inl hy)
    have wy : y.w = "near" := by rw [hy]; rfl
    have c3 : 2 * max (0 - minL L) (maxL L) ≤ q := by omega
    rw [wy] at f1 f2 f3 lo rd lr ⊢
    rw [run_fn (d := d_law_is_way_right) rfl rfl]
    simp_arith [d_law_is_way_right, f1, f2, f3, la, lo, ls, ad, bo, rd, lr, pa, like_ok (sz_form dok), like_ok (sz_form lc.ok), like_ok sz_int, isNR_i, c1, c2, cS_f (show Dif "near" "up" by decide +kernel), cS_f (show Dif "near" "down" by decide +kernel), c3]
  · have m2 := mm (P := fun v => -q ≤ 2 * v ∧ 2 * v ≤ q) fun p => rd_half q0 (.inr hy)
    have wy : y.w = "even" := by rw [hy]; rfl
    have c3 : 2 * max (0 - minL L) (maxL L) ≤ q := by omega
    rw [wy] at f1 f2 f3 lo rd lr ⊢
    rw [run_fn (d := d_law_is_way_right) rfl rfl]
    simp_arith [d_law_is_way_right, f1, f2, f3, la, lo, ls, ad, bo, rd, lr, pa, like_ok (sz_form dok), like_ok (sz_form lc.ok), like_ok sz_int, isNR_i, c1, c2, cS_f (show Dif "even" "up" by decide +kernel), cS_f (show Dif "even" "down" by decide +kernel), c3]

end


/-! ### XD68_k68 -/

/-! k68: where two ways part; rules. -/
section
variable {k : Nat} {C : List Clo} {M : Mem} {s r : FF} {p q n j : Int} {y z : Wy}

/-- two forms of one pace meet from the later begin on -/
theorem raw_where_like_0 (hF : 10000 ≤ F) (h : s.Ok) (h2 : r.Ok) (hr : RB s) (hr2 : RB r) (hW : rnd s.w r.w ≤ 100000) (hg : gain2 s r = 0) (hz : max s.b r.b + rnd s.w r.w ≤ 5000) :
    CanS (fun n => decide (s.at n = r.at n)) (max s.b r.b) (rnd s.w r.w) ∧ ∀ k C M, run prL F (k + 6) C (.fn 50) [.p s.d, .p r.d] M = .ok (.p (canS fun n => decide (s.at n = r.at n)).d) M := by
  obtain ⟨a1, a3, a4, a5⟩ := risesW h h2 hr hr2 hW
  have := h.w0
  have := h.b0
  have := h.le
  have := h2.w0
  have := h2.b0
  have := h2.le
  have rr1 := h.rb
  have rr2 := h2.rb
  have q1 := Int.ediv_le_self (a := rnd s.w r.w) s.w (by omega)
  have q2 := Int.ediv_le_self (a := rnd s.w r.w) r.w (by omega)
  have q3 : 0 ≤ rnd s.w r.w / s.w := Int.ediv_nonneg (by omega) (by omega)
  have q4 : 0 ≤ rnd s.w r.w / r.w := Int.ediv_nonneg (by omega) (by omega)
  have gd : s.r * (rnd s.w r.w / s.w) - r.r * (rnd s.w r.w / r.w) = gain2 s r := rfl
  have m := meets_0 h h2 hz hg
  refine ⟨canS_ m.eq m.le, fun k C M => ?_⟩
  have sf : ∀ k C M, run prL F (k + 3) C (.fn 49) [.p s.d, .p r.d] M = .ok (.p (.tuple [.int (max s.b r.b), .int (rnd s.w r.w)])) M := fun k C M => by
    rw [run_fn (d := d_signed_from) rfl rfl]
    simp_arith [d_signed_from, idx_f0, idx_f1, idx_f2, common_round_ok hF, gd, hg]
  rw [run_fn (d := d_raw_where_like) rfl rfl]
  simp_arith [d_raw_where_like, sf]
  rw [made_set_ok hF m.eq m.le ?_]
  · simp_arith []
  · intro m m1 m2 M
    simp_arith [run_clo1, raw_price_ok h, raw_price_ok h2]
theorem dataPl_row0 {f : Int → Bool} {lo hi q : Int} : ∀ {m : Nat} {lo : Int} {i : Nat}, q = lo + m → q < hi → f q = false → (∀ n, lo ≤ n → n < q → f n = true) → dataPl (.bool false) ((rowB f lo hi).map .bool) i = some (i + m)
  | 0, lo, i, h, h2, h3, _ => by
    have e : q = lo := by omega
    subst e
    have er : rowB f q hi = f q :: rowB f (q + 1) hi := by
      unfold rowB
      rw [show (hi - q).toNat = (hi - (q + 1)).toNat + 1 by omega, List.range_succ_eq_map, List.map_cons, List.map_map]
      congr 1
      · congr 1
        omega
      · refine List.map_congr_left fun k _ => ?_
        show f (q + ((k + 1 : Nat) : Int)) = f (q + 1 + (k : Int))
        congr 1
        omega
    rw [er, List.map_cons, h3]
    unfold dataPl
    rw [eqv_bool]
    simp
  | m + 1, lo, i, h, h2, h3, h4 => by
    have er : rowB f lo hi = f lo :: rowB f (lo + 1) hi := by
      unfold rowB
      rw [show (hi - lo).toNat = (hi - (lo + 1)).toNat + 1 by omega, List.range_succ_eq_map, List.map_cons, List.map_map]
      congr 1
      · congr 1
        omega
      · refine List.map_congr_left fun k _ => ?_
        show f (lo + ((k + 1 : Nat) : Int)) = f (lo + 1 + (k : Int))
        congr 1
        omega
    rw [er, List.map_cons, h4 lo (Int.le_refl _) (by omega)]
    unfold dataPl
    rw [eqv_bool, dataPl_row0 (lo := lo + 1) (m := m) (i := i + 1) (by omega) h2 h3 fun n h5 h6 => h4 n (by omega) h6]
    simp
    omega
theorem me_index0 {gg : G} {σ : Sg} {f : Int → Bool} {hi q : Int} (h0 : 0 ≤ q) (h2 : q < hi) (h3 : f q = false) (h4 : ∀ n, 0 ≤ n → n < q → f n = true) : meR1 gg .index [.bl false] σ (.p (.tuple ((rowB f 0 hi).map .bool))) M = .ok (.p (.int q)) M := by
  have e : meOk M .index (.p (.tuple ((rowB f 0 hi).map .bool))) = true := rfl
  unfold meR1
  rw [e, if_pos rfl, e_cons, e_bl, bind_ok, e_nil, bind_ok, bind_ok]
  unfold meR2
  have e2 : opMe M .index (.p (.tuple ((rowB f 0 hi).map .bool))) [.p (.bool false)] = (if (flatP (.bool false) && ((rowB f 0 hi).map PyData.bool).all flatP) = true then (dataPl (.bool false) ((rowB f 0 hi).map .bool) 0).map fun i => (D.p (.int (i : Nat)), M) else none) := rfl
  rw [e2, flat_bls, dataPl_row0 (lo := 0) (m := q.toNat) (i := 0) (by omega) h2 h3 h4]
  show R.ok (D.p (.int ((0 + q.toNat : Nat) : Int))) M = _
  rw [show ((0 + q.toNat : Nat) : Int) = q by omega]

theorem least_out_ok {f : Int → Bool} {b w : Int} (c : CanS f b w) : run prL F (k + 1) C (.fn 51) [.p (canS f).d] M = .ok (.p (optD (nthO (fun n => !f n) 0))) M := by
  by_cases hx : ∃ m, 0 ≤ m ∧ f m = false
  · obtain ⟨m, m0, hm⟩ := hx
    have ep : Mx.EPb (fun n => !f n) (canS f).b (canS f).w := ⟨c.ep.1, c.ep.2.1, fun n hn => by
      show (!f (n + (canS f).w)) = !f n
      rw [c.ep.2.2 n hn]⟩
    obtain ⟨m', a1, a2, a3, a4⟩ := EPb.near ep m0 (show (!f m) = true by rw [hm]; rfl)
    obtain ⟨q, q1, q2, q3, q4⟩ := least_in (p := fun n => !f n) (lo := 0) a1 a4
    have q3 : f q = false := by simpa using q3
    have q4 : ∀ n, 0 ≤ n → n < q → f n = true := fun n n0 n1 => by simpa using q4 n n0 n1
    have e : nthO (fun n => !f n) 0 = some q := nthO_eq (isNth0 q1 (by rw [q3]; rfl) fun n n0 hn => by
      refine Int.not_lt.mp fun hlt => ?_
      rw [q4 n n0 hlt] at hn
      cases hn)
    have hin : false ∈ rowB f 0 ((canS f).b + (canS f).w) := mem_rowB.mpr ⟨q, q1, by omega, q3⟩
    rw [e]
    rw [run_fn (d := d_least_out) rfl rfl]
    simp_arith [d_least_out, idx_s2, c.fl, cmp_inB, hin, me_index0 q1 (show q < (canS f).b + (canS f).w by omega) q3 q4, optD]
  · have hall : ∀ m, 0 ≤ m → f m = true := fun m m0 => by
      cases hf : f m with
      | true => rfl
      | false => exact absurd ⟨m, m0, hf⟩ hx
    have e : nthO (fun n => !f n) 0 = none := nthO_eq (isNth_none fun m m0 => by rw [hall m m0]; rfl)
    have hin : ¬ false ∈ rowB f 0 ((canS f).b + (canS f).w) := fun z => by
      obtain ⟨n, n1, n2, n3⟩ := mem_rowB.mp z
      exact hx ⟨n, n1, n3⟩
    rw [e]
    rw [run_fn (d := d_least_out) rfl rfl]
    simp_arith [d_least_out, idx_s2, c.fl, cmp_inB, hin, optD]

theorem law_two_right68 (hF : 10000 ≤ F) (h : K68 s q) : run prL F (k + 9) C (.fn 89) [.p s.d, .p (.int q), .p (.str y.w), .p (.str z.w)] M = .ok (.p (.bool true)) M := by
  have ok := h.ok
  have b0 := ok.b0
  have w0 := ok.w0
  have q1 := h.q1
  have q0 : 0 < q := by omega
  have bw := h.bw
  have w1 := h.w1
  obtain ⟨t1, t2, c, hc⟩ := tn_spec q0 s.r
  have tl := Int.mul_le_mul_of_nonneg_left t2 (show 0 ≤ s.w by omega)
  have d := rd_of h y
  have e := rd_of h z
  have dr := d.r9
  have er := e.r9
  have dw0 := d.can.ok.w0
  have ew0 := e.can.ok.w0
  have dl := d.le
  have el := e.le
  have rl : rnd (canFF fun n => rdI y q (s.at n)).w (canFF fun n => rdI z q (s.at n)).w ≤ 300 := by
    have := Int.le_of_dvd w1.2 (rnd_dvd dw0 ew0 d.wd e.wd)
    omega
  -- both have the pace of the form
  have g0 : gain2 (canFF fun n => rdI y q (s.at n)) (canFF fun n => rdI z q (s.at n)) = 0 := by
    have r0 := rnd_pos dw0 ew0
    obtain ⟨u, hu⟩ := rnd_l dw0 ew0
    obtain ⟨v, hv⟩ := rnd_r (a := (canFF fun n => rdI y q (s.at n)).w) (b := (canFF fun n => rdI z q (s.at n)).w)
    have c1 := d.can.cr
    have c2 := e.can.cr
    unfold gain2
    generalize (canFF fun n => rdI y q (s.at n)).w = a at *
    generalize (canFF fun n => rdI z q (s.at n)).w = b at *
    generalize (canFF fun n => rdI y q (s.at n)).r = x1 at *
    generalize (canFF fun n => rdI z q (s.at n)).r = x2 at *
    have W0 : 0 < s.w * tnI q s.r := Int.mul_pos w0 (by omega)
    generalize s.w * tnI q s.r = W at *
    generalize s.r * tnI q s.r = R at *
    have d1 : rnd a b / a = u := by rw [hu, Int.mul_ediv_cancel_left _ (show a ≠ 0 by omega)]
    have d2 : rnd a b / b = v := by rw [hv, Int.mul_ediv_cancel_left _ (show b ≠ 0 by omega)]
    rw [d1, d2]
    have e1 : (x1 * u) * W = R * rnd a b := by rw [Int.mul_right_comm, c1, hu, Int.mul_assoc]
    have e2 : (x2 * v) * W = R * rnd a b := by rw [Int.mul_right_comm, c2, hv, Int.mul_assoc]
    have := Int.eq_of_mul_eq_mul_right (show W ≠ 0 by omega) (e1.trans e2.symm)
    omega
  obtain ⟨cs, wl⟩ := raw_where_like_0 hF d.can.ok e.can.ok (by unfold RB; omega) (by unfold RB; omega) (by omega) g0 (by omega)
  have f1 := fun k C M => raw_rounded_form_ok (F := F) (k := k) (C := C) (M := M) (y := y) hF ok q1 h.r1 (by omega)
  have f2 := fun k C M => raw_rounded_form_ok (F := F) (k := k) (C := C) (M := M) (y := z) hF ok q1 h.r1 (by omega)
  have lo := fun k C M => least_out_ok (F := F) (k := k) (C := C) (M := M) cs
  have e3 : nthO (fun n => !decide ((canFF fun n => rdI y q (s.at n)).at n = (canFF fun n => rdI z q (s.at n)).at n)) 0 = nthO (fun n => !decide (rdI y q (s.at n) = rdI z q (s.at n))) 0 := nthO_congr fun n hn => by rw [d.can.at_ n hn, e.can.at_ n hn]
  rw [e3] at lo
  have fu : ∀ k C M, run prL F (k + 7) C (.fn 59) [.p s.d, .p (.int q), .p (.str y.w), .p (.str z.w)] M = .ok (.p (optD (nthO (fun n => !decide (rdI y q (s.at n) = rdI z q (s.at n))) 0))) M := fun k C M => by
    rw [run_fn (d := d_first_unlike) rfl rfl]
    simp_arith [d_first_unlike, check_form_ok ok, check_way_ok q1, f1, f2, wl, lo]
  have hd : nthO (fun n => !decide (rdI y q (s.at n) = rdI z q (s.at n))) 0 = (filI (fun n => !decide (rdI y q (s.at n) = rdI z q (s.at n))) 0 (s.b + s.w * (2 * q)))[0]? := nth0_head (by omega) fun m m0 hm => by
    have ep : Mx.EPb (fun n => !decide (rdI y q (s.at n) = rdI z q (s.at n))) s.b (s.w * (2 * q)) := ⟨b0, w1.2, fun n hn => by
      have a1 := (dp_rd2 (y := y) ok q0).2.2 n hn
      have a2 := (dp_rd2 (y := z) ok q0).2.2 n hn
      have a1 : rdI y q (s.at (n + s.w * (2 * q))) = rdI y q (s.at n) + 2 * q * s.r := a1
      have a2 : rdI z q (s.at (n + s.w * (2 * q))) = rdI z q (s.at n) + 2 * q * s.r := a2
      show (!decide (rdI y q (s.at (n + s.w * (2 * q))) = rdI z q (s.at (n + s.w * (2 * q))))) = _
      rw [a1, a2]
      congr 1
      by_cases x : rdI y q (s.at n) = rdI z q (s.at n)
      · rw [decide_eq_true x, decide_eq_true (by omega)]
      · rw [decide_eq_false x, decide_eq_false (by omega)]⟩
    obtain ⟨m', a1, a2, a3, a4⟩ := EPb.near ep m0 hm
    exact ⟨m', a1, by omega, a4⟩
  have e5 : s.w * 2 * q = s.w * (2 * q) := Int.mul_assoc ..
  obtain ⟨N, hN⟩ : ∃ N, N = s.b + s.w * (2 * q) := ⟨_, rfl⟩
  obtain ⟨L, hL⟩ : ∃ L, L = filI (fun n => !decide (rdI y q (s.at n) = rdI z q (s.at n))) 0 N := ⟨_, rfl⟩
  have sz : ∀ o, Sz (optD o) := fun o => sz_opt
  rw [hd, ← hN, ← hL] at fu
  rw [run_fn (d := d_law_are_two_right) rfl rfl]
  simp_arith [d_law_are_two_right, idx_f0, idx_f1, e5, ← hN]
  rw [comp_r1 (hi := N) (fun n => .int (s.at n))]
  · simp_arith [rowP_int]
    rw [comp_f1 (hi := N) (fun n => !decide (rdI y q (s.at n) = rdI z q (s.at n))) (fun n => .int n)]
    · rw [← hL]
      cases L with
      | nil =>
        simp_arith [fu, List.getElem?_nil, optD, like_ok sz_none]
      | cons a l =>
        have l0 : (0 : Int) < (l.length : Int) + 1 := by omega
        simp_arith [fu, List.length_map, List.getElem?_cons_zero, optD, like_ok sz_int, atI_head, l0]
    · simp_arith []
    · omega
    · intro n n0 n1 M'
      simp_arith [atR (f := s.at) (L := N) n0 n1, law_rounded_ok q1]
    · intro n n0 n1 _ M'
      simp_arith []
  · simp_arith []
  · omega
  · intro n n0 n1 M'
    simp_arith [law_at_ok ok n0]

end


/-! ### XE68_k68 -/

/-! k68: rules; wrong things; the law. -/
section
variable {k : Nat} {C : List Clo} {M : Mem} {s r : FF} {p q n j : Int} {y z : Wy}
/-- a drawn form with a small step -/
structure L68 (s : FF) (q : Int) : Prop where
  k : K68 s q
  q12 : q ≤ 12
  r30 : -30 ≤ s.r ∧ s.r ≤ 30
  p30 : ∀ p ∈ s.pr, -30 ≤ p ∧ p ≤ 30
def leafF (s : FF) : Ru := .lst s.pr s.w s.r
theorem leafF_at (h : s.Ok) (n : Int) : (leafF s).pr n = s.at n := by
  have e : ((s.pr.length : Nat) : Int) - s.w = s.b := by rw [h.len]; omega
  show (FF.mk ((s.pr.length : Nat) - s.w) s.w s.r s.pr).at n = s.at n
  rw [e]
theorem lefs_nb (h : s.Ok) : (leafF s).nb = (s.b, s.w, s.r) := by
  show (((s.pr.length : Nat) : Int) - s.w, s.w, s.r) = _
  rw [h.len, show s.b + s.w - s.w = s.b by omega]
theorem cnt_all {w : Str} {a : Ru} (hw : w ∈ w1s) (h1 : cntLo w ≤ q) (h2 : q ≤ cntHi w) (h : a.All) : (Ru.cnt w q a).All := ⟨⟨hw, h1, h2⟩, h⟩
theorem L68.rules (h : L68 s q) : (Ru.cnt "times" q (.cnt "share" q (leafF s))).Ok ∧ (Ru.cnt "times" q (.cnt "share" q (leafF s))).Pl ∧
    (Ru.cnt "times" (-1) (.cnt "times" q (.cnt "share" q (.cnt "times" (-1) (leafF s))))).Ok ∧ (Ru.cnt "times" (-1) (.cnt "times" q (.cnt "share" q (.cnt "times" (-1) (leafF s))))).Pl := by
  have ok := h.k.ok
  have b0 := ok.b0
  have w0 := ok.w0
  have b4 := h.k.b4
  have w4 := h.k.w4
  have len := ok.len
  have q1 := h.k.q1
  have q12 := h.q12
  have r30 := h.r30
  have lf : (leafF s).All := ⟨⟨by omega, by omega⟩, fun p hp => by have := h.p30 p hp; omega, ⟨by omega, by omega⟩, by omega, by omega⟩
  have wq := Int.mul_le_mul w4 q12 (by omega) (by omega)
  have rq : -360 ≤ q * s.r ∧ q * s.r ≤ 360 := by
    have a1 := Int.mul_le_mul_of_nonneg_left r30.2 (show 0 ≤ q by omega)
    have a2 := Int.mul_le_mul_of_nonneg_left r30.1 (show 0 ≤ q by omega)
    omega
  have tw : ("times" : Str) ∈ w1s := by decide +kernel
  have sw : ("share" : Str) ∈ w1s := by decide +kernel
  have n0 := lefs_nb ok
  have rq2 : -360 ≤ q * (-1 * s.r) ∧ q * (-1 * s.r) ≤ 360 := by
    rw [show -1 * s.r = -s.r by omega, Int.mul_neg]
    omega
  have f1 : Fit (Ru.cnt "share" q (leafF s)).nb := by
    show (leafF s).nb.1 + (leafF s).nb.2.1 * q ≤ 5000 ∧ -100000 ≤ (leafF s).nb.2.2 ∧ (leafF s).nb.2.2 ≤ 100000
    rw [n0]; exact ⟨by show s.b + s.w * q ≤ 5000; omega, by show -100000 ≤ s.r; omega, by show s.r ≤ 100000; omega⟩
  have f2 : Fit (Ru.cnt "times" q (.cnt "share" q (leafF s))).nb := by
    show (leafF s).nb.1 + (leafF s).nb.2.1 * q ≤ 5000 ∧ -100000 ≤ q * (leafF s).nb.2.2 ∧ q * (leafF s).nb.2.2 ≤ 100000
    rw [n0]; exact ⟨by show s.b + s.w * q ≤ 5000; omega, by show -100000 ≤ q * s.r; omega, by show q * s.r ≤ 100000; omega⟩
  have g0 : Fit (Ru.cnt "times" (-1) (leafF s)).nb := by
    show (leafF s).nb.1 + (leafF s).nb.2.1 ≤ 5000 ∧ -100000 ≤ -1 * (leafF s).nb.2.2 ∧ -1 * (leafF s).nb.2.2 ≤ 100000
    rw [n0]; exact ⟨by show s.b + s.w ≤ 5000; omega, by show -100000 ≤ -1 * s.r; omega, by show -1 * s.r ≤ 100000; omega⟩
  have g1 : Fit (Ru.cnt "share" q (.cnt "times" (-1) (leafF s))).nb := by
    show (leafF s).nb.1 + (leafF s).nb.2.1 * q ≤ 5000 ∧ -100000 ≤ -1 * (leafF s).nb.2.2 ∧ -1 * (leafF s).nb.2.2 ≤ 100000
    rw [n0]; exact ⟨by show s.b + s.w * q ≤ 5000; omega, by show -100000 ≤ -1 * s.r; omega, by show -1 * s.r ≤ 100000; omega⟩
  have g2 : Fit (Ru.cnt "times" q (.cnt "share" q (.cnt "times" (-1) (leafF s)))).nb := by
    show (leafF s).nb.1 + (leafF s).nb.2.1 * q ≤ 5000 ∧ -100000 ≤ q * (-1 * (leafF s).nb.2.2) ∧ q * (-1 * (leafF s).nb.2.2) ≤ 100000
    rw [n0]; exact ⟨by show s.b + s.w * q ≤ 5000; omega, by show -100000 ≤ q * (-1 * s.r); omega, by show q * (-1 * s.r) ≤ 100000; omega⟩
  have g3 : Fit (Ru.cnt "times" (-1) (.cnt "times" q (.cnt "share" q (.cnt "times" (-1) (leafF s))))).nb := by
    show (leafF s).nb.1 + (leafF s).nb.2.1 * q ≤ 5000 ∧ -100000 ≤ -1 * (q * (-1 * (leafF s).nb.2.2)) ∧ -1 * (q * (-1 * (leafF s).nb.2.2)) ≤ 100000
    rw [n0]; exact ⟨by show s.b + s.w * q ≤ 5000; omega, by show -100000 ≤ -1 * (q * (-1 * s.r)); omega, by show -1 * (q * (-1 * s.r)) ≤ 100000; omega⟩
  have m1 : (Ru.cnt "times" (-1) (leafF s)).All := cnt_all tw (by show (-20 : Int) ≤ -1; decide) (by show (-1 : Int) ≤ 20; decide) lf
  have sh : ∀ {a : Ru}, a.All → (Ru.cnt "share" q a).All := fun ha => cnt_all sw (by show (1 : Int) ≤ q; omega) (by show q ≤ (20 : Int); omega) ha
  have ti : ∀ {a : Ru}, a.All → (Ru.cnt "times" q a).All := fun ha => cnt_all tw (by show (-20 : Int) ≤ q; omega) (by show q ≤ (20 : Int); omega) ha
  have me : ∀ {a : Ru}, a.All → (Ru.cnt "times" (-1) a).All := fun ha => cnt_all tw (by show (-20 : Int) ≤ -1; decide) (by show (-1 : Int) ≤ 20; decide) ha
  exact ⟨⟨ti (sh lf), (by decide : (3 : Nat) ≤ 30), (by decide : (3 : Nat) ≤ 8)⟩, ⟨.inl rfl, f2, .inr (.inl rfl), f1, trivial⟩, ⟨me (ti (sh m1)), (by decide : (5 : Nat) ≤ 30), (by decide : (5 : Nat) ≤ 8)⟩, ⟨.inl rfl, g3, .inl rfl, g2, .inr (.inl rfl), g1, .inl rfl, g0, trivial⟩⟩

theorem law_are_rules_right_ok (hF : 10000 ≤ F) (h : L68 s q) : run prL F (k + 13) C (.fn 90) [.p s.d, .p (.int q)] M = .ok (.p (.bool true)) M := by
  have ok := h.k.ok
  have b0 := ok.b0
  have w0 := ok.w0
  have b4 := h.k.b4
  have w4 := h.k.w4
  have q1 := h.k.q1
  have q12 := h.q12
  have r30 := h.r30
  have q0 : 0 < q := by omega
  have bw := h.k.bw
  obtain ⟨t1, t2, c, hc⟩ := tn_spec q0 s.r
  have tl := Int.mul_le_mul_of_nonneg_left t2 (show 0 ≤ s.w by omega)
  have wq := Int.mul_le_mul w4 q12 (by omega) (by omega)
  obtain ⟨o1, p1, o2, p2⟩ := h.rules
  have e1 : (Ru.cnt "times" q (.cnt "share" q (leafF s))).fo = canFF fun n => rdI .down q (s.at n) := canFF_congr fun n hn => by
    show q * ((leafF s).pr n / q) = s.at n / q * q
    rw [leafF_at ok, Int.mul_comm]
  have e2 : (Ru.cnt "times" (-1) (.cnt "times" q (.cnt "share" q (.cnt "times" (-1) (leafF s))))).fo = canFF fun n => rdI .up q (s.at n) := canFF_congr fun n hn => by
    show -1 * (q * ((-1 * (leafF s).pr n) / q)) = _
    rw [leafF_at ok, rd_upneg q0]
  have f1 := fun k C M => (form_of_plain (F := F) (k := k) (C := C) (M := M) hF o1 p1).2
  have f2 := fun k C M => (form_of_plain (F := F) (k := k) (C := C) (M := M) hF o2 p2).2
  rw [e1] at f1
  rw [e2] at f2
  have g1 := fun k C M => rounded_form_ok (F := F) (k := k) (C := C) (M := M) (y := .down) hF ok q1 h.k.r1 (by omega)
  have g2 := fun k C M => rounded_form_ok (F := F) (k := k) (C := C) (M := M) (y := .up) hF ok q1 h.k.r1 (by omega)
  have cs := canF (dp_shared ok (k := q) q0) (by omega) (by omega)
  have sr := ratio_le cs.cr cs.ok.w0 cs.cwle (show (0 : Int) ≤ 30 by omega) r30
  have sh := fun k C M => shared_ok (F := F) (k := k) (C := C) (M := M) hF ok (q := q) (by omega) (by omega)
  have sc := fun k C M => scaled_ok (F := F) (k := k) (C := C) (M := M) hF cs.ok (q := q) (by omega) (by omega)
  have e3 : canFF (fun n => q * (canFF fun n => s.at n / q).at n) = canFF fun n => rdI .down q (s.at n) := canFF_congr fun n hn => by
    rw [cs.at_ n hn, Int.mul_comm]
    rfl
  rw [e3] at sc
  have wd : Wy.down.w = "down" := rfl
  have wu : Wy.up.w = "up" := rfl
  rw [wd] at g1
  rw [wu] at g2
  have d1 := (rd_of h.k .down).can.ok
  have d2 := (rd_of h.k .up).can.ok
  have t1 : PyData.tuple [.str "list", .tuple (s.pr.map .int), .int s.w, .int s.r] = (leafF s).d := rfl
  have t2 : PyData.tuple [.str "times", .int q, .tuple [.str "share", .int q, (leafF s).d]] = (Ru.cnt "times" q (.cnt "share" q (leafF s))).d := rfl
  have t3 : PyData.tuple [.str "times", .int (-1), .tuple [.str "times", .int q, .tuple [.str "share", .int q, .tuple [.str "times", .int (-1), (leafF s).d]]]] = (Ru.cnt "times" (-1) (.cnt "times" q (.cnt "share" q (.cnt "times" (-1) (leafF s))))).d := rfl
  rw [run_fn (d := d_law_are_rules_right) rfl rfl]
  simp_arith [d_law_are_rules_right, idx_f1, idx_f2, idx_f3, t1, t2, t3, f1, f2, g1, g2, sh, sc, like_ok (sz_form d1), like_ok (sz_form d2)]
/-- steps that are none -/
def badK (b : PyData) : Prop := b = .int 0 ∨ b = .int 101 ∨ b = .none ∨ b = .bool true
theorem within_bad {b : PyData} (h : badK b) : run prL F (k + 2) C (.fn 1) [.p b, .p (.int 1), .p (.int 100)] M = .ok (.p (.bool false)) M := by
  rcases h with rfl | rfl | rfl | rfl
  · rw [is_within_int]; rfl
  · rw [is_within_int]; rfl
  · rw [run_fn (d := d_is_within) rfl rfl]
    simp_arith [d_is_within, is_integer_none]
  · have e : run prL F (k + 1) C (.fn 0) [.p (.bool true)] M = .ok (.p (.bool false)) M := by
      rw [run_fn (d := d_is_integer) rfl rfl]
      simp_arith [d_is_integer]
    rw [run_fn (d := d_is_within) rfl rfl]
    simp_arith [d_is_within, e]
theorem word_price {b : PyData} : run prL F (k + 5) C (.fn 87) [.p .none, .p b, .p (.str "up")] M = .ok (.p (.str "price")) M := by
  have e : run prL F (k + 4) C (.fn 54) [.p .none, .p b, .p (.str "up")] M = .exc ⟨4, []⟩ M := by
    rw [run_fn (d := d_rounded) rfl rfl]
    simp_arith [d_rounded, is_integer_none]
  have hh : ∀ M, hns ⟨4, []⟩ M [⟨[4], some 3, .ife (.and (.isx [0, 1, 2, 3, 4, 5, 6, 7, 8, 9]) (.not (.isx [7]))) (.con (.str "price")) (.con (.str ""))⟩, ⟨[7], some 3, .ife (.and (.isx [0, 1, 2, 3, 4, 5, 6, 7, 8, 9]) (.not (.isx [8]))) (.con (.str "step")) (.con (.str ""))⟩, ⟨[8], some 3, .ife (.isx [0, 1, 2, 3, 4, 5, 6, 7, 8, 9]) (.con (.str "way")) (.con (.str ""))⟩] = .ok (.ret (.p (.str "price"))) M := fun _ => rfl
  rw [run_fn (d := d_law_word) rfl rfl]
  simp_arith [d_law_word, e, hh]
theorem word_step {b : PyData} (h : badK b) : run prL F (k + 5) C (.fn 87) [.p (.int 3), .p b, .p (.str "no")] M = .ok (.p (.str "step")) M := by
  have e0 : run prL F (k + 3) C (.fn 52) [.p b, .p (.str "no")] M = .exc ⟨7, []⟩ M := by
    rw [run_fn (d := d_check_way) rfl rfl]
    simp_arith [d_check_way, within_bad h]
  have e : run prL F (k + 4) C (.fn 54) [.p (.int 3), .p b, .p (.str "no")] M = .exc ⟨7, []⟩ M := by
    rw [run_fn (d := d_rounded) rfl rfl]
    simp_arith [d_rounded, is_integer_int, e0]
  have hh : ∀ M, hns ⟨7, []⟩ M [⟨[4], some 3, .ife (.and (.isx [0, 1, 2, 3, 4, 5, 6, 7, 8, 9]) (.not (.isx [7]))) (.con (.str "price")) (.con (.str ""))⟩, ⟨[7], some 3, .ife (.and (.isx [0, 1, 2, 3, 4, 5, 6, 7, 8, 9]) (.not (.isx [8]))) (.con (.str "step")) (.con (.str ""))⟩, ⟨[8], some 3, .ife (.isx [0, 1, 2, 3, 4, 5, 6, 7, 8, 9]) (.con (.str "way")) (.con (.str ""))⟩] = .ok (.ret (.p (.str "step"))) M := fun _ => rfl
  rw [run_fn (d := d_law_word) rfl rfl]
  simp_arith [d_law_word, e, hh]
theorem word_way {b : PyData} (hq : 1 ≤ q ∧ q ≤ 100) (h : b = .str "Up" ∨ b = .none ∨ b = .int 1 ∨ b = .str "odd") : run prL F (k + 5) C (.fn 87) [.p (.int 3), .p (.int q), .p b] M = .ok (.p (.str "way")) M := by
  have e0 : run prL F (k + 3) C (.fn 52) [.p (.int q), .p b] M = .exc ⟨8, []⟩ M := by
    rcases h with rfl | rfl | rfl | rfl
    · have i1 : isTys (.p (.str "Up")) [.str] = some true := rfl
      have h2 : opCmp .notin (.str "Up") k_WAYS = some true := rfl
      rw [run_fn (d := d_check_way) rfl rfl]
      simp_arith [d_check_way, is_within_t, i1, h2]
    · have i1 : isTys (.p .none) [.str] = some false := rfl
      rw [run_fn (d := d_check_way) rfl rfl]
      simp_arith [d_check_way, is_within_t, i1]
    · have i1 : isTys (.p (.int 1)) [.str] = some false := rfl
      rw [run_fn (d := d_check_way) rfl rfl]
      simp_arith [d_check_way, is_within_t, i1]
    · have i1 : isTys (.p (.str "odd")) [.str] = some true := rfl
      have h2 : opCmp .notin (.str "odd") k_WAYS = some true := rfl
      rw [run_fn (d := d_check_way) rfl rfl]
      simp_arith [d_check_way, is_within_t, i1, h2]
  have e : run prL F (k + 4) C (.fn 54) [.p (.int 3), .p (.int q), .p b] M = .exc ⟨8, []⟩ M := by
    rw [run_fn (d := d_rounded) rfl rfl]
    simp_arith [d_rounded, is_integer_int, e0]
  have hh : ∀ M, hns ⟨8, []⟩ M [⟨[4], some 3, .ife (.and (.isx [0, 1, 2, 3, 4, 5, 6, 7, 8, 9]) (.not (.isx [7]))) (.con (.str "price")) (.con (.str ""))⟩, ⟨[7], some 3, .ife (.and (.isx [0, 1, 2, 3, 4, 5, 6, 7, 8, 9]) (.not (.isx [8]))) (.con (.str "step")) (.con (.str ""))⟩, ⟨[8], some 3, .ife (.isx [0, 1, 2, 3, 4, 5, 6, 7, 8, 9]) (.con (.str "way")) (.con (.str ""))⟩] = .ok (.ret (.p (.str "way"))) M := fun _ => rfl
  rw [run_fn (d := d_law_word) rfl rfl]
  simp_arith [d_law_word, e, hh]
theorem some_any {H : List PyData} (hH : Hand H) {xs : List PyData} (h0 : 0 < xs.length) (h1 : xs.length ≤ 1000) : ∃ v H2, Hand H2 ∧ v ∈ xs ∧ ∀ k C R, run prL F (k + 2) C (.fn 76) [.loc 0, .p (.list xs)] (H :: R) = .ok (.p v) (H2 :: R) := by
  obtain ⟨a, H1, hH1, a0, a1, r1⟩ := draw_ok (F := F) hH (n := (xs.length : Int)) (by omega)
  have hl : a.toNat < xs.length := by omega
  have e : L2.atI xs a = some xs[a.toNat] := by
    rw [atI_int a0, List.getElem?_eq_getElem hl]
  refine ⟨xs[a.toNat], H1, hH1, List.getElem_mem _, fun k C R => ?_⟩
  rw [run_fn (d := d_law_some) rfl rfl]
  simp_arith [d_law_some, r1, e, take_H2]

end


/-! ### XF68_k68 -/

/-! k68: the law. -/
section
variable {k : Nat} {C : List Clo} {M : Mem} {s r t : FF} {p q n j : Int} {y z : Wy}
theorem lstR_68 {ds : List D} {xs : List PyData} (h : allP ds = some xs) (hl : xs.length ≤ 1000000) : lstR ds M = .ok (.p (.list xs)) M := by
  unfold lstR
  rw [h]
  exact if_pos (Nat.le_trans hl line_big)
def wls : List PyData := [.str "up", .str "down", .str "near", .str "even"]
theorem wls_y {v : PyData} (h : v ∈ wls) : ∃ z : Wy, v = .str z.w := by
  simp only [wls, List.mem_cons, List.not_mem_nil, or_false] at h
  rcases h with rfl | rfl | rfl | rfl
  · exact ⟨.up, rfl⟩
  · exact ⟨.down, rfl⟩
  · exact ⟨.near, rfl⟩
  · exact ⟨.even, rfl⟩
theorem sz_lst {xs : List Int} (h : xs.length ≤ 40000) : Sz (.list (xs.map .int)) := ⟨xs.length + 1, by omega, .lst (lkA_ints xs)⟩
theorem str_ne {w : Str} (h : PyData.strOk w = true) : opCmp .ne (.str w) (.str w) = some false := cmpne_str h

theorem law_own68 (h : s.Ok) : run prL F (k + 3) C (.fn 82) [.p s.d] M = .ok (.p (canFF s.at).d) M := by
  have e := law_least_ok (F := F) (k := k) (C := C) (M := M) h.dp h.le h.rb
  have e2 : tabF s.at s.b s.w s.r = s := by unfold tabF; rw [FF.row h]
  rw [e2] at e
  exact e
theorem rnd_4 {a u d b e : Int} (h1 : rdI .up 10 a = u) (h2 : rdI .down 10 a = d) (h3 : rdI .near 10 a = b) (h4 : rdI .even 10 a = e) {x0 x1 x3 x4 x5 x6 x7 x8 x9 : Option D} {e1 : CE} (he : ∀ σ M, evE (gOf prL F (k + 4) C) e1 σ M = .ok (.p (.int a)) M) :
    evE (gOf prL F (k + 4) C) (.comp (.one 3) .seq [.var 2] [] [9, 3] (.call 54 [e1, .int 10, .var 3])) [x0, x1, some (.p (.list wls)), x3, x4, x5, x6, x7, x8, x9] M = .ok (.p (.list ([u, d, b, e].map .int))) M := by
  have q10 : (1 : Int) ≤ 10 ∧ (10 : Int) ≤ 100 := by decide
  have r1 := fun k C M => rounded_ok (F := F) (k := k) (C := C) (M := M) (p := a) (y := .up) q10
  have r2 := fun k C M => rounded_ok (F := F) (k := k) (C := C) (M := M) (p := a) (y := .down) q10
  have r3 := fun k C M => rounded_ok (F := F) (k := k) (C := C) (M := M) (p := a) (y := .near) q10
  have r4 := fun k C M => rounded_ok (F := F) (k := k) (C := C) (M := M) (p := a) (y := .even) q10
  rw [h1, show Wy.up.w = "up" from rfl] at r1
  rw [h2, show Wy.down.w = "down" from rfl] at r2
  rw [h3, show Wy.near.w = "near" from rfl] at r3
  rw [h4, show Wy.even.w = "even" from rfl] at r4
  rw [comp_one (M1 := M) (ds := [.p (.list wls)]) (xs := wls) (f := fun x => match x with | .str w => (if w = "up" then .int u else if w = "down" then .int d else if w = "near" then .int b else .int e) | _ => .none)]
  · rfl
  · simp_arith []
  · exact it_l
  · show 4 ≤ sizeLine
    decide
  · intro x hx M'
    simp only [wls, List.mem_cons, List.not_mem_nil, or_false] at hx
    rcases hx with rfl | rfl | rfl | rfl
    · (simp_arith [he, r1]) <;> rfl
    · (simp_arith [he, r2]) <;> rfl
    · (simp_arith [he, r3]) <;> rfl
    · (simp_arith [he, r4]) <;> rfl
def lawB : List CS := [.parN [5, 6, 7] [.call 84 [.var 1, .int 30], .bin .add (.int 1) (.call 75 [.var 1, .int 12]), .call 77 [.var 1]], .ite (.cmp .eq (.call 75 [.var 1, .int 8]) (.int 0)) [.parN [5, 6, 7] [.tup [.idx (.var 5) (.int 0), .int 1, .bin .mul (.int 25) (.idx (.var 5) (.int 2)), .slc (.idx (.var 5) (.int 3)) [] [.bin .add (.idx (.var 5) (.int 0)) (.int 1)]], .int 100, .bin .div (.var 7) (.int 1000)]] [], .ite (.not (.call 79 [.call 17 [.var 5], .call 82 [.var 5]])) [.ret (.bl false)] [], .for_ (.one 3) .seq [.var 2] [.ite (.or (.not (.call 88 [.var 5, .var 6, .var 3, .var 7])) (.not (.call 89 [.var 5, .var 6, .var 3, .call 76 [.var 1, .var 2]]))) [.ret (.bl false)] []], .ite (.and (.cmp .le (.var 6) (.int 20)) (.not (.call 90 [.var 5, .var 6]))) [.ret (.bl false)] [], .asg 8 (.call 76 [.var 1, .lst [.int 0, .int 101, .non, .bl true]]), .ite (.or (.cmp .ne (.call 87 [.non, .var 8, .str "up"]) (.str "price")) (.cmp .ne (.call 87 [.int 3, .var 8, .str "no"]) (.str "step"))) [.ret (.bl false)] [], .ite (.cmp .ne (.call 87 [.int 3, .var 6, .call 76 [.var 1, .lst [.str "Up", .non, .int 1, .str "odd"]]]) (.str "way")) [.ret (.bl false)] []]
def wayB : List CS := [.ite (.or (.not (.call 88 [.var 5, .var 6, .var 3, .var 7])) (.not (.call 89 [.var 5, .var 6, .var 3, .call 76 [.var 1, .var 2]]))) [.ret (.bl false)] []]
theorem way_loop (hF : 10000 ≤ F) (h : K68 t q) (hn : 0 ≤ n) (x0 x4 x8 x9 : Option D) : ∀ (ys : List Wy) (H : List PyData) (x3 : Option D), Hand H → ∃ H2 y3, Hand H2 ∧
    forG (gOf prL F 19 []) (.one 3) wayB (ys.map fun y => .str y.w) [x0, some (.loc 0), some (.p (.list wls)), x3, x4, some (.p t.d), some (.p (.int q)), some (.p (.int n)), x8, x9] [H] =
      .ok (.nx [x0, some (.loc 0), some (.p (.list wls)), y3, x4, some (.p t.d), some (.p (.int q)), some (.p (.int n)), x8, x9]) [H2]
  | [], H, x3, hH => ⟨H, x3, hH, rfl⟩
  | y :: ys, H, x3, hH => by
    obtain ⟨v, H1, hH1, hv, r1⟩ := some_any (F := F) hH (xs := wls) (by decide) (by decide)
    obtain ⟨z, rfl⟩ := wls_y hv
    obtain ⟨H2, y3, hH2, ih⟩ := way_loop hF h hn x0 x4 x8 x9 ys H1 (some (.p (.str y.w))) hH1
    have w1 := fun M => law_is_way_right_ok (F := F) (k := 10) (C := []) (M := M) (y := y) hF h hn
    have w2 := fun M => law_two_right68 (F := F) (k := 10) (C := []) (M := M) (y := y) (z := z) hF h
    refine ⟨H2, y3, hH2, ?_⟩
    rw [List.map_cons, forG_cons (σ1 := [x0, some (.loc 0), some (.p (.list wls)), some (.p (.str y.w)), x4, some (.p t.d), some (.p (.int q)), some (.p (.int n)), x8, x9]) rfl]
    unfold wayB at ih ⊢
    simp_arith [r1, w1, w2]
    exact ih
theorem law_tail (hF : 10000 ≤ F) (h : K68 t q) (h2 : q ≤ 20 → L68 t q) (hn : 0 ≤ n) {H : List PyData} (hH : Hand H) (x0 x3 x4 x8 x9 : Option D) : ∃ H2 y3 y8, Hand H2 ∧
    evSs (gOf prL F 19 []) (lawB.drop 2) [x0, some (.loc 0), some (.p (.list wls)), x3, x4, some (.p t.d), some (.p (.int q)), some (.p (.int n)), x8, x9] [H] = .ok (.nx [x0, some (.loc 0), some (.p (.list wls)), y3, x4, some (.p t.d), some (.p (.int q)), some (.p (.int n)), y8, x9]) [H2] := by
  obtain ⟨H1, y3, hH1, wl⟩ := way_loop (F := F) hF h hn x0 x4 x8 x9 [.up, .down, .near, .even] H x3 hH
  have we : [Wy.up, .down, .near, .even].map (fun y => PyData.str y.w) = wls := rfl
  rw [we] at wl
  obtain ⟨b, H2, hH2, hb, r1⟩ := some_any (F := F) hH1 (xs := [.int 0, .int 101, .none, .bool true]) (by decide) (by decide)
  obtain ⟨v, H3, hH3, hv, r2⟩ := some_any (F := F) hH2 (xs := [.str "Up", .none, .int 1, .str "odd"]) (by decide) (by decide)
  have bk : badK b := by
    simp only [List.mem_cons, List.not_mem_nil, or_false] at hb
    exact hb
  have vk : v = .str "Up" ∨ v = .none ∨ v = .int 1 ∨ v = .str "odd" := by
    simp only [List.mem_cons, List.not_mem_nil, or_false] at hv
    exact hv
  have ok := h.ok
  have wp := fun C M => word_price (F := F) (k := 14) (C := C) (M := M) (b := b)
  have ws := fun C M => word_step (F := F) (k := 14) (C := C) (M := M) bk
  have ww := fun C M => word_way (F := F) (k := 14) (C := C) (M := M) h.q1 vk
  refine ⟨H3, y3, some (.p b), hH3, ?_⟩
  have sp : PyData.strOk "price" = true := by decide +kernel
  have ss : PyData.strOk "step" = true := by decide +kernel
  have sw : PyData.strOk "way" = true := by decide +kernel
  have la : ∀ M, lstR [.p (.int 0), .p (.int 101), .p .none, .p (.bool true)] M = .ok (.p (.list [.int 0, .int 101, .none, .bool true])) M := fun M => lstR_68 rfl (by decide)
  have lb : ∀ M, lstR [.p (.str "Up"), .p .none, .p (.int 1), .p (.str "odd")] M = .ok (.p (.list [.str "Up", .none, .int 1, .str "odd"])) M := fun M => lstR_68 rfl (by decide)
  unfold wayB at wl
  by_cases z : q ≤ 20
  · have rr := fun M => law_are_rules_right_ok (F := F) (k := 6) (C := []) (M := M) hF (h2 z)
    unfold lawB
    simp_arith [List.drop_succ_cons, List.drop_zero, least_ok hF ok, law_own68 ok, like_ok (sz_form ok.can.ok), it_l, wl, z, rr, la, lb, r1, r2, wp, ws, ww, str_ne sp, str_ne ss, str_ne sw]
  · unfold lawB
    simp_arith [List.drop_succ_cons, List.drop_zero, least_ok hF ok, law_own68 ok, like_ok (sz_form ok.can.ok), it_l, wl, z, la, lb, r1, r2, wp, ws, ww, str_ne sp, str_ne ss, str_ne sw]
theorem tn_100 (x : Int) (h : -30 ≤ x ∧ x ≤ 30) : -9999 ≤ 25 * x * tnI 100 (25 * x) ∧ 25 * x * tnI 100 (25 * x) ≤ 9999 := by
  by_cases z : x = 0
  · subst z
    rw [show 25 * (0 : Int) = 0 by decide, Int.zero_mul]
    omega
  · obtain ⟨t1, _, _⟩ := tn_spec (q := 100) (by omega) (25 * x)
    have t8 : tnI 100 (25 * x) ≤ 8 := by
      unfold tnI
      have d : (25 : Int) ∣ (Int.gcd (2 * 100) ((25 * x).natAbs : Int) : Nat) := Int.dvd_coe_gcd (by decide) (Int.dvd_natAbs.mpr (Int.dvd_mul_right ..))
      have g0 : (0 : Int) < (Int.gcd (2 * 100) ((25 * x).natAbs : Int) : Nat) := by
        have h1 : 0 < Int.gcd (2 * 100) ((25 * x).natAbs : Int) := Int.gcd_pos_of_ne_zero_left _ (by decide)
        omega
      have l := Int.le_of_dvd g0 d
      have := (Int.ediv_lt_iff_lt_mul g0).mpr (show (2 : Int) * 100 < 9 * ((Int.gcd (2 * 100) ((25 * x).natAbs : Int) : Nat) : Int) by omega)
      omega
    have a1 := Int.mul_le_mul_of_nonneg_right (show 25 * x ≤ 750 by omega) (show 0 ≤ tnI 100 (25 * x) by omega)
    have a2 := Int.mul_le_mul_of_nonneg_right (show -750 ≤ 25 * x by omega) (show 0 ≤ tnI 100 (25 * x) by omega)
    omega
theorem law_turn (hF : 10000 ≤ F) {H : List PyData} (hH : Hand H) (x0 x3 x4 x5 x6 x7 x8 x9 : Option D) : ∃ H2 y3 y5 y6 y7 y8, Hand H2 ∧
    evSs (gOf prL F 19 []) lawB [x0, some (.loc 0), some (.p (.list wls)), x3, x4, x5, x6, x7, x8, x9] [H] = .ok (.nx [x0, some (.loc 0), some (.p (.list wls)), y3, x4, y5, y6, y7, y8, x9]) [H2] := by
  obtain ⟨s, H1, hH1, ok, b4, w4, r30, p30, r1⟩ := law_form_ok (F := F) hH (great := 30) (by omega)
  obtain ⟨c, H2, hH2, c0, c1, r2⟩ := draw_ok (F := F) hH1 (n := 12) (by omega)
  obtain ⟨n, H3, hH3, n0, r3⟩ := great_ok (F := F) hH2
  obtain ⟨d, H4, hH4, d0, d1, r4⟩ := draw_ok (F := F) hH3 (n := 8) (by omega)
  have b0 := ok.b0
  have w0 := ok.w0
  have len := ok.len
  have SP : ∀ σ M, evSs (gOf prL F 19 []) lawB σ M = (evSs (gOf prL F 19 []) (lawB.take 2) σ M).bind fun f M1 => seqR f (evSs (gOf prL F 19 []) (lawB.drop 2)) M1 := fun σ M => evSs_app 2
  by_cases z : d = 0
  · -- the step is a hundred
    obtain ⟨t, ht⟩ : ∃ t : FF, t = ⟨s.b, 1, 25 * s.r, s.pr.take (s.b + 1).toNat⟩ := ⟨_, rfl⟩
    have tok : t.Ok := by
      subst ht
      exact ⟨b0, Int.zero_lt_one, by show ((s.pr.take (s.b + 1).toNat).length : Int) = s.b + 1; rw [List.length_take]; omega, by show s.b + 1 ≤ 5000; omega, by show -1000000000000000 ≤ 25 * s.r ∧ 25 * s.r ≤ 1000000000000000; omega⟩
    have tk : K68 t 100 := by
      subst ht
      exact ⟨tok, by omega, by show s.b + 1 * (2 * 100) ≤ 300; omega, b4, by show (1 : Int) ≤ 4; omega, tn_100 s.r r30, by show -9999 ≤ 25 * s.r ∧ 25 * s.r ≤ 9999; omega⟩
    obtain ⟨H5, y3, y8, hH5, e⟩ := law_tail (F := F) hF tk (fun h => absurd h (by decide)) (n := n / 1000) (Int.ediv_nonneg n0 (by decide)) hH4 x0 x3 x4 x8 x9
    refine ⟨H5, y3, some (.p t.d), some (.p (.int 100)), some (.p (.int (n / 1000))), y8, hH5, ?_⟩
    rw [SP]
    have ct : cut (s.pr.map PyData.int) none (some (s.b + 1)) = (s.pr.take (s.b + 1).toNat).map .int := by rw [cut_to (by omega), List.map_take]
    have td : PyData.tuple [.int s.b, .int 1, .int (25 * s.r), .tuple ((s.pr.take (s.b + 1).toNat).map .int)] = t.d := by rw [ht]; rfl
    have E : evSs (gOf prL F 19 []) (lawB.take 2) [x0, some (.loc 0), some (.p (.list wls)), x3, x4, x5, x6, x7, x8, x9] [H] = .ok (.nx [x0, some (.loc 0), some (.p (.list wls)), x3, x4, some (.p t.d), some (.p (.int 100)), some (.p (.int (n / 1000))), x8, x9]) [H4] := by
      unfold lawB
      simp_arith [List.take_succ_cons, List.take_zero, r1, r2, r3, r4, z, idx_f0, idx_f2, idx_f3, ct, td]
    rw [E, bind_ok, seq_nx, e]
  · have q1 : 1 ≤ 1 + c ∧ 1 + c ≤ 100 := by omega
    have w2 := Int.mul_le_mul w4 (show 2 * (1 + c) ≤ 24 by omega) (by omega) (by omega)
    obtain ⟨t1, t2, _⟩ := tn_spec (q := 1 + c) (by omega) s.r
    have a1 := Int.mul_le_mul_of_nonneg_right r30.2 (show 0 ≤ tnI (1 + c) s.r by omega)
    have a2 := Int.mul_le_mul_of_nonneg_right r30.1 (show 0 ≤ tnI (1 + c) s.r by omega)
    have sk : K68 s (1 + c) := ⟨ok, q1, by omega, b4, w4, by omega, by omega⟩
    obtain ⟨H5, y3, y8, hH5, e⟩ := law_tail (F := F) hF sk (fun _ => ⟨sk, by omega, r30, p30⟩) n0 hH4 x0 x3 x4 x8 x9
    refine ⟨H5, y3, some (.p s.d), some (.p (.int (1 + c))), some (.p (.int n)), y8, hH5, ?_⟩
    rw [SP]
    have E : evSs (gOf prL F 19 []) (lawB.take 2) [x0, some (.loc 0), some (.p (.list wls)), x3, x4, x5, x6, x7, x8, x9] [H] = .ok (.nx [x0, some (.loc 0), some (.p (.list wls)), x3, x4, some (.p s.d), some (.p (.int (1 + c))), some (.p (.int n)), x8, x9]) [H4] := by
      unfold lawB
      simp_arith [List.take_succ_cons, List.take_zero, r1, r2, r3, r4, z]
    rw [E, bind_ok, seq_nx, e]
theorem law_ok (hF : 10000 ≤ F) (ns : List Int) (hl : ns.length ≤ 63) : ∃ M, run prL F 20 [] (.fn 91) [.scr (ns.map .int)] [] = .ok (.p (.bool true)) M := by
  obtain ⟨H, hH, r0⟩ := hand_ok (F := F) (k := 18) (C := []) ns hl
  refine ⟨[], ?_⟩
  have c1 : ∀ M x0 x1 x3 x4 x5 x6 x7 x8 x9, evE (gOf prL F 19 []) (.comp (.one 3) .seq [.var 2] [] [9, 3] (.call 54 [.int 15, .int 10, .var 3])) [x0, x1, some (.p (.list wls)), x3, x4, x5, x6, x7, x8, x9] M = .ok (.p (.list ([20, 10, 20, 20].map .int))) M := fun M _ _ _ _ _ _ _ _ _ => rnd_4 (k := 15) (a := 15) (by decide) (by decide) (by decide) (by decide) (fun _ _ => by simp_arith [])
  have c2 : ∀ M x0 x1 x3 x4 x5 x6 x7 x8 x9, evE (gOf prL F 19 []) (.comp (.one 3) .seq [.var 2] [] [9, 3] (.call 54 [.bin .sub (.int 0) (.int 25), .int 10, .var 3])) [x0, x1, some (.p (.list wls)), x3, x4, x5, x6, x7, x8, x9] M = .ok (.p (.list ([-20, -30, -20, -20].map .int))) M := fun M _ _ _ _ _ _ _ _ _ => rnd_4 (k := 15) (a := -25) (by decide) (by decide) (by decide) (by decide) (fun _ _ => by simp_arith [])
  have l4 : ∀ M, lstR [.p (.str "up"), .p (.str "down"), .p (.str "near"), .p (.str "even")] M = .ok (.p (.list wls)) M := fun M => lstR_68 rfl (by decide)
  have l5 : ∀ M, lstR [.p (.int 20), .p (.int 10), .p (.int 20), .p (.int 20)] M = .ok (.p (.list ([20, 10, 20, 20].map .int))) M := fun M => lstR_68 rfl (by decide)
  have l6 : ∀ M, lstR [.p (.int (-20)), .p (.int (-30)), .p (.int (-20)), .p (.int (-20))] M = .ok (.p (.list ([-20, -30, -20, -20].map .int))) M := fun M => lstR_68 rfl (by decide)
  have z1 : Sz (.list ([20, 10, 20, 20].map .int)) := sz_lst (by decide)
  have z2 : Sz (.list ([-20, -30, -20, -20].map .int)) := sz_lst (by decide)
  have k1 := fun k C M => like_ok (F := F) (k := k) (C := C) (M := M) z1
  have k2 := fun k C M => like_ok (F := F) (k := k) (C := C) (M := M) z2
  generalize hA : ([20, 10, 20, 20] : List Int).map PyData.int = A at c1 l5 k1
  generalize hB : ([-20, -30, -20, -20] : List Int).map PyData.int = B at c2 l6 k2
  rw [run_fn (d := d_law) rfl rfl]
  simp_arith [d_law, r0, l4, c1, c2, l5, l6, k1, k2, it_r1]
  generalize hW : forG _ _ _ _ _ _ = W
  obtain ⟨σ', M', rfl⟩ : ∃ σ' M', W = .ok (.nx σ') M' := by
    rw [← hW]
    obtain ⟨σ', M', e, _⟩ := for_rng (g := gOf prL F 19 []) (tg := 4) (lo := 0) (hi := 2) (b := lawB) (σ := [some (.scr (ns.map .int)), some (.loc 0), some (.p (.list wls)), none, none, none, none, none, none, none]) (M := [H])
      (fun n σ M => ∃ H x3 x4 x5 x6 x7 x8, Hand H ∧ M = [H] ∧ σ = [some (.scr (ns.map .int)), some (.loc 0), some (.p (.list wls)), x3, x4, x5, x6, x7, x8, none]) (by omega) ⟨H, none, none, none, none, none, none, hH, rfl, rfl⟩ (by
        rintro j σ M _ _ ⟨H, x3, x4, x5, x6, x7, x8, hH, rfl, rfl⟩
        obtain ⟨H2, z3, z5, z6, z7, z8, hH2, e⟩ := law_turn (F := F) hF hH (some (.scr (ns.map .int))) x3 (some (.p (.int j))) x5 x6 x7 x8 none
        exact ⟨_, [H2], e, H2, _, _, _, _, _, _, hH2, rfl, rfl⟩)
    exact ⟨σ', M', e⟩
  simp_arith []
  rfl

end


end Pg
end

/-! ## Fin -/
section
set_option Elab.async false
set_option linter.all false
set_option maxRecDepth 100000
set_option maxHeartbeats 0
namespace Pg
open PySem Ev
theorem answer : ∀ ns : List Int, ns.length ≤ 63 → ∃ M, Ev.run prL 100000 20 [] (.fn 91) [.scr (ns.map .int)] [] = .ok (.p (.bool true)) M := fun ns h => law_ok (by decide) ns h
end Pg
open PySem PySem.W PySem.Calls PyProof.Rows
theorem PySem.Challenge.cw_pricesforever_k68_whole_prices_rounded_f_holds : PySem.Challenge.rw_pricesforever_k68_whole_prices_rounded_f.Holds := by
  w_on; o_law
  refine HandSHeadRun.head_any (r := OpenLaw.row PySem.Challenge.rw_pricesforever_k68_whole_prices_rounded_f) (q := view (OpenLaw.row PySem.Challenge.rw_pricesforever_k68_whole_prices_rounded_f).prog [125]) (H := Hd.hk) (ob := Hd.ob) (M := 12000) (loose := Hd.loose) (d := HandSHeadRun.topDef (OpenLaw.row PySem.Challenge.rw_pricesforever_k68_whole_prices_rounded_f).prog 125) (kwd := []) Hd.ob_eq
    (by kernel_rfl) (fun s => by kernel_rfl) Hd.run (by kernel_rfl) (by kernel_rfl) (by kernel_rfl) (by rfl) (by first | assumption | decide +kernel) (by decide +kernel) ⟨rfl, rfl, rfl, rfl, rfl, by decide +kernel⟩ ?hw ?hc
  case hw => w_witness2
  case hc =>
    refine LamX.walk_ofTsE (l := PySem.Challenge.rw_pricesforever_k68_whole_prices_rounded_f) (n := 63) (k := 22) (x := "script") (CX := fun w => L2.CX (PySem.Challenge.rw_pricesforever_k68_whole_prices_rounded_f).prog w) rfl (by decide) (by kernel_rfl) ⟨rfl, by decide, by decide⟩ ?F (fun w H s e s' z => ?no)
    case no =>
      obtain ⟨_, _, _, _, _, _, _, _, _, _, _, _, z⟩ := z
      exact z
    intro w mg fa h Y G hmg0
    obtain ⟨K, KX, c⟩ := Y
    have hmg : mg ("law" : PySem.Str) = some (.ref fa) := by
      have e : (HandSHeadRun.topDef (OpenLaw.row PySem.Challenge.rw_pricesforever_k68_whole_prices_rounded_f).prog 125).name = ("law" : PySem.Str) := by kernel_rfl
      rw [← e]
      exact hmg0
    exact ⟨K, KX, Ev.law_from (p := Pg.P) (fuel := 100000) (gl := 91) (lw := Pg.dis.getD 91 ⟨Str.empty, 0, [], [], false, ⟨0, 0, false, []⟩⟩) Pg.all_ok Pg.all_bd Pg.all_ini Pg.all_bdi rfl rfl KX G c hmg Pg.answer⟩

end
