import PyProof.Rows.All
import Wide.All
import OpenK.AllK
import Wide.FinOn
import KE.DataIsa
import KE.DataAny
import HandS.ForMost
import HandS.Wide
import HandS.Gcd
import KE.DataCmp
import KE.SortData
import KE.KeyNested
import HandS.TupSets
import KE.KDictKeyed
import PyProof.WalksMore
import HandS.SetFor
import HandS.Strs
import HandS.TupAny
import HandS.TupMul
import HandS.Conv
import HandS.Style
import PyProof.ListMulAny
import HandS.Deep
import PyProof.Rows.InDataRows
import HandS.Defaults
import HandS.HeadHook2
import HandS.Zip
import KE.GoesNew
import HandS.Codes
import HandS.Ends
import HandS.EndBits
import HandS.Head3
import PyProof.ReprLen
import PyProof.Rows.ReprOcc
import PyProof.Rows.RegStrFacts
import PySem.Challenge.RW_hiddenrates_k02_whole_nets_of_anything
set_option Elab.async false
set_option linter.all false
set_option maxRecDepth 100000
/-! PV, part A: a small language (IR) for pure Python over PyData, and its evaluator. Lists, dicts that a def changes live in slots of the def ("own"); everything else is a value. -/
namespace PV
open PySem
abbrev D := PyData
/-- a place of a frame: empty, a value, a list or dict that the def may change -/
inductive Slot where
  | non
  | val (d : D)
  | own (d : D)
abbrev Fram := List Slot
structure Exc where
  cls : Str
  arg : D
inductive Res (A : Type) where
  | ok (a : A)
  | exc (x : Exc) (e : Fram)
  | bad
def Res.bind {A B : Type} (r : Res A) (f : A → Res B) : Res B := match r with
  | .ok a => f a
  | .exc x e => .exc x e
  | .bad => .bad
@[simp] theorem bind_ok {A B : Type} (a : A) (f : A → Res B) : (Res.ok a).bind f = f a := rfl
@[simp] theorem bind_exc {A B : Type} (x : Exc) (e : Fram) (f : A → Res B) : (Res.exc x e : Res A).bind f = .exc x e := rfl
@[simp] theorem bind_bad {A B : Type} (f : A → Res B) : (Res.bad : Res A).bind f = .bad := rfl
/-- an option as a result -/
def opt {A : Type} : Option A → Res A
  | some a => .ok a
  | none => .bad
@[simp] theorem opt_some {A : Type} (a : A) : opt (some a) = .ok a := rfl
@[simp] theorem opt_none {A : Type} : opt (none : Option A) = .bad := rfl
/-- an exception is not let out -/
def noExc {A : Type} : Res A → Res A
  | .ok a => .ok a
  | _ => .bad
inductive Bop where
  | add | sub | mul | fdiv | mod | pow | shr | shl | band
inductive Cop where
  | eq | ne | lt | le | gt | ge | isN | notN | inn | notin
inductive Blt where
  | len | abs | max2 | min2 | int1 | str1 | repr | all | any | sum | gcd | divmod | tuple | list | lenset | sorted | sortset | rangel | ranget
inductive Met where
  | get2 | index | join | split
inductive Ty where
  | int | bool | str | tuple | list | dict
inductive Tg where
  | name (i : Nat)
  | tup (ts : List Tg)
mutual
inductive Exp where
  | var (i : Nat)
  | int (i : Int)
  | str (s : Str)
  | bl (b : Bool)
  | non
  | glob (x : Str) (d : D)
  | tup (es : Exs)
  | lst (es : Exs)
  | dict0
  | bin (o : Bop) (a b : Exp)
  | neg (a : Exp)
  | nott (a : Exp)
  | conj (es : Exs)
  | disj (es : Exs)
  | cmp (o : Cop) (a b : Exp)
  | cmp2 (o p : Cop) (a b c : Exp)
  | ite (c a b : Exp)
  | idx (a i : Exp)
  | slice (a : Exp) (lo hi : Exo)
  | rev (a : Exp)
  | call (f : Str) (br : Bool) (es : Exs)
  | callK (f : Str) (br : Bool) (es kes : Exs) (ks : List Str) (perm : List Nat)
  | callJ (f g : Str) (es : Exs)
  | blt (b : Blt) (es : Exs)
  | isi (a : Exp) (t : Ty)
  | meth (m : Met) (o : Exp) (es : Exs)
  | pop (i : Nat)
  | popAt (i : Nat) (e : Exp)
  | comp (elt : Exp) (tg : Tg) (it : Itx) (cs : Exs) (own : List (Str × Nat))
inductive Exs where
  | nil
  | cons (e : Exp) (es : Exs)
inductive Exo where
  | non
  | som (e : Exp)
inductive Itx where
  | seq (e : Exp)
  | range1 (e : Exp)
  | range2 (a b : Exp)
  | zip (a b : Exp)
  | enum (a : Exp)
end
mutual
inductive Stm where
  | expr (e : Exp)
  | set (i : Nat) (e : Exp)
  | own (i : Nat) (e : Exp)
  | unp (ts : List Tg) (e : Exp)
  | par (is : List (Nat × Bool)) (es : Exs)
  | setIx (i : Nat) (ix e : Exp)
  | jar (i : Nat) (ix : Exp) (j : Nat) (e : Exp)
  | append (i : Nat) (e : Exp)
  | extend (i : Nat) (e : Exp)
  | ret (e : Exp)
  | retN
  | iff (c : Exp) (a b : Sts)
  | whil (c : Exp) (b : Sts)
  | forr (tg : Tg) (it : Itx) (b : Sts)
  | brk
  | cont
  | pass
  | never
inductive Sts where
  | nil
  | cons (s : Stm) (ss : Sts)
end
/-! ### values -/
abbrev LINE : Nat := 16777216
def isNoneD : D → Bool
  | .none => true
  | _ => false
def isB : D → Option Bool
  | .bool b => some b
  | _ => none
/-- no list and no dict in it -/
def flat : D → Bool
  | .list _ => false
  | .dict _ => false
  | .tuple xs => flats xs
  | _ => true
where flats : List D → Bool
  | [] => true
  | x :: xs => flat x && flats xs
/-- no dict in it -/
def noDict : D → Bool
  | .dict _ => false
  | .list xs => noDicts xs
  | .tuple xs => noDicts xs
  | _ => true
where noDicts : List D → Bool
  | [] => true
  | x :: xs => noDict x && noDicts xs
def binF : Bop → D → D → Option D
  | .add, .int i, .int j => some (.int (i + j))
  | .add, .str x, .str y => if x.length + y.length ≤ LINE then some (.str (x ++ y)) else none
  | .add, .tuple xs, .tuple ys => if xs.length + ys.length ≤ LINE then some (.tuple (xs ++ ys)) else none
  | .add, .list xs, .list ys => if xs.length + ys.length ≤ LINE then some (.list (xs ++ ys)) else none
  | .sub, .int i, .int j => some (.int (i - j))
  | .mul, .int i, .int j => if i.natAbs.log2 + j.natAbs.log2 < 1000000 then some (.int (i * j)) else none
  | .mul, .list xs, .int j => if -(2 ^ 62) ≤ j ∧ j < 2 ^ 62 ∧ xs.length * j.toNat ≤ LINE then some (.list (List.replicate j.toNat xs).flatten) else none
  | .mul, .tuple xs, .int j => if -(2 ^ 62) ≤ j ∧ j ≤ 1000 ∧ xs.length ≤ 1000 then some (.tuple (List.replicate j.toNat xs).flatten) else none
  | .fdiv, .int i, .int j => if j ≠ 0 ∧ j.natAbs.log2 < 9000 then some (.int (i.fdiv j)) else none
  | .mod, .int i, .int j => if j ≠ 0 then some (.int (i.fmod j)) else none
  | .pow, .int i, .int j => if 0 ≤ j ∧ j ≤ 1000000 ∧ i.natAbs < 2 ^ 64 then some (.int (i ^ j.toNat)) else none
  | .shr, .int i, .int j => if 0 ≤ j then some (.int (i / 2 ^ j.toNat)) else none
  | .shl, .int i, .int j => if 0 ≤ j ∧ j ≤ 1000000 ∧ i.natAbs < 2 ^ 64 then some (.int (i * 2 ^ j.toNat)) else none
  | .band, .int i, .int j => some (.int (Builtin.bitAnd i j))
  | _, _, _ => none
def eqOk (d : D) : Bool := PyData.canLay0 d && decide (PyData.depth d ≤ 64) && noDict d
/-- two data that have an order -/
def ordF (x y : D) (b : Bool) : Option Bool := if PySem.W.alike x y && decide (x.depth ≤ 64) && (noDict x && noDict y) then some b else none
def cmpF : Cop → D → D → Option Bool
  | .eq, x, y => if eqOk x && eqOk y then some (PyData.eqv x y) else match x, y with
    | .tuple xs, .tuple [] => some xs.isEmpty
    | _, _ => none
  | .ne, x, y => if eqOk x && eqOk y then some (!PyData.eqv x y) else none
  | .lt, .int i, .int j => some (decide (i < j))
  | .le, .int i, .int j => some (decide (i ≤ j))
  | .gt, .int i, .int j => some (decide (j < i))
  | .ge, .int i, .int j => some (decide (j ≤ i))
  | .lt, .tuple xs, .tuple ys => ordF (.tuple xs) (.tuple ys) (PySem.W.dataLt (.tuple xs) (.tuple ys))
  | .gt, .tuple xs, .tuple ys => ordF (.tuple xs) (.tuple ys) (PySem.W.dataLt (.tuple ys) (.tuple xs))
  | .le, .tuple xs, .tuple ys => ordF (.tuple xs) (.tuple ys) (!PySem.W.dataLt (.tuple ys) (.tuple xs))
  | .ge, .tuple xs, .tuple ys => ordF (.tuple xs) (.tuple ys) (!PySem.W.dataLt (.tuple xs) (.tuple ys))
  | .inn, x, .list ys => if eqOk x && eqOk (.list ys) then some (ys.any fun y => PyData.eqv y x) else none
  | .inn, x, .tuple ys => if eqOk x && eqOk (.tuple ys) then some (ys.any fun y => PyData.eqv y x) else none
  | .notin, x, .list ys => if eqOk x && eqOk (.list ys) then some (!ys.any fun y => PyData.eqv y x) else none
  | .notin, x, .tuple ys => if eqOk x && eqOk (.tuple ys) then some (!ys.any fun y => PyData.eqv y x) else none
  | _, _, _ => none
/-- the place that an index tells -/
abbrev place (n : Nat) (i : Int) : Option Nat := L2.ixN n i
mutual
/-- a key of a dict -/
def nk? : D → Option NestedKey
  | .none => some .none
  | .int i => some (.num i)
  | .str x => some (.text x)
  | .tuple ds => (nks? ds).map .tup
  | _ => none
def nks? : List D → Option (List NestedKey)
  | [] => some []
  | d :: ds => (nk? d).bind fun k => (nks? ds).map (k :: ·)
end
/-- a tuple that may be a key -/
def key? : D → Option NestedKey
  | .tuple ds => (nk? (.tuple ds)).bind fun k => if k.depth ≤ 8 then some k else none
  | _ => none
def dGet (kvs : List (D × D)) (k : NestedKey) : Option D := (kvs.find? fun p => decide (nk? p.1 = some k)).map (·.2)
def dPut (kvs : List (D × D)) (k : NestedKey) (kd v : D) : List (D × D) := if (dGet kvs k).isSome then kvs.map (fun p => if nk? p.1 = some k then (p.1, v) else p) else kvs ++ [(kd, v)]
def idxF : D → D → Option D
  | .dict kvs, y => (key? y).bind fun k => dGet kvs k
  | .list xs, .int i => (place xs.length i).bind fun j => xs[j]?
  | .tuple xs, .int i => (place xs.length i).bind fun j => xs[j]?
  | _, _ => none
/-- where a slice begins, ends -/
abbrev bound (n d : Nat) (o : Option Int) : Nat := HT.sIx n d o
def cut (xs : List D) (lo hi : Option Int) : List D := (xs.drop (bound xs.length 0 lo)).take (bound xs.length xs.length hi - bound xs.length 0 lo)
def sliceF : D → Option Int → Option Int → Option D
  | .list xs, lo, hi => some (.list (cut xs lo hi))
  | .tuple xs, lo, hi => some (.tuple (cut xs lo hi))
  | _, _, _ => none
def ints? : List D → Option (List Int)
  | [] => some []
  | .int i :: r => (ints? r).map (i :: ·)
  | _ :: _ => none
def bools? : List D → Option (List Bool)
  | [] => some []
  | .bool i :: r => (bools? r).map (i :: ·)
  | _ :: _ => none
/-- each thing once, the first ones -/
def firsts : List D → List D → List D
  | acc, [] => acc
  | acc, x :: xs => if acc.any (fun y => PyData.eqv y x) then firsts acc xs else firsts (acc ++ [x]) xs
def rangeD (i j : Int) : List D := (List.range (j - i).toNat).map fun (k : Nat) => PyData.int (i + (k : Int))
def blt_len : List D → Option D
  | [.list xs] => some (.int xs.length)
  | [.tuple xs] => some (.int xs.length)
  | _ => none
def blt_abs : List D → Option D
  | [.int i] => some (.int (if i < 0 then -i else i))
  | _ => none
def blt_max2 : List D → Option D
  | [.int i, .int j] => some (.int (if j > i then j else i))
  | _ => none
def blt_min2 : List D → Option D
  | [.int i, .int j] => some (.int (if j < i then j else i))
  | _ => none
def blt_int1 : List D → Option D
  | [.int i] => some (.int i)
  | [.bool b] => some (.int (if b then 1 else 0))
  | _ => none
def blt_str1 : List D → Option D
  | [.int i] => if i.natAbs.log2 < 1920 then some (.str (toString i)) else none
  | _ => none
def blt_repr : List D → Option D
  | [d] => if d.showable && !d.hasDict && decide (d.shown.length ≤ LINE) && decide (PyData.depth d ≤ 64) && noDict d then some (.str d.shown) else none
  | _ => none
def blt_all : List D → Option D
  | [.list xs] => (bools? xs).map fun bs => .bool (bs.all id)
  | _ => none
def blt_any : List D → Option D
  | [.list xs] => (bools? xs).map fun bs => .bool (bs.any id)
  | _ => none
def blt_sum : List D → Option D
  | [.list xs] => (ints? xs).map fun ns => .int ns.sum
  | [.tuple xs] => (ints? xs).map fun ns => .int ns.sum
  | _ => none
/-- data that sorted takes: all alike, tuples with items or none of them a tuple -/
def sortOk (xs : List D) : Bool := (xs.all fun x => xs.all fun y => PySem.W.alike x y) && (xs.all fun x => decide (x.depth ≤ 64) && noDict x) && decide (xs.length ≤ LINE) &&
  ((xs.all fun x => match x with
    | .tuple (_ :: _) => true
    | _ => false) || xs.all fun x => match x with
    | .tuple _ => false
    | .none => false
    | _ => true)
def blt_sorted : List D → Option D
  | [.list xs] => if sortOk xs then some (.list (xs.mergeSort (PySem.W.dataLe false id))) else none
  | _ => none
/-- each key once, in the order in which they come -/
def uniqTo (acc : List NestedKey) : List NestedKey → List NestedKey
  | [] => acc
  | k :: ks => if k ∈ acc then uniqTo acc ks else uniqTo (acc ++ [k]) ks
def uniq (ks : List NestedKey) : List NestedKey := uniqTo [] ks
/-- a number put into a row of numbers that rise -/
def insU (k : Int) : List Int → List Int
  | [] => [k]
  | x :: xs => if k < x then k :: x :: xs else if k = x then x :: xs else x :: insU k xs
/-- numbers, each once, rising -/
def sortU : List Int → List Int
  | [] => []
  | x :: xs => insU x (sortU xs)
/-- sorted(set(xs)) -/
def blt_sortset : List D → Option D
  | [.list ds] => (ints? ds).bind fun ns => if ns.length < 64 then some (.list ((sortU ns).map .int)) else none
  | _ => none
/-- tuples that may be keys -/
def keysT : List D → Option (List NestedKey)
  | [] => some []
  | d :: ds => (key? d).bind fun k => (keysT ds).map (k :: ·)
/-- len(set(t)) -/
def blt_lenset : List D → Option D
  | [.tuple ds] => (keysT ds).bind fun ks => if ks.length < 64 then some (.int (uniq ks).length) else none
  | _ => none
/-- list(range(n)), tuple(range(n)) -/
def blt_rangel : List D → Option D
  | [.int n] => if -1000 ≤ n ∧ n ≤ 1000 then some (.list (rangeD 0 n)) else none
  | _ => none
def blt_ranget : List D → Option D
  | [.int n] => if -1000 ≤ n ∧ n ≤ 1000 then some (.tuple (rangeD 0 n)) else none
  | _ => none
def blt_gcd : List D → Option D
  | [.int i, .int j] => some (.int ((Nat.gcd i.natAbs j.natAbs : Nat) : Int))
  | _ => none
def blt_divmod : List D → Option D
  | [.int i, .int j] => if 0 < j ∧ j < 1073741824 then some (.tuple [.int (i / j), .int (i % j)]) else none
  | _ => none
def blt_tuple : List D → Option D
  | [.list xs] => some (.tuple xs)
  | [.tuple xs] => some (.tuple xs)
  | _ => none
def blt_list : List D → Option D
  | [.list xs] => some (.list xs)
  | [.tuple xs] => some (.list xs)
  | _ => none
def bltF : Blt → List D → Option D
  | .len => blt_len
  | .abs => blt_abs
  | .max2 => blt_max2
  | .min2 => blt_min2
  | .int1 => blt_int1
  | .str1 => blt_str1
  | .repr => blt_repr
  | .all => blt_all
  | .any => blt_any
  | .sum => blt_sum
  | .gcd => blt_gcd
  | .divmod => blt_divmod
  | .tuple => blt_tuple
  | .list => blt_list
  | .lenset => blt_lenset
  | .sorted => blt_sorted
  | .sortset => blt_sortset
  | .rangel => blt_rangel
  | .ranget => blt_ranget
def methF : Met → D → List D → Option D
  | _, _, _ => none
def isF : Ty → D → Bool
  | .int, d => d.isInt
  | .bool, d => d.isBool
  | .str, d => d.isStr
  | .tuple, d => d.isTuple
  | .list, d => d.isList
  | .dict, d => d.isDict
/-! ### the evaluator: Ph is what calls of defs do -/
/-- a def of the text: its parameters, slots, whether its first argument is a list that it may change, whether it hands out a new list; its body -/
structure Def where
  name : Str
  params : Nat
  N : List Str
  br : Bool
  fresh : Bool
  body : Sts
/-- what a call gives: the value, the first argument behind it (where it may change) -/
abbrev CallF := Str → List D → Res (D × D)
/-- an operand: a value, or a slot that is looked at when the operation is done -/
inductive Opd where
  | val (d : D)
  | slot (i : Nat)
def look (env : Fram) (i : Nat) : Option D := match env[i]? with
  | some (.val d) => some d
  | some (.own d) => some d
  | _ => none
def deref (env : Fram) : Opd → Option D
  | .val d => some d
  | .slot i => look env i
def derefs (env : Fram) : List Opd → Option (List D)
  | [] => some []
  | o :: r => (deref env o).bind fun d => (derefs env r).map (d :: ·)
def isOwn (env : Fram) (i : Nat) : Bool := match env[i]? with
  | some (.own _) => true
  | _ => false
def isOwnL (env : Fram) (i : Nat) : Bool := match env[i]? with
  | some (.own (.list _)) => true
  | _ => false
/-- an operand: a slot that is the def's own is not read at once -/
def opd (e : Exp) (env : Fram) (r : Res (D × Fram)) : Res (Opd × Fram) := match e with
  | .var i => if isOwn env i then .ok (.slot i, env) else r.bind fun p => .ok (.val p.1, p.2)
  | _ => r.bind fun p => .ok (.val p.1, p.2)
/-- a slot is read for keeps: what was the def's own is so no longer -/
def readVar (i : Nat) (env : Fram) : Res (D × Fram) := match env[i]? with
  | some (.val d) => .ok (d, env)
  | some (.own d) => if i = 0 then .bad else .ok (d, env.set i (.val d))
  | _ => .bad
/-- slots emptied -/
def wipeF (env : Fram) : List Nat → Fram
  | [] => env
  | v :: vs => (wipeF env vs).set v .non
/-- the slots of a comprehension's own names, as they were -/
def restore (env old : Fram) : List Nat → Fram
  | [] => env
  | v :: vs => (restore env old vs).set v (old[v]?.getD .non)
mutual
def store : Tg → D → Fram → Option Fram
  | .name i, d, env => if i < env.length && !isOwn env i then some (env.set i (.val d)) else none
  | .tup ts, .tuple ds, env => stores ts ds env
  | .tup ts, .list ds, env => none
  | _, _, _ => none
def stores : List Tg → List D → Fram → Option Fram
  | [], [], env => some env
  | t :: ts, d :: ds, env => (store t d env).bind (stores ts ds)
  | _, _, _ => none
end
/-- the operands' own slots that are handed to a def as they stand -/
def anySlot : List Opd → Bool
  | [] => false
  | .slot _ :: _ => true
  | .val _ :: r => anySlot r
def zipD : List D → List D → List D
  | x :: xs, y :: ys => .tuple [x, y] :: zipD xs ys
  | _, _ => []
def enumD : Nat → List D → List D
  | _, [] => []
  | k, x :: xs => .tuple [.int k, x] :: enumD (k + 1) xs
def items? : D → Option (List D)
  | .list xs => some xs
  | .tuple xs => some xs
  | _ => none
/-- what a walk yields -/
def walk? : D → Option (List D)
  | .dict kvs => some (kvs.map (·.1))
  | d => items? d
/-- the items one by one: the target, the tests, the element -/
def compLoop (turn : D → Fram → Res (Option D × Fram)) : List D → List D → Fram → Res (List D × Fram)
  | [], acc, env => .ok (acc, env)
  | x :: xs, acc, env => (turn x env).bind fun p => compLoop turn xs (match p.1 with
    | some y => acc ++ [y]
    | none => acc) p.2
/-- the keywords' values in the parameters' order -/
def permV {A : Type} (perm : List Nat) (xs : List A) : List A := perm.filterMap fun i => xs[i]?
section
variable (Ph : CallF)
/-- a call: the operands are looked at when all are there -/
def callE (f : Str) (br : Bool) (os : List Opd) (env : Fram) : Res (D × Fram) := (opt (derefs env os)).bind fun ds => match br with
  | false => (match Ph f ds with
    | .ok (d, _) => if anySlot os && !flat d then .bad else .ok (d, env)
    | .exc x _ => .exc x env
    | .bad => .bad)
  | true => (match os with
    | .slot i :: rest => if (decide (i = 0) && isOwn env 0 && !anySlot rest) = true then (match Ph f ds with
      | .ok (d, d0) => .ok (d, env.set 0 (.own d0))
      | _ => .bad) else .bad
    | _ => .bad)
mutual
def ev : Exp → Fram → Res (D × Fram)
  | .var i, env => readVar i env
  | .int i, env => .ok (.int i, env)
  | .str s, env => .ok (.str s, env)
  | .bl b, env => .ok (.bool b, env)
  | .non, env => .ok (.none, env)
  | .glob _ d, env => .ok (d, env)
  | .tup es, env => (evs es env).bind fun p => .ok (.tuple p.1, p.2)
  | .lst es, env => (evs es env).bind fun p => .ok (.list p.1, p.2)
  | .dict0, env => .ok (.dict [], env)
  | .bin o a b, env => (opd a env (ev a env)).bind fun p => (opd b p.2 (ev b p.2)).bind fun q => (opt (deref q.2 p.1)).bind fun x => (opt (deref q.2 q.1)).bind fun y => (opt (binF o x y)).bind fun z => .ok (z, q.2)
  | .neg a, env => (ev a env).bind fun p => match p.1 with
    | .int i => .ok (.int (-i), p.2)
    | _ => .bad
  | .nott a, env => (ev a env).bind fun p => match p.1 with
    | .bool b => .ok (.bool (!b), p.2)
    | _ => .bad
  | .conj es, env => evAnd es env
  | .disj es, env => evOr es env
  | .cmp .isN a _, env => (opd a env (ev a env)).bind fun p => (opt (deref p.2 p.1)).bind fun x => .ok (.bool (isNoneD x), p.2)
  | .cmp .notN a _, env => (opd a env (ev a env)).bind fun p => (opt (deref p.2 p.1)).bind fun x => .ok (.bool (!isNoneD x), p.2)
  | .cmp o a b, env => (opd a env (ev a env)).bind fun p => (opd b p.2 (ev b p.2)).bind fun q => (opt (deref q.2 p.1)).bind fun x => (opt (deref q.2 q.1)).bind fun y => (opt (cmpF o x y)).bind fun z => .ok (.bool z, q.2)
  | .cmp2 o o' a b c, env => (ev a env).bind fun p => (ev b p.2).bind fun q => (opt (cmpF o p.1 q.1)).bind fun z => match z with
    | false => .ok (.bool false, q.2)
    | true => (ev c q.2).bind fun r => (opt (cmpF o' q.1 r.1)).bind fun z' => .ok (.bool z', r.2)
  | .ite c a b, env => (ev c env).bind fun p => match p.1 with
    | .bool true => ev a p.2
    | .bool false => ev b p.2
    | _ => .bad
  | .idx a i, env => (opd a env (ev a env)).bind fun p => (ev i p.2).bind fun q => (opt (deref q.2 p.1)).bind fun x => (opt (idxF x q.1)).bind fun z => .ok (z, q.2)
  | .slice a lo hi, env => (opd a env (ev a env)).bind fun p => (evo lo p.2).bind fun q => (evo hi q.2).bind fun r => (opt (deref r.2 p.1)).bind fun x => (opt (sliceF x q.1 r.1)).bind fun z => .ok (z, r.2)
  | .rev a, env => (opd a env (ev a env)).bind fun p => (opt (deref p.2 p.1)).bind fun x => match x with
    | .list xs => .ok (.list xs.reverse, p.2)
    | .tuple xs => .ok (.tuple xs.reverse, p.2)
    | _ => .bad
  | .call f br es, env => (evp es env).bind fun p => callE Ph f br p.1 p.2
  | .callK f _ es kes _ perm, env => (evp es env).bind fun p => (evp kes p.2).bind fun q => callE Ph f false (p.1 ++ permV perm q.1) q.2
  | .callJ f g es, env => (evs es env).bind fun p => match Ph g p.1 with
    | .ok (j, _) => (match Ph f [j] with
      | .ok (d, _) => .ok (d, p.2)
      | _ => .bad)
    | _ => .bad
  | .blt b es, env => (evp es env).bind fun p => (opt (derefs p.2 p.1)).bind fun ds => (opt (bltF b ds)).bind fun z => .ok (z, p.2)
  | .isi a t, env => (opd a env (ev a env)).bind fun p => (opt (deref p.2 p.1)).bind fun x => .ok (.bool (isF t x), p.2)
  | .meth m o es, env => (opd o env (ev o env)).bind fun p => (evs es p.2).bind fun q => (opt (deref q.2 p.1)).bind fun x => (opt (methF m x q.1)).bind fun z => .ok (z, q.2)
  | .pop i, env => match env[i]? with
    | some (.own (.list xs)) => (match xs.getLast? with
      | some y => .ok (y, env.set i (.own (.list xs.dropLast)))
      | none => .bad)
    | _ => .bad
  | .popAt i e, env => (ev e env).bind fun p => match p.1, p.2[i]? with
    | .int k, some (.own (.list xs)) => (match place xs.length k with
      | some j => (match xs[j]? with
        | some y => .ok (y, p.2.set i (.own (.list (xs.eraseIdx j))))
        | none => .bad)
      | none => .bad)
    | _, _ => .bad
  | .comp elt tg it cs own, env => (evIt it env).bind fun p => if ((own.map (·.2)).all fun v => !isOwn p.2 v) && decide (p.1.length ≤ LINE) then
    (compLoop (fun x e => noExc ((opt (store tg x e)).bind fun e1 => (evTests cs e1).bind fun q => match q.1 with
      | true => (ev elt q.2).bind fun r => .ok (some r.1, wipeF r.2 (own.map (·.2)))
      | false => .ok (none, wipeF q.2 (own.map (·.2))))) p.1 [] (wipeF p.2 (own.map (·.2)))).bind fun r => .ok (.list r.1, restore r.2 p.2 (own.map (·.2))) else .bad
def evs : Exs → Fram → Res (List D × Fram)
  | .nil, env => .ok ([], env)
  | .cons e es, env => (ev e env).bind fun p => (evs es p.2).bind fun q => .ok (p.1 :: q.1, q.2)
/-- arguments as operands -/
def evp : Exs → Fram → Res (List Opd × Fram)
  | .nil, env => .ok ([], env)
  | .cons e es, env => (opd e env (ev e env)).bind fun p => (evp es p.2).bind fun q => .ok (p.1 :: q.1, q.2)
def evo : Exo → Fram → Res (Option Int × Fram)
  | .non, env => .ok (none, env)
  | .som e, env => (ev e env).bind fun p => match p.1 with
    | .int i => .ok (some i, p.2)
    | _ => .bad
def evAnd : Exs → Fram → Res (D × Fram)
  | .nil, _ => .bad
  | .cons e es, env => (ev e env).bind fun p => match p.1 with
    | .bool false => .ok (.bool false, p.2)
    | .bool true => (match es with
      | .nil => .ok (.bool true, p.2)
      | _ => evAnd es p.2)
    | _ => .bad
def evOr : Exs → Fram → Res (D × Fram)
  | .nil, _ => .bad
  | .cons e es, env => (ev e env).bind fun p => match p.1 with
    | .bool true => .ok (.bool true, p.2)
    | .bool false => (match es with
      | .nil => .ok (.bool false, p.2)
      | _ => evOr es p.2)
    | _ => .bad
/-- a comprehension's tests, all -/
def evTests : Exs → Fram → Res (Bool × Fram)
  | .nil, env => .ok (true, env)
  | .cons e es, env => (ev e env).bind fun p => match p.1 with
    | .bool true => evTests es p.2
    | .bool false => .ok (false, p.2)
    | _ => .bad
def evIt : Itx → Fram → Res (List D × Fram)
  | .seq e, env => (ev e env).bind fun p => (opt (walk? p.1)).bind fun xs => .ok (xs, p.2)
  | .range1 e, env => (ev e env).bind fun p => match p.1 with
    | .int j => if -(2 ^ 62) ≤ j ∧ j ≤ LINE then .ok (rangeD 0 j, p.2) else .bad
    | _ => .bad
  | .range2 a b, env => (ev a env).bind fun p => (ev b p.2).bind fun q => match p.1, q.1 with
    | .int i, .int j => if (-(2 ^ 62) ≤ i ∧ i < 2 ^ 62 ∧ -(2 ^ 62) ≤ j ∧ j < 2 ^ 62) ∧ j - i ≤ LINE then .ok (rangeD i j, q.2) else .bad
    | _, _ => .bad
  | .zip a b, env => (ev a env).bind fun p => (ev b p.2).bind fun q => (opt (items? p.1)).bind fun xs => (opt (items? q.1)).bind fun ys => .ok (zipD xs ys, q.2)
  | .enum a, env => (ev a env).bind fun p => (opt (items? p.1)).bind fun xs => .ok (enumD 0 xs, p.2)
end
/-! ### statements -/
inductive Flw where
  | nx
  | brk
  | cont
  | ret (d : D) (fresh : Bool)
/-- whether an expression makes a new list or dict -/
def makes : Exp → Bool
  | .lst _ => true
  | .dict0 => true
  | .comp _ _ _ _ _ => true
  | .slice _ _ _ => true
  | .bin .add _ _ => true
  | .bin .mul _ _ => true
  | .blt .list _ => true
  | .blt .sorted _ => true
  | .rev _ => true
  | _ => false
def isSeq : D → Bool
  | .list _ => true
  | .dict _ => true
  | _ => false
/-- several slots at once -/
def putAll (br : Bool) : List (Nat × Bool) → Exs → List D → Fram → Option Fram
  | [], .nil, [], env => some env
  | (i, o) :: is, .cons e es, d :: ds, env => if i < env.length && !(br && i == 0) && (!o || (makes e && isSeq d)) then putAll br is es ds (env.set i (if o then .own d else .val d)) else none
  | _, _, _, _ => none
def forLoop (turn : D → Fram → Res (Flw × Fram)) : List D → Fram → Res (Flw × Fram)
  | [], env => .ok (.nx, env)
  | x :: xs, env => (turn x env).bind fun p => match p.1 with
    | .nx => forLoop turn xs p.2
    | .cont => forLoop turn xs p.2
    | .brk => .ok (.nx, p.2)
    | .ret d f => .ok (.ret d f, p.2)
def whileLoop (test : Fram → Res (D × Fram)) (body : Fram → Res (Flw × Fram)) : Nat → Fram → Res (Flw × Fram)
  | 0, _ => .bad
  | n + 1, env => (test env).bind fun p => match p.1 with
    | .bool false => .ok (.nx, p.2)
    | .bool true => (body p.2).bind fun q => (match q.1 with
      | .nx => whileLoop test body n q.2
      | .cont => whileLoop test body n q.2
      | .brk => .ok (.nx, q.2)
      | .ret d f => .ok (.ret d f, q.2))
    | _ => .bad
variable (wf : Nat) (br : Bool)
mutual
def evS : Stm → Fram → Res (Flw × Fram)
  | .expr e, env => (ev Ph e env).bind fun p => .ok (.nx, p.2)
  | .set i e, env => (ev Ph e env).bind fun p => if i < p.2.length && !(br && i == 0) then .ok (.nx, p.2.set i (.val p.1)) else .bad
  | .own i e, env => (ev Ph e env).bind fun p => if i < p.2.length && !(br && i == 0) && makes e && isSeq p.1 then .ok (.nx, p.2.set i (.own p.1)) else .bad
  | .unp ts e, env => (ev Ph e env).bind fun p => match p.1 with
    | .tuple ds => (opt (stores ts ds p.2)).bind fun e1 => .ok (.nx, e1)
    | _ => .bad
  | .par is es, env => (evs Ph es env).bind fun p => (opt (putAll br is es p.1 p.2)).bind fun e1 => .ok (.nx, e1)
  | .setIx i ix e, env => (ev Ph e env).bind fun p => if !isOwn p.2 i then .bad else (ev Ph ix p.2).bind fun q => match q.2[i]?, q.1 with
    | some (.own (.list xs)), .int k => (match place xs.length k with
      | some j => .ok (.nx, q.2.set i (.own (.list (xs.set j p.1))))
      | none => .bad)
    | some (.own (.dict kvs)), y => (match key? y with
      | some k => if kvs.length < LINE then .ok (.nx, q.2.set i (.own (.dict (dPut kvs k y p.1)))) else .bad
      | none => .bad)
    | _, _ => .bad
  | .jar i ix j e, env => (ev Ph e env).bind fun p => match p.1 with
    | .tuple [x, y] => if !isOwn p.2 i then .bad else (ev Ph ix p.2).bind fun q => (match q.2[i]?, q.1 with
      | some (.own (.list xs)), .int k => (match place xs.length k with
        | some m => (opt (store (.name j) y (q.2.set i (.own (.list (xs.set m x)))))).bind fun e1 => .ok (.nx, e1)
        | none => .bad)
      | _, _ => .bad)
    | _ => .bad
  | .append i e, env => if !isOwnL env i then .bad else (ev Ph e env).bind fun p => match p.2[i]? with
    | some (.own (.list xs)) => if xs.length < LINE then .ok (.nx, p.2.set i (.own (.list (xs ++ [p.1])))) else .bad
    | _ => .bad
  | .extend i e, env => if !isOwnL env i then .bad else (ev Ph e env).bind fun p => match p.2[i]?, p.1 with
    | some (.own (.list xs)), .list ys => if xs.length + ys.length ≤ LINE then .ok (.nx, p.2.set i (.own (.list (xs ++ ys)))) else .bad
    | _, _ => .bad
  | .ret e, env => (match e with
    | .var i => if isOwn env i && !(i == 0) then (opt (look env i)).bind fun d => .ok (.ret d true, env) else (ev Ph e env).bind fun p => .ok (.ret p.1 false, p.2)
    | _ => (ev Ph e env).bind fun p => .ok (.ret p.1 (makes e && isSeq p.1), p.2))
  | .retN, env => .ok (.ret .none false, env)
  | .iff c a b, env => (ev Ph c env).bind fun p => match p.1 with
    | .bool true => evSs a p.2
    | .bool false => evSs b p.2
    | _ => .bad
  | .whil c b, env => whileLoop (fun e => ev Ph c e) (fun e => evSs b e) wf env
  | .forr tg it b, env => (evIt Ph it env).bind fun p => forLoop (fun x e => (opt (store tg x e)).bind fun e1 => evSs b e1) p.1 p.2
  | .brk, env => .ok (.brk, env)
  | .cont, env => .ok (.cont, env)
  | .pass, env => .ok (.nx, env)
  | .never, _ => .bad
def evSs : Sts → Fram → Res (Flw × Fram)
  | .nil, env => .ok (.nx, env)
  | .cons s ss, env => (evS s env).bind fun p => match p.1 with
    | .nx => evSs ss p.2
    | .brk => .ok (.brk, p.2)
    | .cont => .ok (.cont, p.2)
    | .ret d f => .ok (.ret d f, p.2)
end
end
/-! ### defs -/
/-- the frame at a call -/
def begin (fn : Def) (ds : List D) : Fram := (match fn.br, ds with
  | true, d :: r => .own d :: r.map .val
  | _, _ => ds.map .val) ++ List.replicate (fn.N.length - ds.length) .non
/-- the first argument behind a call, where the def may change it -/
def out0 (br : Bool) (env : Fram) : Option D := match br with
  | false => some .none
  | true => (match env[0]? with
    | some (Slot.own d) => some d
    | _ => none)
def runFn (Ph : CallF) (wf : Nat) (fn : Def) (ds : List D) : Res (D × D) := if ds.length = fn.params then (match evSs Ph wf fn.br fn.body (begin fn ds) with
    | .ok (fl, env) => (match fl with
      | .ret d f => if fn.fresh && !f then .bad else (opt (out0 fn.br env)).bind fun d0 => .ok (d, d0)
      | .nx => if fn.fresh then .bad else (opt (out0 fn.br env)).bind fun d0 => .ok (.none, d0)
      | _ => .bad)
    | .exc x e => .exc x e
    | .bad => .bad) else .bad
/-- the defs of a text, to a depth of calls -/
def callN (tb : List Def) (wf : Nat) : Nat → CallF
  | 0, _, _ => .bad
  | n + 1, f, ds => match tb.find? (fun fn => fn.name == f) with
    | some fn => runFn (callN tb wf n) wf fn ds
    | none => .bad
end PV
set_option Elab.async false
set_option linter.all false
set_option maxRecDepth 100000
set_option maxHeartbeats 1000000
/-! PV, part T: sets of keys of any kind that lies in tuples; how many they hold. -/
namespace PV.T
open PySem PySem.Spec PyProof.Rows L2
section
variable {M : Model} {A : Around} {E : Value → Shared → Prop} {s : Shared}
theorem no {B : Type} {c : Prop} [Decidable c] {x y : Sem B} {Q : B → Shared → Prop} (n : ¬ c) (h : wpAny M A y Q E s) : wpAny M A (if c then x else y) Q E s := (if_neg n (t := x) (e := y)).symm ▸ h
theorem yes {B : Type} {c : Prop} [Decidable c] {x y : Sem B} {Q : B → Shared → Prop} (n : c) (h : wpAny M A x Q E s) : wpAny M A (if c then x else y) Q E s := (if_pos n (t := x) (e := y)).symm ▸ h
end
/-! ### what is asked of a key -/
section
variable {P : Program} {w : World} {A : Around} {E : Value → Shared → Prop} {s : Shared}
theorem nest_mem {h : Heap} : ∀ {ks : List NestedKey} {vs : List Value}, NestedAll h ks vs → ∀ u ∈ vs, ∃ k ∈ ks, NestedIs h k u
  | _, _, .nil, u, hu => by cases hu
  | _, _, .cons (k := k) (ks := ks) a b, u, hu => by
    rcases List.mem_cons.mp hu with rfl | hu
    · exact ⟨k, List.mem_cons_self .., a⟩
    · obtain ⟨k', h1, h2⟩ := nest_mem b u hu
      exact ⟨k', List.mem_cons_of_mem _ h1, h2⟩
theorem depth_mem : ∀ {ks : List NestedKey} {k : NestedKey}, k ∈ ks → k.depth ≤ NestedKey.depthAll ks
  | k' :: ks, k, h => by
    simp only [NestedKey.depthAll]
    rcases List.mem_cons.mp h with rfl | h
    · exact Nat.le_max_left ..
    · exact Nat.le_trans (depth_mem h) (Nat.le_max_right ..)
theorem cls_key : ∀ (k : NestedKey) (v : Value) (n : Nat) (A : Around) (Q : Bool → Shared → Prop), NestedIs s.heap k v → k.depth ≤ n → Q false s → wpAny (model P w) A (ofAClassStatement n v) Q E s
  | .none, v, n, A, Q, h, _, q => by
    cases h
    have e : ofAClassStatement n .none = pure false := by cases n <;> rfl
    rw [e]
    exact wpAny_pure q
  | .num i, v, n, A, Q, h, _, q => by
    have e : ofAClassStatement n v = pure false := by cases h <;> cases n <;> rfl
    rw [e]
    exact wpAny_pure q
  | .text x, v, n, A, Q, h, _, q => by
    cases h
    rename_i t
    have e : ofAClassStatement n (.str x t) = pure false := by cases n <;> rfl
    rw [e]
    exact wpAny_pure q
  | .tup ks, v, n, A, Q, h, hd, q => by
    obtain ⟨n, rfl⟩ : ∃ m, n = m + 1 := ⟨n - 1, by simp [NestedKey.depth] at hd; omega⟩
    cases h with
    | tup h1 h2 h3 h4 =>
      rename_i b o vs m
      have hT : s.TypeIs (.ref b) "tuple" := ⟨o, h1, h2⟩
      unfold ofAClassStatement
      refine wpAny_bind (wpAny_typeOf hT ?_)
      dsimp only
      simp only [show (("tuple" : String) == "tuple") = true by decide, if_true]
      refine wpAny_bind (wpAny_pure ?_)
      refine no (by decide) ?_
      show wpAny _ _ (seqItems? (Value.ref b) >>= _) _ _ s
      refine wpAny_bind (wpAny_seqItems h1 h3 ?_)
      dsimp only
      refine wpAny_bind ?_
      rw [← Array.forIn_toList]
      have all : ∀ u ∈ vs.toList, ∃ k ∈ ks, NestedIs s.heap k u := nest_mem h4
      refine wpAny_forIn_list _ (fun left r t => r.1 = none ∧ t = s ∧ ∀ u ∈ left, ∃ k ∈ ks, NestedIs s.heap k u) _ (fun u left r t z => ?_) (fun r t z => ?_) _ _ ⟨rfl, rfl, all⟩
      · obtain ⟨r1, ht, more⟩ := z
        replace ht := ht.symm
        subst ht
        obtain ⟨k, hk, hu⟩ := more u (List.mem_cons_self ..)
        have le : k.depth ≤ n := by
          have := depth_mem hk
          simp [NestedKey.depth] at hd
          omega
        refine wpAny_bind (cls_key k u n A _ hu le ?_)
        refine no (by decide) ?_
        exact wpAny_pure ⟨rfl, rfl, fun x hx => more x (List.mem_cons_of_mem _ hx)⟩
      · obtain ⟨r1, r2⟩ := r
        obtain ⟨e, ht, _⟩ := z
        replace ht := ht.symm
        subst ht
        cases (show r1 = none from e)
        exact wpAny_pure q
termination_by k => sizeOf k
decreasing_by
  have := List.sizeOf_lt_of_mem hk
  simp only [NestedKey.tup.sizeOf_spec]
  omega
/-- whether a hash tells by value: some answer -/
theorem val_key : ∀ (k : NestedKey) (v : Value) (n : Nat) (A : Around) (Q : Bool → Shared → Prop), NestedIs s.heap k v → k.depth ≤ n → (∀ b, Q b s) → wpAny (model P w) A (hashByValue n v) Q E s
  | .none, v, n, A, Q, h, _, q => by
    cases h
    have e : hashByValue n .none = pure true := by cases n <;> rfl
    rw [e]
    exact wpAny_pure (q _)
  | .num i, v, n, A, Q, h, _, q => by
    have e : hashByValue n v = pure true := by cases h <;> cases n <;> rfl
    rw [e]
    exact wpAny_pure (q _)
  | .text x, v, n, A, Q, h, _, q => by
    cases h
    rename_i t
    have e : hashByValue n (.str x t) = pure false := by cases n <;> rfl
    rw [e]
    exact wpAny_pure (q _)
  | .tup ks, v, n, A, Q, h, hd, q => by
    obtain ⟨n, rfl⟩ : ∃ m, n = m + 1 := ⟨n - 1, by simp [NestedKey.depth] at hd; omega⟩
    cases h with
    | tup h1 h2 h3 h4 =>
      rename_i b o vs m
      have hT : s.TypeIs (.ref b) "tuple" := ⟨o, h1, h2⟩
      unfold hashByValue
      refine wpAny_bind (wpAny_specialOf hT F.slot_tuple_hash.lookup ?_)
      show wpAny _ _ (seqItems? (Value.ref b) >>= _) _ _ s
      refine wpAny_bind (wpAny_seqItems h1 h3 ?_)
      refine wpAny_bind ?_
      show wpAny _ _ (forIn vs _ _) _ _ s
      rw [← Array.forIn_toList]
      have all : ∀ u ∈ vs.toList, ∃ k ∈ ks, NestedIs s.heap k u := nest_mem h4
      refine wpAny_forIn_list _ (fun left r t => r.1 = none ∧ t = s ∧ ∀ u ∈ left, ∃ k ∈ ks, NestedIs s.heap k u) _ (fun u left r t z => ?_) (fun r t z => ?_) _ _ ⟨rfl, rfl, all⟩
      · obtain ⟨r1, ht, more⟩ := z
        replace ht := ht.symm
        subst ht
        obtain ⟨k, hk, hu⟩ := more u (List.mem_cons_self ..)
        have le : k.depth ≤ n := by
          have := depth_mem hk
          simp [NestedKey.depth] at hd
          omega
        refine wpAny_bind (val_key k u n A _ hu le fun c => ?_)
        cases c with
        | true => exact no (by decide) (wpAny_pure ⟨rfl, rfl, fun x hx => more x (List.mem_cons_of_mem _ hx)⟩)
        | false => exact yes (by decide) (wpAny_pure (wpAny_pure (q _)))
      · obtain ⟨r1, r2⟩ := r
        obtain ⟨e, ht, _⟩ := z
        replace ht := ht.symm
        subst ht
        cases (show r1 = none from e)
        exact wpAny_pure (q _)
termination_by k => sizeOf k
decreasing_by
  have := List.sizeOf_lt_of_mem hk
  simp only [NestedKey.tup.sizeOf_spec]
  omega
/-- the object there is the key -/
abbrev At (P : Program) (w : World) (h : Heap) (k : NestedKey) (b : Addr) : Prop := (nestedKind P w).is h k b
/-- a look through keys shows nothing -/
theorem look_key {k : NestedKey} {b : Addr} {Q : Bool → Shared → Prop} (hk : At P w s.heap k b) {ys : List Value} (hy : ∀ y ∈ ys, ∃ k' c, y = Value.ref c ∧ At P w s.heap k' c) (q : Q false s) : wpAny (model P w) A (searchCouldBeSeen (.ref b) ys) Q E s := by
  unfold searchCouldBeSeen
  refine wpAny_bind (wpAny_forIn_list _ (fun left r t => r.1 = none ∧ t = s ∧ ∀ y ∈ left, ∃ k' c, y = Value.ref c ∧ At P w s.heap k' c) _ (fun u left r t z => ?_) (fun r t z => ?_) _ _ ⟨rfl, rfl, hy⟩)
  · obtain ⟨r1, ht, more⟩ := z
    replace ht := ht.symm
    subst ht
    obtain ⟨k', c, rfl, hc⟩ := more u (List.mem_cons_self ..)
    have next := fun y (m : y ∈ left) => more y (List.mem_cons_of_mem _ m)
    dsimp only
    by_cases same : (b == c || (carriedByValue (.ref b) && carriedByValue (.ref c))) = true
    · exact yes same (wpAny_pure ⟨rfl, rfl, next⟩)
    · refine no same (wpAny_bind ((nestedKind P w).quiet hk ?_))
      refine no (by decide) (wpAny_bind ((nestedKind P w).quiet hc ?_))
      refine no (by decide) (wpAny_bind (cls_key _ _ _ _ _ hk.1 hk.2 ?_))
      refine no (by decide) (wpAny_bind (cls_key _ _ _ _ _ hc.1 hc.2 ?_))
      exact no (by decide) (wpAny_pure ⟨rfl, rfl, next⟩)
  · obtain ⟨r1, r2⟩ := r
    obtain ⟨e, ht, _⟩ := z
    replace ht := ht.symm
    subst ht
    cases (show r1 = none from e)
    exact wpAny_pure q
/-- the rows of a set's table -/
def rws (w : World) (M : List (Addr × NestedKey)) : List (Int × Value) := M.map fun p => (p.2.hash w, Value.ref p.1)
def hsh (w : World) (M : List (Addr × NestedKey)) : List Int := M.map fun p => p.2.hash w
/-- the set at S holds the keys M -/
structure Has (P : Program) (w : World) (h : Heap) (S : Addr) (M : List (Addr × NestedKey)) (es : Array (Int × Value)) (ep : Nat) (t : SetTable) : Prop where
  obj : ∃ o, h.get? S = some o ∧ o.ExactSet ∧ o.data = .set es ep t
  row : es.toList = rws w M
  tab : TabOk t (hsh w M)
  nd : (M.map (·.2)).Nodup
  key : ∀ p ∈ M, At P w h p.2 p.1
  led : w.params.followText "set-order" = true ∨ t.led = true
  room : M.length * 5 < t.mask * 3
  few : M.length < 64
variable {S : Addr} {M : List (Addr × NestedKey)} {es : Array (Int × Value)} {ep : Nat} {t : SetTable}
theorem rws_size (e : es.toList = rws w M) : es.size = M.length := by
  have := congrArg List.length e
  simpa [rws] using this
theorem hsh_len : (hsh w M).length = M.length := by simp [hsh]
theorem Has.size (R : Has P w s.heap S M es ep t) : es.size = M.length := rws_size R.row
theorem fits_of (T : TabOk t (hsh w M)) (e : es.size = M.length) (le : M.length ≤ t.mask) : t.fits es.size = true := by
  have h1 := T.sz
  rw [hsh_len] at h1
  simp only [SetTable.fits, SetTable.fill, T.dm, Bool.and_eq_true, beq_iff_eq, decide_eq_true_eq]
  show t.place.size = es.size ∧ t.place.size + 0 ≤ t.mask
  omega
theorem Has.fits (R : Has P w s.heap S M es ep t) : t.fits es.size = true := fits_of R.tab R.size (by have := R.room; omega)
theorem rws_at {i : Nat} {p : Addr × NestedKey} (e : es.toList = rws w M) (h : M[i]? = some p) : es[i]? = some (p.2.hash w, Value.ref p.1) := by
  rw [← Array.getElem?_toList, e, rws, List.getElem?_map, h]
  rfl
theorem sure (R : Has P w s.heap S M es ep t) : ¬ t.gaveWay = true := by
  unfold SetTable.gaveWay
  rw [mask_odd R.tab.mok]
  decide
/-- a step of the way of a hash -/
abbrev step (t : SetTable) (g : Int) (c : Nat) : SetTable.Probe := nth t.mask (runAt t.mask (SetTable.bits g % (t.mask + 1)) (SetTable.bits g)) c
theorem step_more (t : SetTable) (g : Int) (c q : Nat) : nth t.mask (step t g c) q = step t g (c + q) := (nth_add t.mask c _ q).symm
theorem step_clean (t : SetTable) (g : Int) (c : Nat) : (step t g c).dummy = none := by
  have : ∀ (n : Nat) (p : SetTable.Probe), p.dummy = none → (nth t.mask p n).dummy = none := fun n => by
    induction n with
    | zero => exact fun _ h => h
    | succ n ih =>
      intro p h
      refine ih (adv t.mask p) ?_
      unfold adv
      split <;> exact h
  exact this c _ rfl
/-- the search among keys, from a step of the way on -/
theorem find_key (R : Has P w s.heap S M es ep t) {x : Addr} {k : NestedKey} (hx : At P w s.heap k x) (hu : A.units + 8 < cLine) {N : Nat} (few : N < 10 * SetTable.turns t.mask)
    (hN : way t.mask (k.hash w) N ∉ t.place.toList) (hb : ∀ c, c < N → way t.mask (k.hash w) c ∈ t.place.toList) {Q : SetFound → Shared → Prop}
    (old : k ∈ M.map (·.2) → Q (.there none) s) (new : k ∉ M.map (·.2) → Q (.free (way t.mask (k.hash w) N) false) s) (d : Nat) :
    ∀ (f c : Nat) (stand : Option SetTable.Probe), N - c = d → stand.getD (t.probeStart (k.hash w)) = step t (k.hash w) c → c ≤ N → d < f →
      (∀ (i : Nat) p, M[i]? = some p → p.2 = k → ∃ c', c ≤ c' ∧ c' < N ∧ t.place.toList[i]? = some (way t.mask (k.hash w) c')) →
      wpAny (model P w) A (setSearchFrom S (.ref x) (k.hash w) true f stand) Q E s := by
  induction d using Nat.strongRecOn with
  | ind d ih =>
    intro f c stand hd hst hc hf ahead
    obtain ⟨f, rfl⟩ : ∃ g, f = g + 1 := ⟨f - 1, by omega⟩
    obtain ⟨o, ho, hex, hod⟩ := R.obj
    have jat : ∀ q, (nth t.mask (step t (k.hash w) c) q).j = way t.mask (k.hash w) (c + q) := fun q => congrArg SetTable.Probe.j (step_more t _ c q)
    have hat : ∀ (i : Nat) p, M[i]? = some p → (es[i]?.map (·.1)).getD 0 = p.2.hash w := fun i p hp => by
      rw [rws_at R.row hp]
      rfl
    have spec := go_spec t R.tab.ris R.tab.dm (fun i => (es[i]?.map (·.1)).getD 0) (k.hash w) (10 * SetTable.turns t.mask) (N - c) _ (step_clean t _ c) (by omega)
      (fun q hq => by rw [jat]; exact hb (c + q) (by omega)) (by rw [jat, show c + (N - c) = N by omega]; exact hN)
    rw [setSearchFrom_succ]
    refine wpAny_bind (wpAny_setState_of ho hod R.fits ?_)
    dsimp only
    refine no (sure R) ?_
    rcases spec with ⟨q, i, hq, hi, hh, before, e⟩ | ⟨before, e⟩
    · have e' : t.probe (fun i => (es[i]?.map (·.1)).getD 0) (k.hash w) (stand.getD (t.probeStart (k.hash w))) = some (.candidate (way t.mask (k.hash w) (c + q)) i (step t (k.hash w) (c + (q + 1)))) := by
        rw [hst, ← jat, ← step_more]
        exact e
      rw [e']
      dsimp only
      rw [jat] at hi
      have il : i < M.length := by
        have h1 := (List.getElem?_eq_some_iff.mp hi).1
        have h2 := R.tab.sz
        rw [hsh_len] at h2
        rw [Array.length_toList] at h1
        omega
      obtain ⟨p, hp⟩ : ∃ p, M[i]? = some p := ⟨_, List.getElem?_eq_getElem il⟩
      have pm : p ∈ M := List.mem_of_getElem? hp
      have live : t.slot (way t.mask (k.hash w) (c + q)) = .live i := slot_live R.tab.ris hi
      have rest : wpAny (model P w) A (searchRest S (.ref x) (k.hash w) true f es t (way t.mask (k.hash w) (c + q)) i (step t (k.hash w) (c + (q + 1)))) Q E s := by
        unfold searchRest
        rw [rws_at R.row hp]
        dsimp only
        refine wpAny_bind (wpAny_holding ((nestedKind P w).eqBool hu (R.key p pm) hx ?_))
        refine wpAny_bind (wpAny_setState_of ho hod R.fits ?_)
        dsimp only
        by_cases eq : p.2 = k
        · exact yes (by simp [eq]) (wpAny_pure (old (List.mem_map.mpr ⟨p, pm, eq⟩)))
        · refine no (by simp [eq]) ?_
          rw [sameMem]
          dsimp only
          simp only [if_true, live, rws_at R.row hp]
          refine wpAny_bind (wpAny_isSame_ref_self (wpAny_bind (wpAny_pure ?_)))
          simp only [if_true]
          refine no (by simp [eq]) (ih (N - (c + (q + 1))) (by omega) f (c + (q + 1)) _ rfl rfl (by omega) (by omega) fun i0 p0 h0 k0 => ?_)
          obtain ⟨c', a1, a2, a3⟩ := ahead i0 p0 h0 k0
          refine ⟨c', Nat.not_lt.mp fun lt => ?_, a2, a3⟩
          rcases Nat.lt_or_ge c' (c + q) with z | z
          · exact before (c' - c) i0 (by omega) (by rw [jat, show c + (c' - c) = c' by omega]; exact a3) ((hat i0 p0 h0).trans (congrArg (NestedKey.hash w) k0))
          · have ec : c' = c + q := by omega
            rw [ec] at a3
            have live0 := slot_live R.tab.ris a3
            rw [live] at live0
            injection live0 with e0
            rw [← e0, hp] at h0
            cases h0
            exact eq k0
      by_cases hl : t.led = true
      · exact no (by simp [hl]) rest
      · refine yes (by simp [hl]) (wpAny_bind (look_key hx (fun y hy => ?_) (no (by decide) rest)))
        obtain ⟨r, hr, rfl⟩ := List.mem_map.mp hy
        have hr2 : r ∈ es.toList := by
          have : r ∈ es ∧ r.1 = k.hash w := by simpa using hr
          simpa using this.1
        rw [R.row] at hr2
        obtain ⟨p2, hp2, rfl⟩ := List.mem_map.mp hr2
        exact ⟨p2.2, p2.1, rfl, R.key p2 hp2⟩
    · have e' : t.probe (fun i => (es[i]?.map (·.1)).getD 0) (k.hash w) (stand.getD (t.probeStart (k.hash w))) = some (.empty (way t.mask (k.hash w) N) none) := by
        have : way t.mask (k.hash w) N = (nth t.mask (step t (k.hash w) c) (N - c)).j := by rw [jat, show c + (N - c) = N by omega]
        rw [hst, this]
        exact e
      rw [e']
      dsimp only
      refine wpAny_pure (new fun hm => ?_)
      obtain ⟨p0, h0, k0⟩ := List.mem_map.mp hm
      obtain ⟨i0, hi0⟩ := List.getElem?_of_mem h0
      obtain ⟨c', a1, a2, a3⟩ := ahead i0 p0 hi0 k0
      exact before (c' - c) i0 (by omega) (by rw [jat, show c + (c' - c) = c' by omega]; exact a3) ((hat i0 p0 hi0).trans (congrArg (NestedKey.hash w) k0))
/-- the search, as adding asks for it -/
theorem find_from_start (R : Has P w s.heap S M es ep t) {x : Addr} {k : NestedKey} (hx : At P w s.heap k x) (hu : A.units + 8 < cLine) {Q : SetFound → Shared → Prop} (old : k ∈ M.map (·.2) → Q (.there none) s)
    (new : ∀ N, k ∉ M.map (·.2) → way t.mask (k.hash w) N ∉ t.place.toList → (∀ c, c < N → way t.mask (k.hash w) c ∈ t.place.toList) → Q (.free (way t.mask (k.hash w) N) false) s) : wpAny (model P w) A (setSearch S (.ref x) (k.hash w) true) Q E s := by
  have room := R.room
  obtain ⟨N, few, hN, hb⟩ := R.tab.first (by rw [hsh_len]; omega) (k.hash w)
  have small : 10 * SetTable.turns t.mask ≤ 1420 := by
    unfold SetTable.turns
    rcases R.tab.mok with e | e | e <;> omega
  unfold setSearch
  refine find_key R hx hu few hN hb old (fun h => new N h hN hb) N 100000 0 none rfl rfl (Nat.zero_le _) (by omega) fun i p hp hk => ?_
  have h1 : (hsh w M)[i]? = some (k.hash w) := by
    rw [hsh, List.getElem?_map, hp, ← hk]
    rfl
  have h2 : i < t.place.toList.length := by
    have := (List.getElem?_eq_some_iff.mp hp).1
    have sz := R.tab.sz
    rw [hsh_len] at sz
    rw [Array.length_toList]
    omega
  obtain ⟨c, lt, e⟩ := R.tab.before hN h1 (List.getElem?_eq_getElem h2)
  exact ⟨c, Nat.zero_le _, lt, by rw [List.getElem?_eq_getElem h2, e]⟩
/-- a key is not the set -/
theorem at_same {h h' : Heap} {k : NestedKey} {b S : Addr} {o : Obj} {es : Array (Int × Value)} {ep : Nat} {t : SetTable} (x : At P w h k b) (ho : h.get? S = some o) (hd : o.data = .set es ep t) (q : Heap.SameBut S h h') : At P w h' k b :=
  nestedKind_stays.stays (fun c ob vs n e d => (q.2 c fun z => by
    subst z
    rw [ho] at e
    cases e
    rw [hd] at d
    cases d).trans e) x
theorem at_keep {h h' : Heap} {k : NestedKey} {b : Addr} (x : At P w h k b) (q : ∀ c o, h.get? c = some o → h'.get? c = some o) : At P w h' k b := nestedKind_stays.stays (fun c o _ _ e _ => q c o e) x
theorem pick_rows (e : es.toList = rws w M) : ∀ l : List Nat, (∀ i ∈ l, i < M.length) → l.filterMap (fun i => es[i]?) = rws w (l.filterMap fun i => M[i]?) ∧ hsh w (l.filterMap fun i => M[i]?) = l.map fun i => (es.map (·.1)).getD i 0
  | [], _ => ⟨rfl, rfl⟩
  | i :: l, h => by
    obtain ⟨e1, e2⟩ := pick_rows e l fun j hj => h j (List.mem_cons_of_mem _ hj)
    have hi := h i (List.mem_cons_self ..)
    have hp : M[i]? = some M[i] := List.getElem?_eq_getElem hi
    have he := rws_at e hp
    rw [List.filterMap_cons_some he, List.filterMap_cons_some hp, e1]
    refine ⟨rfl, ?_⟩
    show (M[i]).2.hash w :: hsh w _ = _
    rw [e2, List.map_cons]
    congr 1
    have : (es.map (·.1))[i]? = some ((M[i]).2.hash w) := by
      rw [Array.getElem?_map, he]
      rfl
    simp [Array.getD_eq_getD_getElem?, this]
theorem range_all (M : List (Addr × NestedKey)) : (List.range M.length).filterMap (fun i => M[i]?) = M := by
  have := PySem.W.krv_all M.toArray
  simpa using this
/-- the table laid anew -/
theorem relay_keys {o : Obj} (ho : s.heap.get? S = some o) (hex : o.ExactSet) (hd : o.data = .set es ep t) (row : es.toList = rws w M) (T : TabOk t (hsh w M)) (le : M.length ≤ t.mask) (nd : (M.map (·.2)).Nodup) (key : ∀ p ∈ M, At P w s.heap p.2 p.1)
    (led : w.params.followText "set-order" = true ∨ t.led = true) (few : M.length < 64) {big m : Nat} (hm : SetTable.sizeAbove big - 1 = m) (ok : MaskOk m) (fit : SetTable.sizeAbove big ≤ 128) (room : M.length * 5 < m * 3) {Q : Unit → Shared → Prop}
    (go : ∀ h' M' es' ep' t', Heap.SameBut S s.heap h' → Has P w h' S M' es' ep' t' → M'.Perm M → Q () { s with heap := h' }) : wpAny (model P w) A (setRelay S big) Q E s := by
  have size := rws_size row
  obtain ⟨t2, order, e, perm, T2, m2, l2, _, d2⟩ := relaid_ok t (hs := es.map (·.1)) (wanted := big) hm ok (by rw [Array.size_map, size]; omega)
  rw [Array.size_map, size] at perm
  obtain ⟨r1, r2⟩ := pick_rows row order.toList fun i hi => List.mem_range.mp (perm.mem_iff.mp hi)
  have pm : (order.toList.filterMap fun i => M[i]?).Perm M := by
    have := perm.filterMap fun i => M[i]?
    rw [range_all] at this
    exact this
  have row2 : (order.filterMap (es[·]?)).toList = rws w (order.toList.filterMap fun i => M[i]?) := by
    rw [Array.toList_filterMap]
    exact r1
  rw [← r2] at T2
  generalize order.toList.filterMap (fun i => M[i]?) = M2 at pm row2 T2
  have size2 := rws_size row2
  have len2 := pm.length_eq
  rw [setRelay_eq]
  refine wpAny_bind (wpAny_setState_of ho hd (fits_of T size le) ?_)
  dsimp only
  refine no (by rw [sizeLine_eq]; omega) ?_
  rw [e]
  dsimp only
  refine wpAny_bind (no (by rw [size2, size, len2]; simp) ?_)
  refine wpAny_pure ?_
  dsimp only
  have sb : Heap.SameBut S s.heap (s.heap.update S (Obj.putSet (order.filterMap (es[·]?)) t2)) := Heap.SameBut.update ..
  refine wpAny_storeSet_of ho hd (go _ M2 _ (ep + 1) t2 sb ⟨⟨_, store_at ho hd, ⟨hex.1, hex.2.1, hex.2.2⟩, rfl⟩, row2, T2, (pm.map (·.2)).nodup_iff.mpr nd, fun p hp => at_same (key p (pm.mem_iff.mp hp)) ho hd sb, by rw [l2]; exact led, by rw [len2, m2]; exact room, by omega⟩ pm) (by rw [size2, len2, sizeLine_eq]; omega)
/-- a key is added -/
theorem add_key (R : Has P w s.heap S M es ep t) {x : Addr} {k : NestedKey} (hx : At P w s.heap k x) (hu : A.units + 8 < cLine) (few : M.length + 1 < 64) {Q : Bool → Shared → Prop}
    (go : ∀ b h' M' es' ep' t', Heap.SameBut S s.heap h' → Has P w h' S M' es' ep' t' → (k ∈ M.map (·.2) → M' = M) → (k ∉ M.map (·.2) → M'.Perm ((x, k) :: M)) → Q b { s with heap := h' }) :
    wpAny (model P w) A (setAddHashed S (.ref x) (k.hash w)) Q E s := by
  obtain ⟨o, ho, hex, hd⟩ := R.obj
  have size := R.size
  have room := R.room
  unfold setAddHashed
  refine wpAny_holding ?_
  rw [show (100000 : Nat) = 99999 + 1 from rfl, setAddHashedIn_succ]
  refine wpAny_bind (wpAny_setState_of ho hd R.fits ?_)
  dsimp only
  refine no (by simp [byScan, Value.scannable]) ?_
  refine wpAny_bind (find_from_start R hx hu (fun hm => ?_) fun N hm hN hb => ?_)
  · dsimp only
    exact wpAny_pure (go false s.heap M es ep t (Heap.SameBut.refl S s.heap) R (fun _ => rfl) fun z => absurd hm z)
  dsimp only
  refine wpAny_bind (wpAny_setState_of ho hd R.fits ?_)
  dsimp only
  obtain ⟨u1, u2, u3, u4, u5, u6, u7, u8, u9⟩ := R.tab.put hN hb
  rw [hsh_len] at u2 u9
  generalize t.put (way t.mask (k.hash w) N) = pt at u1 u3 u4 u5 u6 u7 u8 u9 ⊢
  obtain ⟨t1, p⟩ := pt
  dsimp only at u1 u3 u4 u5 u6 u7 u8 u9 ⊢
  subst u1
  have row1 : (SetTable.insertAt es (SetTable.below t.place (way t.mask (k.hash w) N)) (k.hash w, Value.ref x)).toList = rws w (M.take (SetTable.below t.place (way t.mask (k.hash w) N)) ++ (x, k) :: M.drop (SetTable.below t.place (way t.mask (k.hash w) N))) := by
    rw [SetTable.toList_insertAt, R.row]
    simp [rws]
  have T1 : TabOk t1 (hsh w (M.take (SetTable.below t.place (way t.mask (k.hash w) N)) ++ (x, k) :: M.drop (SetTable.below t.place (way t.mask (k.hash w) N)))) := by
    have : hsh w (M.take (SetTable.below t.place (way t.mask (k.hash w) N)) ++ (x, k) :: M.drop (SetTable.below t.place (way t.mask (k.hash w) N))) = (hsh w M).take (SetTable.below t.place (way t.mask (k.hash w) N)) ++ k.hash w :: (hsh w M).drop (SetTable.below t.place (way t.mask (k.hash w) N)) := by simp [hsh]
    rw [this]
    exact u3
  have pm := put_perm M (SetTable.below t.place (way t.mask (k.hash w) N)) (x, k)
  generalize SetTable.insertAt es (SetTable.below t.place (way t.mask (k.hash w) N)) (k.hash w, Value.ref x) = es1 at row1 ⊢
  generalize M.take (SetTable.below t.place (way t.mask (k.hash w) N)) ++ (x, k) :: M.drop (SetTable.below t.place (way t.mask (k.hash w) N)) = M1 at row1 T1 pm
  have len1 : M1.length = M.length + 1 := pm.length_eq
  have size1 := rws_size row1
  have nd1 : (M1.map (·.2)).Nodup := (pm.map (·.2)).nodup_iff.mpr (by rw [List.map_cons]; exact List.nodup_cons.mpr ⟨hm, R.nd⟩)
  -- whether it is told by value changes nothing here
  have behind : ∀ t2 : SetTable, t2.place = t1.place → t2.dummies = t1.dummies → t2.mask = t1.mask → t2.led = t1.led →
      wpAny (model P w) A (storeSet S es1 t2 >>= fun _ => if (!false && t2.tooFull) = true then (do
        setRelay S (SetTable.grown (es.size + 1))
        pure true) else pure true) Q E s := fun t2 a1 a2 a3 a4 => by
    have T2 : TabOk t2 (hsh w M1) := by
      obtain ⟨b1, b2, b3, b4, b5, b6⟩ := T1
      exact ⟨by rw [a1]; exact b1, by rw [a2]; exact b2, by rw [a1]; exact b3, by rw [a3]; exact b4, by rw [a1, a3]; exact b5, by rw [a1, a3]; exact b6⟩
    have fill2 : t2.fill = M.length + 1 := by
      rw [← u9]
      unfold SetTable.fill
      rw [a1, a2]
    have led2 : w.params.followText "set-order" = true ∨ t2.led = true := by rw [a4, u5]; exact R.led
    have sb : Heap.SameBut S s.heap (s.heap.update S (Obj.putSet es1 t2)) := Heap.SameBut.update ..
    have ho1 := store_at (es' := es1) (t' := t2) ho hd
    refine wpAny_bind (wpAny_storeSet_of ho hd ?_ (by rw [size1, len1, sizeLine_eq]; omega))
    generalize s.heap.update S (Obj.putSet es1 t2) = h1 at sb ho1 ⊢
    have key1 : ∀ p ∈ M1, At P w h1 p.2 p.1 := fun p hp => by
      rcases List.mem_cons.mp (pm.mem_iff.mp hp) with rfl | hp
      · exact at_same hx ho hd sb
      · exact at_same (R.key p hp) ho hd sb
    by_cases full : t2.tooFull = true
    · have five : (M.length + 1) * 5 ≥ t.mask * 3 := by
        have := full
        unfold SetTable.tooFull at this
        rw [decide_eq_true_eq, fill2, a3, u4] at this
        exact this
      have two : (t.mask = 7 ∧ M.length = 4) ∨ (t.mask = 31 ∧ M.length = 18) := by
        rcases R.tab.mok with e | e | e <;> rw [e] at five room
        · exact .inl ⟨e, by omega⟩
        · exact .inr ⟨e, by omega⟩
        · omega
      have anew : ∀ m, SetTable.sizeAbove (SetTable.grown (M.length + 1)) - 1 = m → MaskOk m → SetTable.sizeAbove (SetTable.grown (M.length + 1)) ≤ 128 → (M.length + 1) * 5 < m * 3 →
          wpAny (model P w) A (setRelay S (SetTable.grown (es.size + 1)) >>= fun _ => pure true) Q E { s with heap := h1 } := fun m c1 c2 c3 c4 => by
        rw [size]
        refine wpAny_bind (relay_keys (s := { s with heap := h1 }) ho1 ⟨hex.1, hex.2.1, hex.2.2⟩ rfl row1 T2 (by rw [len1, a3, u4]; rcases two with ⟨e, e2⟩ | ⟨e, e2⟩ <;> omega) nd1 key1 led2 (by omega) c1 c2 c3 (by rw [len1]; exact c4) fun h2 M2 es2 ep2 t3 sb2 R2 pm2 => ?_)
        exact wpAny_pure (go true h2 M2 es2 ep2 t3 (sb.trans sb2) R2 (fun z => absurd z hm) fun _ => pm2.trans pm)
      refine yes (by simp [full]) ?_
      rcases two with ⟨_, e2⟩ | ⟨_, e2⟩
      · exact anew 31 (by rw [e2, size_20]) (.inr (.inl rfl)) (by rw [e2, size_20]; decide) (by omega)
      · exact anew 127 (by rw [e2, size_76]) (.inr (.inr rfl)) (by rw [e2, size_76]; decide) (by omega)
    · refine no (by simp [full]) (wpAny_pure (go true h1 M1 es1 (ep + 1) t2 sb ⟨⟨_, ho1, ⟨hex.1, hex.2.1, hex.2.2⟩, rfl⟩, row1, T2, nd1, key1, led2, ?_, by omega⟩ (fun z => absurd z hm) fun _ => pm))
      have := full
      unfold SetTable.tooFull at this
      rw [decide_eq_true_eq, fill2, a3, u4] at this
      rw [len1, a3, u4]
      omega
  by_cases pl : t1.plain = true
  · refine yes pl (wpAny_bind (val_key _ _ _ _ _ hx.1 hx.2 fun c => ?_))
    cases c with
    | true => exact behind t1 rfl rfl rfl rfl
    | false => exact behind { t1 with plain := false } rfl rfl rfl rfl
  · exact no pl (wpAny_bind (wpAny_pure (behind t1 rfl rfl rfl rfl)))
theorem uniqTo_snoc (k : NestedKey) : ∀ (ks acc : List NestedKey), uniqTo acc (ks ++ [k]) = if k ∈ uniqTo acc ks then uniqTo acc ks else uniqTo acc ks ++ [k]
  | [], acc => rfl
  | c :: ks, acc => by
    rw [List.cons_append, uniqTo, uniqTo]
    split <;> exact uniqTo_snoc k ks _
theorem uniq_snoc (k : NestedKey) (ks : List NestedKey) : uniq (ks ++ [k]) = if k ∈ uniq ks then uniq ks else uniq ks ++ [k] := uniqTo_snoc k ks []
theorem uniqTo_len : ∀ (ks acc : List NestedKey), (uniqTo acc ks).length ≤ acc.length + ks.length
  | [], acc => by simp [uniqTo]
  | k :: ks, acc => by
    rw [uniqTo]
    split
    · have := uniqTo_len ks acc
      simp
      omega
    · have := uniqTo_len ks (acc ++ [k])
      simp at this ⊢
      omega
/-- the set holds the first i keys -/
def First (ks : List (Addr × NestedKey)) (i : Nat) (M : List (Addr × NestedKey)) : Prop := (M.map (·.2)).Perm (uniq ((ks.take i).map (·.2))) ∧ ∀ p ∈ M, p ∈ ks
theorem First.len {ks : List (Addr × NestedKey)} {i : Nat} {M : List (Addr × NestedKey)} (f : First ks i M) : M.length ≤ ks.length := by
  have h1 := f.1.length_eq
  have h2 := uniqTo_len ((ks.take i).map (·.2)) []
  simp [uniq] at h1 h2
  omega
theorem First.at {ks : List (Addr × NestedKey)} {i : Nat} {M : List (Addr × NestedKey)} (f : First ks i M) : M.length ≤ i := by
  have h1 := f.1.length_eq
  have h2 := uniqTo_len ((ks.take i).map (·.2)) []
  rw [List.length_map, List.length_take] at h2
  rw [List.length_map] at h1
  unfold uniq at h1
  simp only [List.length_nil] at h2
  omega
theorem First.next {ks M M' : List (Addr × NestedKey)} {i : Nat} {p : Addr × NestedKey} (f : First ks i M) (hp : ks[i]? = some p) (h1 : p.2 ∈ M.map (·.2) → M' = M) (h2 : p.2 ∉ M.map (·.2) → M'.Perm (p :: M)) : First ks (i + 1) M' := by
  have e : (ks.take (i + 1)).map (·.2) = (ks.take i).map (·.2) ++ [p.2] := by
    rw [List.take_succ, hp]
    simp
  unfold First
  rw [e, uniq_snoc]
  by_cases c : p.2 ∈ M.map (·.2)
  · rw [h1 c, if_pos (f.1.mem_iff.mp c)]
    exact f
  · have pm := h2 c
    rw [if_neg fun z => c (f.1.mem_iff.mpr z)]
    have pm2 : (M'.map (·.2)).Perm (p.2 :: M.map (·.2)) := pm.map (·.2)
    refine ⟨(pm2.trans (f.1.cons p.2)).trans (List.perm_append_singleton _ _).symm, fun q hq => ?_⟩
    rcases List.mem_cons.mp (pm.mem_iff.mp hq) with rfl | hq
    · exact List.mem_of_getElem? hp
    · exact f.2 q hq
theorem Has.keep {h h' : Heap} (R : Has P w h S M es ep t) (q : ∀ o, h.get? S = some o → h'.get? S = some o) (k : ∀ p ∈ M, At P w h' p.2 p.1) : Has P w h' S M es ep t :=
  ⟨let ⟨o, e, r⟩ := R.obj; ⟨o, q o e, r⟩, R.row, R.tab, R.nd, k, R.led, R.room, R.few⟩
/-- an empty set, as it is made -/
abbrev emptyT (w : World) : SetTable := .fresh 0 0 (!w.params.followText "set-order")
abbrev emptyO (w : World) : Obj := { cls := .type "set", dict := none, data := .set #[] 0 (emptyT w) }
theorem has_empty {h : Heap} (e : h.get? S = some (emptyO w)) : Has P w h S [] #[] 0 (emptyT w) :=
  ⟨⟨_, e, ⟨rfl, rfl, rfl⟩, rfl⟩, rfl, ⟨List.Pairwise.nil, rfl, rfl, .inl rfl, fun x hx => (by cases hx), fun i g j hi => (by simp [hsh] at hi)⟩, List.nodup_nil, fun p hp => (by cases hp),
    (by cases q : w.params.followText "set-order"
        · exact .inr (by show (!w.params.followText "set-order") = true; rw [q]; rfl)
        · exact .inl rfl), (by show 0 * 5 < 7 * 3; decide), by decide⟩
/-- set.update's loop over keys -/
theorem fill_keys {I : Addr} {fp wr : List Addr} {G : Array GenState → Array GenState → Prop} {n : Nat} {Pv : Nat → Value → Prop} {St : Nat → Shared → Prop} {R : Result → Shared → Prop}
    (W : WalksS P w A.in1 I fp wr G n Pv St) (S : Addr) (away : S ∉ fp) (ks : List (Addr × NestedKey)) (hn : n = ks.length) (few : ks.length < 64) (val : ∀ i v, Pv i v → ∃ p, ks[i]? = some p ∧ v = .ref p.1)
    (h0 : Heap) (key : ∀ p ∈ ks, At P w h0 p.2 p.1) (free : h0.get? S = none) (free2 : ∀ b ∈ wr, h0.get? b = none) (hu : A.in1.units + 8 < cLine) (d : Nat) :
    ∀ (i : Nat) (s : Shared), n - i = d → i ≤ n → St i s → (∀ b o, h0.get? b = some o → s.heap.get? b = some o) → (∃ M es ep t, Has P w s.heap S M es ep t ∧ First ks i M) →
      (∀ s' M es ep t, Moved (S :: wr) G s s' → Has P w s'.heap S M es ep t → First ks n M → (∀ b o, h0.get? b = some o → s'.heap.get? b = some o) → R (.ok (.ret .none)) s') →
      codeAny (model P w) A (.builtin "set.update.loop" ⟨[.ref S, .ref I], []⟩) R s := by
  have awayW : S ∉ wr := fun h => away (W.sub _ h)
  have more : ∀ b ∈ wr, b ∈ S :: wr := fun b hb => List.mem_cons_of_mem _ hb
  have old : ∀ {s s' : Shared}, Moved wr G s s' → (∀ b o, h0.get? b = some o → s.heap.get? b = some o) → ∀ b o, h0.get? b = some o → s'.heap.get? b = some o := fun m q b o e =>
    m.heap b o (fun hb => by
      rw [free2 b hb] at e
      cases e) (q b o e)
  induction d with
  | zero =>
    rintro i s hd hi st q ⟨M, es, ep, t, H, f⟩ fin
    obtain rfl : i = n := by omega
    refine codeAny_builtin F.entry_set_update_loop ?_
    rw [Around.under_plainId F.plain_set_update_loop _]
    show wpAny _ A.in1 (pyNext (Value.ref I) >>= _) _ _ s
    refine wpAny_bind (W.done s _ _ st fun s' m => ?_)
    have q' := old m q
    show wpAny _ A.in1 (ret Value.none) _ _ s'
    exact wpAny_pure (fin s' M es ep t (m.mono more) (H.keep (fun o e => m.heap S o awayW e) fun p hp => at_keep (key p (f.2 p hp)) q') f q')
  | succ d ih =>
    rintro i s hd hi st q ⟨M, es, ep, t, H, f⟩ fin
    have lt : i < n := by omega
    refine codeAny_builtin F.entry_set_update_loop ?_
    rw [Around.under_plainId F.plain_set_update_loop _]
    show wpAny _ A.in1 (pyNext (Value.ref I) >>= _) _ _ s
    refine wpAny_bind (W.item i s _ _ lt st fun v s' hP st' m => ?_)
    obtain ⟨p, hp, rfl⟩ := val i v hP
    have q' := old m q
    have H' : Has P w s'.heap S M es ep t := H.keep (fun o e => m.heap S o awayW e) fun r hr => at_keep (key r (f.2 r hr)) q'
    have hx : At P w s'.heap p.2 p.1 := at_keep (key p (List.mem_of_getElem? hp)) q'
    show wpAny _ A.in1 (holding [Value.ref p.1] (setAdd S (.ref p.1)) >>= _) _ _ s'
    refine wpAny_bind (wpAny_holding ?_)
    unfold setAdd
    refine wpAny_holding (wpAny_bind ((nestedKind P w).pyHash hu hx ?_))
    refine add_key (s := { s' with toks := s'.toks + _ }) H' hx hu (by have h1 := f.at; omega) fun b h' M' es' ep' t' sb H2 c1 c2 => ?_
    have q2 : ∀ b o, h0.get? b = some o → h'.get? b = some o := fun b o e => (sb.2 b fun z => by
      rw [z, free] at e
      cases e).trans (q' b o e)
    refine wpAny_pure ⟨plainId_quiet F.plain_set_update_loop _, ih (i + 1) _ (by omega) lt (W.frame _ s' _ _ st' (Nat.le_add_right _ _) fun b hb o e => ?_) q2 ⟨M', es', ep', t', H2, f.next hp c1 c2⟩ fun s'' M2 es2 ep2 t2 m2 H3 f3 q3 => ?_⟩
    · rw [sb.2 b fun z : b = S => away (z ▸ hb)]
      exact e
    · refine fin s'' M2 es2 ep2 t2 (Moved.trans W.gtrans ((m.mono more).then_heap (Nat.le_add_right _ _) fun b o hb e => ?_) m2) H3 f3 q3
      rw [sb.2 b fun z : b = S => hb (z ▸ List.mem_cons_self)]
      exact e
end
end PV.T
set_option Elab.async false
set_option linter.all false
set_option maxRecDepth 100000
set_option maxHeartbeats 4000000
/-! PV, part U: set(t) of a tuple of keys. -/
namespace PV.T
open PySem PySem.Spec PyProof.Rows L2
section
variable {P : Program} {w : World} {A : Around} {E : Value → Shared → Prop} {s : Shared}
theorem set_of_tuple {l : Addr} {items : Array Value} (ks : List (Addr × NestedKey)) {Q : Value → Shared → Prop} (hh : A.handled = none) (tup : s.heap.IsTuple l items) (its : items.toList = ks.map fun p => Value.ref p.1) (key : ∀ p ∈ ks, At P w s.heap p.2 p.1) (few : ks.length < 64) (hu : A.units + 20 < cLine)
    (go : ∀ (h' : Heap) (tk : Nat) M es ep t, Has P w h' s.heap.objs.size M es ep t → First ks ks.length M → (∀ b o, s.heap.get? b = some o → h'.get? b = some o) → Q (.ref s.heap.objs.size) { s with heap := h', toks := tk }) :
    wpAny (model P w) A (call (.type "set") [.ref l]) Q E s := by
  have size : items.size = ks.length := by
    have := congrArg List.length its
    simpa using this
  obtain ⟨c, tl, mro⟩ := F.called_set.mro
  have made := F.called_set.made
  have sub := F.called_set.sub
  refine wpAny_call (codeAny_of_tree ?_)
  show wpAny _ _ (callAny (.type "set") _) _ _ _
  refine wpAny_pure ⟨Code.quiet_builtin _ (by decide +kernel), codeAny_builtin F.entry_type_call ?_⟩
  rw [Around.under_plain (weight_type_call_type "set" [.ref l] []) rfl]
  have t1 := F.called_set.notType
  have t2 := F.called_set.canCreate
  have t3 := F.typeCall_set_1 (.ref l)
  repeat (any_goals (first | assumption | wp_step))
  refine codeAny_mono (code_set_led1 (.ref l) (E := E) (Q₁ := fun ob s1 => ob = .ref s.heap.objs.size ∧ s1 = { s with heap := s.heap.push (emptyO w) }) ⟨rfl, rfl⟩) fun r s1 hr => ?_
  cases r with
  | error e => exact hr
  | ok fl =>
    cases fl with
    | ret ob =>
      obtain ⟨rfl, rfl⟩ := hr
      have atS : (s.heap.push (emptyO w)).get? s.heap.objs.size = some (emptyO w) := Heap.get?_push_size _ rfl
      have typ : Shared.TypeIs { s with heap := s.heap.push (emptyO w) } (.ref s.heap.objs.size) "set" := ⟨_, atS, rfl⟩
      have i1 := F.called_set.init.lookup
      have i2 := F.called_set.init.bind (.ref s.heap.objs.size)
      repeat (any_goals (first | assumption | wp_step))
      refine codeAny_mono (codeAny_call_builtin (R := wants (fun r s2 => r = .none ∧ ∃ h' tk M es ep t, s2 = { s with heap := h', toks := tk } ∧ Has P w h' s.heap.objs.size M es ep t ∧ First ks ks.length M ∧
          ∀ b o, s.heap.get? b = some o → h'.get? b = some o) E) F.called_set.init.plain F.entry_set_init (check_set_init_1 typ ?_)) fun r2 s2 hr2 => ?_
      · obtain ⟨ot, ho, hc, hd⟩ := id tup
        have lt : l < s.heap.objs.size := Heap.lt_size ho
        have ho1 : (s.heap.push (emptyO w)).get? l = some ot := Heap.get?_push_of_some _ ho
        have tup1 : (s.heap.push (emptyO w)).IsTuple l items := ⟨ot, ho1, hc, hd⟩
        have n1 := F.sub_tuple_set
        have n2 := F.sub_tuple_frozenset
        have n3 : (Value.type "tuple" == Value.type "dict") = false := by decide
        have typT : Shared.TypeIs { s with heap := s.heap.push (emptyO w) } (.ref l) "tuple" := ⟨ot, ho1, hc⟩
        unfold Builtin.«set.__init__» noKeywords Builtin.Frozenset.updateFrom
        generalize eI : pyIter = PI
        wp_walk
        subst eI
        refine wpAny_pyIter_tuple tup1 ?_
        refine wpAny_bind (wpAny_runValue ?_)
        have hh3 : A.in1.in1.in1.handled = none := by simp [hh]
        have more : (s.heap.push (emptyO w)).objs.size = s.heap.objs.size + 1 := Heap.size_push ..
        have apart : l ≠ (s.heap.push (emptyO w)).objs.size := by
          rw [more]
          exact Nat.ne_of_lt (Nat.lt_succ_of_lt lt)
        have away : s.heap.objs.size ∉ [(s.heap.push (emptyO w)).objs.size, l] := by
          rw [more]
          simp only [List.mem_cons, List.not_mem_nil, or_false, not_or]
          exact ⟨Nat.ne_of_lt (Nat.lt_succ_self _), Nat.ne_of_gt lt⟩
        have val : ∀ (i : Nat) (v : Value), items[i]? = some v → ∃ p, ks[i]? = some p ∧ v = .ref p.1 := fun i v hv => by
          rw [← Array.getElem?_toList, its, List.getElem?_map] at hv
          obtain ⟨p, h1, h2⟩ := Option.map_eq_some_iff.mp hv
          exact ⟨p, h1, h2.symm⟩
        have free : ∀ b, s.heap.objs.size ≤ b → s.heap.get? b = none := fun b hb => by
          cases q : s.heap.get? b with
          | none => rfl
          | some o =>
            exact absurd (Nat.lt_of_lt_of_le (Heap.lt_size q) hb) (Nat.lt_irrefl _)
        refine fill_keys ((Walks.tuple hh3 _ l apart items).toS) s.heap.objs.size away ks size few val s.heap key (free _ (Nat.le_refl _)) (fun b hb => free b (by
            rw [List.mem_singleton.mp hb, more]
            exact Nat.le_succ _)) ?room (items.size - 0) 0 _ rfl (Nat.zero_le _) ⟨⟨_, Heap.get?_push_size _ rfl, rfl, rfl⟩, tup1.push _⟩ (fun b o e => Heap.get?_push_of_some _ (Heap.get?_push_of_some _ e))
          ⟨[], #[], 0, _, has_empty (Heap.get?_push_of_some _ atS), ⟨by simp [uniq, uniqTo], fun p hp => by cases hp⟩⟩ ?fin
        case room =>
          have : A.in1.in1.in1.units = A.units + 3 := by rfl
          omega
        case fin =>
          intro s' M es ep t m H f q
          obtain ⟨h', g2, d2, tk2, os2⟩ := s'
          obtain rfl : g2 = s.gens := m.gens
          obtain rfl : d2 = s.drawn := m.drawn
          obtain rfl : os2 = s.os := m.os
          show wpAny _ _ _ _ _ _
          refine wpAny_pure ?_
          show wpAny _ _ (ret Value.none) _ _ _
          rw [size] at f
          exact wpAny_pure ⟨rfl, h', tk2, M, es, ep, t, rfl, H, f, q⟩
      · cases r2 with
        | error e => exact hr2
        | ok f2 =>
          cases f2 with
          | ret u =>
            obtain ⟨rfl, h', tk, M, es, ep, t, rfl, H, f, q⟩ := hr2
            repeat (any_goals (first | assumption | wp_step))
            exact go _ _ _ _ _ _ H f q
          | _ => exact hr2.elim
    | _ => exact hr.elim
end
end PV.T
set_option Elab.async false
set_option linter.all false
set_option maxRecDepth 100000
set_option maxHeartbeats 4000000
/-! PV, part W: set(xs) of a list of ints. -/
namespace PV.T
open PySem PySem.Spec PyProof.Rows L2
section
variable {P : Program} {w : World} {A : Around} {E : Value → Shared → Prop} {s : Shared}
theorem set_of_ints {l : Addr} {items : Array Value} (ns : List Int) {Q : Value → Shared → Prop} (hh : A.handled = none) (tup : s.heap.IsList l items) (its : IntsAre items.toList ns) (few : ns.length + 1 < scanBound)
    (go : ∀ (h' : Heap) (tk c : Nat), SetR w h' s.heap.objs.size (fun j => decide (j ∈ ns)) c → c ≤ ns.length → (∀ b o, s.heap.get? b = some o → h'.get? b = some o) → Q (.ref s.heap.objs.size) { s with heap := h', toks := tk }) :
    wpAny (model P w) A (call (.type "set") [.ref l]) Q E s := by
  have size : items.size = ns.length := by
    have := IntsAre.length its
    simpa using this
  obtain ⟨c, tl, mro⟩ := F.called_set.mro
  have made := F.called_set.made
  have sub := F.called_set.sub
  refine wpAny_call (codeAny_of_tree ?_)
  show wpAny _ _ (callAny (.type "set") _) _ _ _
  refine wpAny_pure ⟨Code.quiet_builtin _ (by decide +kernel), codeAny_builtin F.entry_type_call ?_⟩
  rw [Around.under_plain (weight_type_call_type "set" [.ref l] []) rfl]
  have t1 := F.called_set.notType
  have t2 := F.called_set.canCreate
  have t3 := F.typeCall_set_1 (.ref l)
  repeat (any_goals (first | assumption | wp_step))
  refine codeAny_mono (code_set_led1 (.ref l) (E := E) (Q₁ := fun ob s1 => ob = .ref s.heap.objs.size ∧ s1 = { s with heap := s.heap.push (emptyO w) }) ⟨rfl, rfl⟩) fun r s1 hr => ?_
  cases r with
  | error e => exact hr
  | ok fl =>
    cases fl with
    | ret ob =>
      obtain ⟨rfl, rfl⟩ := hr
      have atS : (s.heap.push (emptyO w)).get? s.heap.objs.size = some (emptyO w) := Heap.get?_push_size _ rfl
      have typ : Shared.TypeIs { s with heap := s.heap.push (emptyO w) } (.ref s.heap.objs.size) "set" := ⟨_, atS, rfl⟩
      have i1 := F.called_set.init.lookup
      have i2 := F.called_set.init.bind (.ref s.heap.objs.size)
      repeat (any_goals (first | assumption | wp_step))
      refine codeAny_mono (codeAny_call_builtin (R := wants (fun r s2 => r = .none ∧ ∃ h' tk c, s2 = { s with heap := h', toks := tk } ∧ SetR w h' s.heap.objs.size (fun j => decide (j ∈ ns)) c ∧ c ≤ ns.length ∧
          ∀ b o, s.heap.get? b = some o → h'.get? b = some o) E) F.called_set.init.plain F.entry_set_init (check_set_init_1 typ ?_)) fun r2 s2 hr2 => ?_
      · obtain ⟨ot, ho, hc, nn, hd⟩ := id tup
        have lt : l < s.heap.objs.size := Heap.lt_size ho
        have ho1 : (s.heap.push (emptyO w)).get? l = some ot := Heap.get?_push_of_some _ ho
        have tup1 : (s.heap.push (emptyO w)).IsList l items := ⟨ot, ho1, hc, nn, hd⟩
        have n1 := F.sub_list_set
        have n2 := F.sub_list_frozenset
        have n3 : (Value.type "list" == Value.type "dict") = false := by decide
        have typT : Shared.TypeIs { s with heap := s.heap.push (emptyO w) } (.ref l) "list" := ⟨ot, ho1, hc⟩
        unfold Builtin.«set.__init__» noKeywords Builtin.Frozenset.updateFrom
        generalize eI : pyIter = PI
        wp_walk
        subst eI
        refine wpAny_pyIter_list tup1 ?_
        refine wpAny_bind (wpAny_runValue ?_)
        have hh3 : A.in1.in1.in1.handled = none := by simp [hh]
        have more : (s.heap.push (emptyO w)).objs.size = s.heap.objs.size + 1 := Heap.size_push ..
        have apart : l ≠ (s.heap.push (emptyO w)).objs.size := by
          rw [more]
          exact Nat.ne_of_lt (Nat.lt_succ_of_lt lt)
        have away : s.heap.objs.size ∉ [(s.heap.push (emptyO w)).objs.size, l] := by
          rw [more]
          simp only [List.mem_cons, List.not_mem_nil, or_false, not_or]
          exact ⟨Nat.ne_of_lt (Nat.lt_succ_self _), Nat.ne_of_gt lt⟩
        have val : ∀ (i : Nat) (v : Value), items[i]? = some v → ∃ k t, ns[i]? = some k ∧ v = .int k t := fun i v hv => by
          have hi : i < ns.length := by
            rw [← size]
            exact (Array.getElem?_eq_some_iff.mp hv).1
          obtain ⟨t, e⟩ := PyProof.Rows.IntsAre.int_at its i v (by rw [Array.getElem?_toList]; exact hv)
          exact ⟨ns[i], t, List.getElem?_eq_getElem hi, by simpa [hi] using e⟩
        refine set_update_ints ((Walks.list hh3 _ l apart items).toS) s.heap.objs.size away ns size few val (items.size - 0) 0 _ rfl (Nat.zero_le _) ⟨⟨_, Heap.get?_push_size _ rfl, rfl, rfl⟩, tup1.push _⟩
          ⟨0, Nat.le_refl 0, setR_new_at (Heap.get?_push_of_some _ atS)⟩ ?fin
        case fin =>
          intro s' c' m le R
          obtain ⟨h', g2, d2, tk2, os2⟩ := s'
          obtain rfl : g2 = s.gens := m.gens
          obtain rfl : d2 = s.drawn := m.drawn
          obtain rfl : os2 = s.os := m.os
          show wpAny _ _ _ _ _ _
          refine wpAny_pure ?_
          show wpAny _ _ (ret Value.none) _ _ _
          rw [size] at le
          refine wpAny_pure ⟨rfl, h', tk2, c', rfl, R, le, fun b o e => ?_⟩
          have lb : b < s.heap.objs.size := Heap.lt_size e
          refine m.heap b o ?_ (Heap.get?_push_of_some _ (Heap.get?_push_of_some _ e))
          simp only [List.mem_cons, List.not_mem_nil, or_false, not_or]
          exact ⟨Nat.ne_of_lt lb, by rw [more]; exact Nat.ne_of_lt (Nat.lt_succ_of_lt lb)⟩
      · cases r2 with
        | error e => exact hr2
        | ok f2 =>
          cases f2 with
          | ret u =>
            obtain ⟨rfl, h', tk, c', rfl, R, le, q⟩ := hr2
            repeat (any_goals (first | assumption | wp_step))
            exact go _ _ _ R le q
          | _ => exact hr2.elim
    | _ => exact hr.elim
end
end PV.T
set_option Elab.async false
set_option linter.all false
set_option maxRecDepth 100000
/-! PV, part B: how values of the heap stand for data. -/
namespace PV
open PySem PySem.Spec PyProof.Rows L2
/-- the program and the world of a proof -/
class Wd where
  prog : Program
  w : World
variable [Wd]
/-- a dict whose keys are tuples -/
def rawD (a : Addr) (ep : Nat) (xs : List (NestedKey × Addr × Value)) : Heap → Prop := fun h => (a == sysModules) = false ∧ xs.length ≤ sizeLine ∧
  ∃ o es, h.get? a = some o ∧ o.ExactDict ∧ o.data = .dict es ep ∧ es.toList = xs.map (entryOfKey (nestedKind Wd.prog Wd.w)) ∧ (xs.map (·.1)).Nodup
/-- a predicate of addresses: what no one changes -/
abbrev Pa := Addr → Prop
mutual
/-- the value v stands for the datum d; its lists are such as P lets -/
inductive RP (K : PySem.W.Frag) (H : Hp) (P : Pa) : V → D → Prop
  | non : RP K H P .non .none
  | bl (b : Bool) : RP K H P (.bl b) (.bool b)
  | int (i : Int) : RP K H P (.int i) (.int i)
  | str (x : Str) : RP K H P (.str x) (.str x)
  | lst {a : Addr} {xs : List V} {ds : List D} : P a → Rd H a (.lst xs) → RPs K H P xs ds → RP K H P (.ref a) (.list ds)
  | lit {a : Addr} {xs : List V} {ds : List D} : SqL K (fun _ => none) a xs → RPs K H P xs ds → RP K H P (.ref a) (.list ds)
  | tup {a : Addr} {xs : List V} {ds : List D} : SqT K H a xs → RPs K H P xs ds → RP K H P (.ref a) (.tuple ds)
  | dct {a : Addr} {ep : Nat} {xs : List (NestedKey × Addr × Value)} {ds : List (D × D)} : P a → Rd H a (.ext (rawD a ep xs)) → REs K H P xs ds → RP K H P (.ref a) (.dict ds)
inductive REs (K : PySem.W.Frag) (H : Hp) (P : Pa) : List (NestedKey × Addr × Value) → List (D × D) → Prop
  | nil : REs K H P [] []
  | cons {k : NestedKey} {b : Addr} {u : Value} {v : V} {d : D} {xs : List (NestedKey × Addr × Value)} {ds : List (D × D)} : k.depth ≤ 8 → RP K H P (.ref b) k.data → RelV v u → RP K H P v d → REs K H P xs ds → REs K H P ((k, b, u) :: xs) ((k.data, d) :: ds)
inductive RPs (K : PySem.W.Frag) (H : Hp) (P : Pa) : List V → List D → Prop
  | nil : RPs K H P [] []
  | cons {v : V} {vs : List V} {d : D} {ds : List D} : RP K H P v d → RPs K H P vs ds → RPs K H P (v :: vs) (d :: ds)
end
/-- a tuple, that a loop may hold -/
def tupO : HO → Bool
  | .tup _ => true
  | .frz _ (.tup _) => true
  | _ => false
/-- what is tracked where P holds stays, all tuples too -/
def Keep (P : Pa) (H H' : Hp) : Prop := ∀ a o, H a = some o → P a ∨ tupO o = true → H' a = some o
section
variable {K : PySem.W.Frag} {H H' H'' : Hp} {P P' : Pa}
theorem Keep.refl : Keep P H H := fun _ _ h _ => h
theorem Keep.trans (k : Keep P H H') (k' : Keep P H' H'') : Keep P H H'' := fun a o h p => k' a o (k a o h p) p
theorem Keep.mono (k : Keep P' H H') (h : ∀ a, P a → P' a) : Keep P H H' := fun a o e p => k a o e (p.imp_left (h a))
theorem Keep.all (k : ∀ a o, H a = some o → H' a = some o) : Keep P H H' := fun a o e _ => k a o e
theorem none_lit {a : Addr} {xs : List V} (s : SqL K (fun _ => none) a xs) : SqL K H a xs := by
  rcases s with h | h
  · rcases h with h | ⟨o, h⟩ <;> cases h
  · exact .inr h
mutual
theorem RP.keep (k : Keep P H H') (m : ∀ a, P a → P' a) : ∀ {v : V} {d : D}, RP K H P v d → RP K H' P' v d
  | _, _, .non => .non
  | _, _, .bl b => .bl b
  | _, _, .int i => .int i
  | _, _, .str x => .str x
  | _, _, .lst p s r => .lst (m _ p) (by
      rcases s with h | ⟨o, h⟩
      · exact .inl (k _ _ h (.inl p))
      · exact .inr ⟨o, k _ _ h (.inl p)⟩) (RPs.keep k m r)
  | _, _, .lit s r => .lit s (RPs.keep k m r)
  | _, _, .tup s r => .tup (by
      rcases s with h | h
      · rcases h with h | ⟨o, h⟩
        · exact .inl (.inl (k _ _ h (.inr rfl)))
        · exact .inl (.inr ⟨o, k _ _ h (.inr rfl)⟩)
      · exact .inr h) (RPs.keep k m r)
  | _, _, .dct p s r => .dct (m _ p) (by
      rcases s with h | ⟨o, h⟩
      · exact .inl (k _ _ h (.inl p))
      · exact .inr ⟨o, k _ _ h (.inl p)⟩) (REs.keep k m r)
theorem REs.keep (k : Keep P H H') (m : ∀ a, P a → P' a) : ∀ {xs : List (NestedKey × Addr × Value)} {ds : List (D × D)}, REs K H P xs ds → REs K H' P' xs ds
  | _, _, .nil => .nil
  | _, _, .cons n h1 h2 h3 r => .cons n (RP.keep k m h1) h2 (RP.keep k m h3) (REs.keep k m r)
theorem RPs.keep (k : Keep P H H') (m : ∀ a, P a → P' a) : ∀ {vs : List V} {ds : List D}, RPs K H P vs ds → RPs K H' P' vs ds
  | _, _, .nil => .nil
  | _, _, .cons h r => .cons (RP.keep k m h) (RPs.keep k m r)
end
mutual
/-- a free address is in no value -/
theorem RP.avoid {p : Addr} (n : H p = none) : ∀ {v : V} {d : D}, RP K H P v d → RP K H (fun a => P a ∧ a ≠ p) v d
  | _, _, .non => .non
  | _, _, .bl b => .bl b
  | _, _, .int i => .int i
  | _, _, .str x => .str x
  | _, _, .lst q s r => .lst ⟨q, by
      rintro rfl
      rcases s with h | ⟨o, h⟩ <;> (rw [n] at h; cases h)⟩ s (RPs.avoid n r)
  | _, _, .lit s r => .lit s (RPs.avoid n r)
  | _, _, .tup s r => .tup s (RPs.avoid n r)
  | _, _, .dct q s r => .dct ⟨q, by
      rintro rfl
      rcases s with h | ⟨o, h⟩ <;> (rw [n] at h; cases h)⟩ s (REs.avoid n r)
theorem REs.avoid {p : Addr} (n : H p = none) : ∀ {xs : List (NestedKey × Addr × Value)} {ds : List (D × D)}, REs K H P xs ds → REs K H (fun a => P a ∧ a ≠ p) xs ds
  | _, _, .nil => .nil
  | _, _, .cons m h1 h2 h3 r => .cons m (RP.avoid n h1) h2 (RP.avoid n h3) (REs.avoid n r)
theorem RPs.avoid {p : Addr} (n : H p = none) : ∀ {vs : List V} {ds : List D}, RPs K H P vs ds → RPs K H (fun a => P a ∧ a ≠ p) vs ds
  | _, _, .nil => .nil
  | _, _, .cons h r => .cons (RP.avoid n h) (RPs.avoid n r)
end
theorem RP.mono (m : ∀ a, P a → P' a) {v : V} {d : D} (r : RP K H P v d) : RP K H P' v d := r.keep Keep.refl m
theorem RPs.mono (m : ∀ a, P a → P' a) {v : List V} {d : List D} (r : RPs K H P v d) : RPs K H P' v d := r.keep Keep.refl m
/-- a list's, a tuple's items are to be read -/
theorem RP.list {v : V} {ds : List D} (r : RP K H P v (.list ds)) : ∃ a xs, v = .ref a ∧ SqL K H a xs ∧ RPs K H P xs ds := by
  cases r with
  | lst p s r => exact ⟨_, _, rfl, .inl s, r⟩
  | lit s r => exact ⟨_, _, rfl, none_lit s, r⟩
theorem RP.tuple {v : V} {ds : List D} (r : RP K H P v (.tuple ds)) : ∃ a xs, v = .ref a ∧ SqT K H a xs ∧ RPs K H P xs ds := by
  cases r with
  | tup s r => exact ⟨_, _, rfl, s, r⟩
theorem RPs.length : ∀ {vs : List V} {ds : List D}, RPs K H P vs ds → vs.length = ds.length
  | _, _, .nil => rfl
  | _, _, .cons _ r => by simp [RPs.length r]
theorem RPs.get : ∀ {vs : List V} {ds : List D}, RPs K H P vs ds → ∀ {i : Nat} {d : D}, ds[i]? = some d → ∃ v, vs[i]? = some v ∧ RP K H P v d
  | _, _, .nil, i, d, e => by simp at e
  | _, _, .cons h r, 0, d, e => by
    simp at e
    subst e
    exact ⟨_, rfl, h⟩
  | _, _, .cons h r, i + 1, d, e => by
    obtain ⟨v, h1, h2⟩ := RPs.get r (i := i) (d := d) (by simpa using e)
    exact ⟨v, by simpa using h1, h2⟩
theorem RPs.at : ∀ {vs : List V} {ds : List D}, RPs K H P vs ds → ∀ {i : Nat} {v : V}, vs[i]? = some v → ∃ d, ds[i]? = some d ∧ RP K H P v d
  | _, _, .nil, i, d, e => by simp at e
  | _, _, .cons h r, 0, d, e => by
    simp at e
    subst e
    exact ⟨_, rfl, h⟩
  | _, _, .cons h r, i + 1, d, e => by
    obtain ⟨v, h1, h2⟩ := RPs.at r (i := i) (v := d) (by simpa using e)
    exact ⟨v, by simpa using h1, h2⟩
theorem RPs.append : ∀ {vs ws : List V} {ds es : List D}, RPs K H P vs ds → RPs K H P ws es → RPs K H P (vs ++ ws) (ds ++ es)
  | _, _, _, _, .nil, s => s
  | _, _, _, _, .cons h r, s => .cons h (RPs.append r s)
theorem RPs.take : ∀ {vs : List V} {ds : List D} (n : Nat), RPs K H P vs ds → RPs K H P (vs.take n) (ds.take n)
  | _, _, 0, _ => .nil
  | _, _, _ + 1, .nil => .nil
  | _, _, n + 1, .cons h r => .cons h (RPs.take n r)
theorem RPs.drop : ∀ {vs : List V} {ds : List D} (n : Nat), RPs K H P vs ds → RPs K H P (vs.drop n) (ds.drop n)
  | _, _, 0, r => r
  | _, _, _ + 1, .nil => .nil
  | _, _, n + 1, .cons h r => RPs.drop n r
theorem RPs.set : ∀ {vs : List V} {ds : List D} (i : Nat) {v : V} {d : D}, RPs K H P vs ds → RP K H P v d → RPs K H P (vs.set i v) (ds.set i d)
  | _, _, _, _, _, .nil, _ => .nil
  | _, _, 0, _, _, .cons h r, q => .cons q r
  | _, _, i + 1, _, _, .cons h r, q => .cons h (RPs.set i r q)
theorem RPs.reverse : ∀ {vs : List V} {ds : List D}, RPs K H P vs ds → RPs K H P vs.reverse ds.reverse
  | _, _, .nil => .nil
  | _, _, .cons h r => by
    rw [List.reverse_cons, List.reverse_cons]
    exact RPs.append (RPs.reverse r) (.cons h .nil)
theorem RPs.dropLast {vs : List V} {ds : List D} (r : RPs K H P vs ds) : RPs K H P vs.dropLast ds.dropLast := by
  rw [List.dropLast_eq_take, List.dropLast_eq_take, r.length]
  exact r.take _
theorem RPs.eraseIdx : ∀ {vs : List V} {ds : List D} (i : Nat), RPs K H P vs ds → RPs K H P (vs.eraseIdx i) (ds.eraseIdx i)
  | _, _, _, .nil => .nil
  | _, _, 0, .cons h r => r
  | _, _, i + 1, .cons h r => .cons h (RPs.eraseIdx i r)
theorem RPs.rep {vs : List V} {ds : List D} (r : RPs K H P vs ds) : ∀ k : Nat, RPs K H P (List.replicate k vs).flatten (List.replicate k ds).flatten
  | 0 => .nil
  | k + 1 => by
    rw [List.replicate_succ, List.replicate_succ, List.flatten_cons, List.flatten_cons]
    exact r.append (RPs.rep r k)
mutual
/-- what has no list in it stands for whatever P -/
theorem RP.flat : ∀ {v : V} {d : D}, RP K H P v d → flat d = true → RP K H P' v d
  | _, _, .non, _ => .non
  | _, _, .bl b, _ => .bl b
  | _, _, .int i, _ => .int i
  | _, _, .str x, _ => .str x
  | _, _, .lst p s r, h => by simp [PV.flat] at h
  | _, _, .lit s r, h => by simp [PV.flat] at h
  | _, _, .tup s r, h => .tup s (RPs.flat r (by simpa [PV.flat] using h))
  | _, _, .dct p s r, h => by simp [PV.flat] at h
theorem RPs.flat : ∀ {vs : List V} {ds : List D}, RPs K H P vs ds → flat.flats ds = true → RPs K H P' vs ds
  | _, _, .nil, _ => .nil
  | _, _, .cons h r, q => by
    simp only [PV.flat.flats, Bool.and_eq_true] at q
    exact .cons (RP.flat h q.1) (RPs.flat r q.2)
end
mutual
theorem RP.dp : ∀ {v : V} {d : D}, RP K H P v d → noDict d = true → Dp K H v d
  | _, _, .non, _ => .non
  | _, _, .bl b, _ => .bl b
  | _, _, .int i, _ => .int i
  | _, _, .str x, _ => .str x
  | _, _, .lst p s r, h => .lst (.inl s) (RPs.dp r (by simpa [noDict] using h))
  | _, _, .lit s r, h => .lst (none_lit s) (RPs.dp r (by simpa [noDict] using h))
  | _, _, .tup s r, h => .tup s (RPs.dp r (by simpa [noDict] using h))
  | _, _, .dct p s r, h => by simp [noDict] at h
theorem RPs.dp : ∀ {vs : List V} {ds : List D}, RPs K H P vs ds → noDict.noDicts ds = true → DpAll K H vs ds
  | _, _, .nil, _ => .nil
  | _, _, .cons h r, q => by
    simp only [noDict.noDicts, Bool.and_eq_true] at q
    exact .cons (RP.dp h q.1) (RPs.dp r q.2)
end
theorem REs.mono (m : ∀ a, P a → P' a) {xs : List (NestedKey × Addr × Value)} {ds : List (D × D)} (r : REs K H P xs ds) : REs K H P' xs ds := r.keep Keep.refl m
theorem RPs.ints : ∀ {vs : List V} {ds : List D}, RPs K H P vs ds → ∀ {ns : List Int}, ints? ds = some ns → vs = ns.map V.int
  | _, _, .nil, ns, h => by
    simp [ints?] at h
    subst h
    rfl
  | _, _, .cons (d := d) (ds := ds) h r, ns, q => by
    cases h with
    | int i =>
      unfold ints? at q
      cases e : ints? ds with
      | none => simp [e] at q
      | some ms =>
        simp [e] at q
        subst q
        rw [List.map_cons, RPs.ints r e]
    | _ => simp [ints?] at q
theorem RPs.bools : ∀ {vs : List V} {ds : List D}, RPs K H P vs ds → ∀ {ns : List Bool}, bools? ds = some ns → vs = ns.map V.bl
  | _, _, .nil, ns, h => by
    simp [bools?] at h
    subst h
    rfl
  | _, _, .cons (d := d) (ds := ds) h r, ns, q => by
    cases h with
    | bl i =>
      unfold bools? at q
      cases e : bools? ds with
      | none => simp [e] at q
      | some ms =>
        simp [e] at q
        subst q
        rw [List.map_cons, RPs.bools r e]
    | _ => simp [bools?] at q
end
/-! ### the frame's slots -/
/-- a list that a def may change: its items -/
inductive ROwn (K : PySem.W.Frag) (H : Hp) (P : Pa) : Addr → D → Prop
  | lst {a : Addr} {xs : List V} {ds : List D} : H a = some (.lst xs) → RPs K H P xs ds → ROwn K H P a (.list ds)
  | dct {a : Addr} {ep : Nat} {xs : List (NestedKey × Addr × Value)} {ds : List (D × D)} : H a = some (.ext (rawD a ep xs)) → REs K H P xs ds → ROwn K H P a (.dict ds)
/-- the addresses of the frame's own lists -/
def OwnA (env : Fram) (σ : L2.St) (a : Addr) : Prop := ∃ (i : Nat) (d : D), env[i]? = some (.own d) ∧ σ[i]? = some (some (.ref a))
/-- what no one changes while the frame stands so -/
def Stb (P0 : Pa) (env : Fram) (σ : L2.St) : Pa := fun a => P0 a ∧ ¬ OwnA env σ a
/-- the frame: P0 where lists of values may stand -/
structure RE (K : PySem.W.Frag) (P0 : Pa) (env : Fram) (σ : L2.St) (H : Hp) : Prop where
  len : σ.length = env.length
  val : ∀ (i : Nat) (d : D), env[i]? = some (.val d) → ∃ v, σ[i]? = some (some v) ∧ RP K H (Stb P0 env σ) v d
  own : ∀ (i : Nat) (d : D), env[i]? = some (.own d) → ∃ a, σ[i]? = some (some (.ref a)) ∧ ROwn K H (Stb P0 env σ) a d
  inj : ∀ (i j : Nat) (d e : D) (a : Addr), env[i]? = some (.own d) → env[j]? = some (.own e) → σ[i]? = some (some (.ref a)) → σ[j]? = some (some (.ref a)) → i = j
  new : ∀ b, H b = none → P0 b
  pos : ∀ (i : Nat) (d : D) (a : Addr), i ≠ 0 → env[i]? = some (.own d) → σ[i]? = some (some (.ref a)) → P0 a
/-- all stays but the frame's own lists -/
def KeepO (env : Fram) (σ : L2.St) (H H' : Hp) : Prop := ∀ a o, H a = some o → ¬ OwnA env σ a → H' a = some o
section
variable {K : PySem.W.Frag} {H H' H'' : Hp} {P0 P1 : Pa} {env env' : Fram} {σ : L2.St}
theorem ROwn.keep {P P' : Pa} {a : Addr} {d : D} (r : ROwn K H P a d) (ka : ∀ o, H a = some o → tupO o = false → H' a = some o) (k : Keep P H H') (m : ∀ b, P b → P' b) : ROwn K H' P' a d := by
  cases r with
  | lst h q => exact .lst (ka _ h rfl) (q.keep k m)
  | dct h q => exact .dct (ka _ h rfl) (q.keep k m)
theorem ROwn.mono {P P' : Pa} {a : Addr} {d : D} (r : ROwn K H P a d) (m : ∀ b, P b → P' b) : ROwn K H P' a d := r.keep (fun _ e _ => e) Keep.refl m
theorem ROwn.there {P : Pa} {a : Addr} {d : D} (r : ROwn K H P a d) : ∃ o, H a = some o ∧ tupO o = false := by
  cases r with
  | lst h _ => exact ⟨_, h, rfl⟩
  | dct h _ => exact ⟨_, h, rfl⟩
theorem RE.ownAt (r : RE K P0 env σ H) {a : Addr} (h : OwnA env σ a) : ∃ o, H a = some o ∧ tupO o = false := by
  obtain ⟨i, d, e1, e2⟩ := h
  obtain ⟨b, e3, q⟩ := r.own i d e1
  rw [e2] at e3
  cases e3
  exact q.there
theorem KeepO.keep (r : RE K P0 env σ H) (k : KeepO env σ H H') : Keep (Stb P0 env σ) H H' := fun a o e h => k a o e fun ow => by
  rcases h with h | h
  · exact h.2 ow
  · obtain ⟨xs, e', ht⟩ := r.ownAt ow
    rw [e] at e'
    cases e'
    rw [ht] at h
    cases h
theorem KeepO.refl : KeepO env σ H H := fun _ _ e _ => e
theorem KeepO.all (k : ∀ a o, H a = some o → H' a = some o) : KeepO env σ H H' := fun a o e _ => k a o e
theorem KeepO.trans (k : KeepO env σ H H') (k' : KeepO env' σ H' H'') (m : ∀ a, OwnA env' σ a → OwnA env σ a) : KeepO env σ H H'' := fun a o e n => k' a o (k a o e n) fun z => n (m a z)
theorem upd_all {p : Addr} {o : HO} (n : H p = none) : ∀ a u, H a = some u → upd H p o a = some u := fun a u e => by
  rw [upd_ne (ne_of_none e n)]
  exact e
/-- the heap has grown -/
theorem RE.grow (r : RE K P0 env σ H) (k : ∀ a o, H a = some o → H' a = some o) : RE K P0 env σ H' where
  len := r.len
  val := fun i d e => let ⟨v, h1, h2⟩ := r.val i d e; ⟨v, h1, h2.keep (Keep.all k) fun _ z => z⟩
  own := fun i d e => by
    obtain ⟨a, h1, h2⟩ := r.own i d e
    exact ⟨a, h1, h2.keep (fun _ z _ => k _ _ z) (Keep.all k) fun _ z => z⟩
  inj := r.inj
  new := fun b e => r.new b (by
    cases q : H b with
    | none => rfl
    | some o =>
      rw [k b o q] at e
      cases e)
  pos := r.pos
/-- something new stands at p, and is not meant -/
theorem RE.fresh (r : RE K P0 env σ H) {p : Addr} (n : H p = none) {o : HO} : RE K (fun a => P0 a ∧ a ≠ p) env σ (upd H p o) where
  len := r.len
  val := fun i d e => by
    obtain ⟨v, h1, h2⟩ := r.val i d e
    exact ⟨v, h1, ((h2.avoid n).mono fun _ z => (⟨⟨z.1.1, z.2⟩, z.1.2⟩ : Stb (fun a => P0 a ∧ a ≠ p) env σ _)).keep (Keep.all (upd_all n)) fun _ z => z⟩
  own := fun i d e => by
    obtain ⟨a, h1, h2⟩ := r.own i d e
    refine ⟨a, h1, ?_⟩
    cases h2 with
    | lst h q => exact .lst (upd_all n _ _ h) (((q.avoid n).mono fun _ z => (⟨⟨z.1.1, z.2⟩, z.1.2⟩ : Stb (fun a => P0 a ∧ a ≠ p) env σ _)).keep (Keep.all (upd_all n)) fun _ z => z)
    | dct h q => exact .dct (upd_all n _ _ h) (((q.avoid n).mono fun _ z => (⟨⟨z.1.1, z.2⟩, z.1.2⟩ : Stb (fun a => P0 a ∧ a ≠ p) env σ _)).keep (Keep.all (upd_all n)) fun _ z => z)
  inj := r.inj
  new := fun b e => by
    have hb : b ≠ p := by
      rintro rfl
      rw [upd_same] at e
      cases e
    rw [upd_ne hb] at e
    exact ⟨r.new b e, hb⟩
  pos := fun i d a hi e1 e2 => ⟨r.pos i d a hi e1 e2, by
    rintro rfl
    obtain ⟨xs, q, _⟩ := r.ownAt ⟨i, d, e1, e2⟩
    rw [n] at q
    cases q⟩
theorem OwnA.val {i : Nat} {d : D} {v : V} {a : Addr} (h : OwnA (env.set i (.val d)) (σ.set i (some v)) a) : OwnA env σ a := by
  obtain ⟨j, e, h1, h2⟩ := h
  by_cases hj : i = j
  · subst hj
    by_cases hl : i < env.length
    · rw [List.getElem?_set_self hl] at h1
      cases h1
    · rw [List.getElem?_eq_none (by simpa using hl)] at h1
      cases h1
  · rw [List.getElem?_set_ne hj] at h1 h2
    exact ⟨j, e, h1, h2⟩
/-- a slot is given a value -/
theorem RE.setVal (r : RE K P0 env σ H) {i : Nat} {d : D} {v : V} (q : RP K H (Stb P0 env σ) v d) : RE K P0 (env.set i (.val d)) (σ.set i (some v)) H := by
  have m : ∀ a, Stb P0 env σ a → Stb P0 (env.set i (.val d)) (σ.set i (some v)) a := fun a z => ⟨z.1, fun w => z.2 w.val⟩
  have old : ∀ {j : Nat} {s : Slot}, i ≠ j → (env.set i (.val d))[j]? = some s → env[j]? = some s := fun {j s} hj e => by
    rw [List.getElem?_set_ne hj] at e
    exact e
  have ownj : ∀ {j : Nat} {e : D}, (env.set i (.val d))[j]? = some (.own e) → i ≠ j := fun {j e} h z => by
    subst z
    by_cases hl : i < env.length
    · rw [List.getElem?_set_self hl] at h
      cases h
    · rw [List.getElem?_eq_none (by simpa using hl)] at h
      cases h
  refine ⟨by simp [r.len], fun j e h => ?_, fun j e h => ?_, fun j k e f a h1 h2 h3 h4 => ?_, r.new, fun j e a h0 h1 h2 => ?_⟩
  · by_cases hj : i = j
    · subst hj
      by_cases hl : i < env.length
      · rw [List.getElem?_set_self hl] at h
        cases h
        exact ⟨v, List.getElem?_set_self (by rw [r.len]; exact hl), q.mono m⟩
      · rw [List.getElem?_eq_none (by simpa using hl)] at h
        cases h
    · obtain ⟨w, h1, h2⟩ := r.val j e (old hj h)
      exact ⟨w, by rw [List.getElem?_set_ne hj]; exact h1, h2.mono m⟩
  · have hj := ownj h
    obtain ⟨a, h1, h2⟩ := r.own j e (old hj h)
    refine ⟨a, by rw [List.getElem?_set_ne hj]; exact h1, h2.mono m⟩
  · have hj := ownj h1
    have hk := ownj h2
    rw [List.getElem?_set_ne hj] at h1 h3
    rw [List.getElem?_set_ne hk] at h2 h4
    exact r.inj j k e f a h1 h2 h3 h4
  · have hj := ownj h1
    rw [List.getElem?_set_ne hj] at h1 h2
    exact r.pos j e a h0 h1 h2
/-- a slot is given a new list -/
theorem RE.setOwn {b : Addr} (r : RE K (fun a => P0 a ∧ a ≠ b) env σ H) {i : Nat} {d : D} (hi : i < env.length) (hb : ¬ OwnA env σ b) (hp : P0 b) (q : ROwn K H (Stb (fun a => P0 a ∧ a ≠ b) env σ) b d) : RE K P0 (env.set i (.own d)) (σ.set i (some (.ref b))) H := by
  have m : ∀ a, Stb (fun a => P0 a ∧ a ≠ b) env σ a → Stb P0 (env.set i (.own d)) (σ.set i (some (.ref b))) a := fun a z => ⟨z.1.1, fun ⟨j, e, h1, h2⟩ => by
    by_cases hj : i = j
    · subst hj
      rw [List.getElem?_set_self (by rw [r.len]; exact hi)] at h2
      cases h2
      exact z.1.2 rfl
    · rw [List.getElem?_set_ne hj] at h1 h2
      exact z.2 ⟨j, e, h1, h2⟩⟩
  refine ⟨by simp [r.len], fun j e h => ?_, fun j e h => ?_, fun j k e f a h1 h2 h3 h4 => ?_, fun c h => (r.new c h).1, fun j e a h0 h1 h2 => ?_⟩
  · by_cases hj : i = j
    · subst hj
      rw [List.getElem?_set_self hi] at h
      cases h
    · rw [List.getElem?_set_ne hj] at h
      obtain ⟨w, h1, h2⟩ := r.val j e h
      exact ⟨w, by rw [List.getElem?_set_ne hj]; exact h1, h2.mono m⟩
  · by_cases hj : i = j
    · subst hj
      rw [List.getElem?_set_self hi] at h
      cases h
      exact ⟨b, List.getElem?_set_self (by rw [r.len]; exact hi), q.mono m⟩
    · rw [List.getElem?_set_ne hj] at h
      obtain ⟨a, h1, h2⟩ := r.own j e h
      refine ⟨a, by rw [List.getElem?_set_ne hj]; exact h1, h2.mono m⟩
  · by_cases hj : i = j
    · subst hj
      by_cases hk : i = k
      · exact hk
      · rw [List.getElem?_set_self (by rw [r.len]; exact hi)] at h3
        rw [List.getElem?_set_ne hk] at h2 h4
        cases h3
        exact absurd ⟨k, f, h2, h4⟩ hb
    · rw [List.getElem?_set_ne hj] at h1 h3
      by_cases hk : i = k
      · subst hk
        rw [List.getElem?_set_self (by rw [r.len]; exact hi)] at h4
        cases h4
        exact absurd ⟨j, e, h1, h3⟩ hb
      · rw [List.getElem?_set_ne hk] at h2 h4
        exact r.inj j k e f a h1 h2 h3 h4
  · by_cases hj : i = j
    · subst hj
      rw [List.getElem?_set_self (by rw [r.len]; exact hi)] at h2
      cases h2
      exact hp
    · rw [List.getElem?_set_ne hj] at h1 h2
      exact (r.pos j e a h0 h1 h2).1
/-- the own list of slot i is another one -/
theorem RE.changeG (r : RE K P0 env σ H) {i : Nat} {d d' : D} {a : Addr} {o : HO} (hi : env[i]? = some (.own d)) (hs : σ[i]? = some (some (.ref a))) (q : ∀ (H' : Hp) (P' : Pa), Keep (Stb P0 env σ) H H' → (∀ b, Stb P0 env σ b → P' b) → H' a = some o → ROwn K H' P' a d') :
    RE K P0 (env.set i (.own d')) σ (upd H a o) ∧ KeepO env σ H (upd H a o) := by
  have hl : i < env.length := (List.getElem?_eq_some_iff.mp hi).1
  have own : ∀ b, OwnA (env.set i (.own d')) σ b ↔ OwnA env σ b := fun b => by
    constructor
    · rintro ⟨j, e, h1, h2⟩
      by_cases hj : i = j
      · subst hj
        exact ⟨i, d, hi, h2⟩
      · rw [List.getElem?_set_ne hj] at h1
        exact ⟨j, e, h1, h2⟩
    · rintro ⟨j, e, h1, h2⟩
      by_cases hj : i = j
      · subst hj
        exact ⟨i, _, List.getElem?_set_self hl, h2⟩
      · exact ⟨j, e, by rw [List.getElem?_set_ne hj]; exact h1, h2⟩
  have m : ∀ b, Stb P0 env σ b → Stb P0 (env.set i (.own d')) σ b := fun b z => ⟨z.1, fun w => z.2 ((own b).mp w)⟩
  have ko : KeepO env σ H (upd H a o) := fun b u e n => by
    rw [upd_ne]
    · exact e
    · rintro rfl
      exact n ⟨i, d, hi, hs⟩
  have k := ko.keep r
  refine ⟨⟨by simp [r.len], fun j e h => ?_, fun j e h => ?_, fun j k e f b h1 h2 h3 h4 => ?_, fun b h => ?_, fun j e b h0 h1 h2 => ?_⟩, ko⟩
  · by_cases hj : i = j
    · subst hj
      rw [List.getElem?_set_self hl] at h
      cases h
    · rw [List.getElem?_set_ne hj] at h
      obtain ⟨w, h1, h2⟩ := r.val j e h
      exact ⟨w, h1, h2.keep k m⟩
  · by_cases hj : i = j
    · subst hj
      rw [List.getElem?_set_self hl] at h
      cases h
      exact ⟨a, hs, q _ _ k m upd_same⟩
    · rw [List.getElem?_set_ne hj] at h
      obtain ⟨b, h1, h2⟩ := r.own j e h
      have hb : b ≠ a := by
        rintro rfl
        exact hj (r.inj i j d e b hi h hs h1)
      exact ⟨b, h1, h2.keep (fun xs z _ => by rw [upd_ne hb]; exact z) k m⟩
  · have old : ∀ {j : Nat} {e : D}, (env.set i (.own d'))[j]? = some (.own e) → ∃ e', env[j]? = some (.own e') := fun {j e} h => by
      by_cases hj : i = j
      · subst hj
        exact ⟨d, hi⟩
      · rw [List.getElem?_set_ne hj] at h
        exact ⟨e, h⟩
    obtain ⟨e', q1⟩ := old h1
    obtain ⟨f', q2⟩ := old h2
    exact r.inj j k e' f' b q1 q2 h3 h4
  · by_cases hb : b = a
    · subst hb
      rw [upd_same] at h
      cases h
    · rw [upd_ne hb] at h
      exact r.new b h
  · by_cases hj : i = j
    · subst hj
      exact r.pos i d b h0 hi h2
    · rw [List.getElem?_set_ne hj] at h1
      exact r.pos j e b h0 h1 h2
/-- what was the frame's own is so no longer -/
theorem RE.change (r : RE K P0 env σ H) {i : Nat} {d d' : D} {a : Addr} {xs ys : List V} {es : List D} (hi : env[i]? = some (.own d)) (hs : σ[i]? = some (some (.ref a))) (q : RPs K H (Stb P0 env σ) ys es) :
    RE K P0 (env.set i (.own (.list es))) σ (upd H a (.lst ys)) ∧ KeepO env σ H (upd H a (.lst ys)) := r.changeG hi hs fun H' P' k m e => .lst e (q.keep k m)
theorem RE.freeze (r : RE K P0 env σ H) {i : Nat} {d : D} {a : Addr} (hi : env[i]? = some (.own d)) (hs : σ[i]? = some (some (.ref a))) (h0 : i ≠ 0) : RE K P0 (env.set i (.val d)) σ H ∧ RP K H (Stb P0 (env.set i (.val d)) σ) (.ref a) d ∧ ∀ b, OwnA (env.set i (.val d)) σ b → OwnA env σ b := by
  have hl : i < env.length := (List.getElem?_eq_some_iff.mp hi).1
  have ownj : ∀ {j : Nat} {e : D}, (env.set i (.val d))[j]? = some (.own e) → i ≠ j ∧ env[j]? = some (.own e) := fun {j e} h => by
    by_cases hj : i = j
    · subst hj
      rw [List.getElem?_set_self hl] at h
      cases h
    · rw [List.getElem?_set_ne hj] at h
      exact ⟨hj, h⟩
  have less : ∀ b, OwnA (env.set i (.val d)) σ b → OwnA env σ b := fun b ⟨j, e, h1, h2⟩ => ⟨j, e, (ownj h1).2, h2⟩
  have m : ∀ b, Stb P0 env σ b → Stb P0 (env.set i (.val d)) σ b := fun b z => ⟨z.1, fun w => z.2 (less b w)⟩
  have na : ¬ OwnA (env.set i (.val d)) σ a := fun ⟨j, e, h1, h2⟩ => by
    obtain ⟨hj, h1'⟩ := ownj h1
    exact hj (r.inj i j d e a hi h1' hs h2)
  have rp : RP K H (Stb P0 (env.set i (.val d)) σ) (.ref a) d := by
    obtain ⟨b, h1, h2⟩ := r.own i d hi
    rw [hs] at h1
    cases h1
    cases h2 with
    | lst h q => exact .lst ⟨r.pos i _ a h0 hi hs, na⟩ (.inl h) (q.mono m)
    | dct h q => exact .dct ⟨r.pos i _ a h0 hi hs, na⟩ (.inl h) (q.mono m)
  refine ⟨⟨by simp [r.len], fun j e h => ?_, fun j e h => ?_, fun j k e f b h1 h2 h3 h4 => ?_, r.new, fun j e b h0 h1 h2 => r.pos j e b h0 (ownj h1).2 h2⟩, rp, less⟩
  · by_cases hj : i = j
    · subst hj
      rw [List.getElem?_set_self hl] at h
      cases h
      exact ⟨_, hs, rp⟩
    · rw [List.getElem?_set_ne hj] at h
      obtain ⟨w, h1, h2⟩ := r.val j e h
      exact ⟨w, h1, h2.mono m⟩
  · obtain ⟨hj, h'⟩ := ownj h
    obtain ⟨b, h1, h2⟩ := r.own j e h'
    exact ⟨b, h1, h2.mono m⟩
  · exact r.inj j k e f b (ownj h1).2 (ownj h2).2 h3 h4
end
end PV
set_option Elab.async false
set_option linter.all false
set_option maxRecDepth 100000
/-! PV, part C: what the evaluator says of an expression, as a reading of the hand layer; the rules of the layer entail it. -/
namespace PV
open PySem PySem.Spec PyProof.Rows L2
variable [Wd]
/-- what is wanted of a result -/
def Post {A : Type} (r : Res A) (k : A → Prop) (x : Exc → Fram → Prop) : Prop := match r with
  | .ok a => k a
  | .exc z e => x z e
  | .bad => False
theorem post_bind {A B : Type} {r : Res A} {f : A → Res B} {k : B → Prop} {x : Exc → Fram → Prop} : Post (r.bind f) k x ↔ Post r (fun a => Post (f a) k x) x := by
  cases r <;> exact Iff.rfl
theorem post_opt {A : Type} {o : Option A} {k : A → Prop} {x : Exc → Fram → Prop} : Post (opt o) k x ↔ ∃ a, o = some a ∧ k a := by
  cases o with
  | none => exact ⟨fun h => h.elim, fun ⟨_, e, _⟩ => by cases e⟩
  | some a => exact ⟨fun h => ⟨a, rfl, h⟩, fun ⟨_, e, h⟩ => by cases e; exact h⟩
theorem Post.imp {A : Type} {r : Res A} {k k' : A → Prop} {x x' : Exc → Fram → Prop} (h : Post r k x) (hk : ∀ a, k a → k' a) (hx : ∀ z e, x z e → x' z e) : Post r k' x' := by
  cases r with
  | ok a => exact hk a h
  | exc z e => exact hx z e h
  | bad => exact h
/-- how the frame stands behind an expression -/
structure Aft (K : PySem.W.Frag) (P0 : Pa) (env : Fram) (σ : L2.St) (H : Hp) (env' : Fram) (H' : Hp) : Prop where
  re : RE K P0 env' σ H'
  ko : KeepO env σ H H'
  less : ∀ a, OwnA env' σ a → OwnA env σ a
  tr : ∀ a, H' a = none → H a = none
section
variable {K : PySem.W.Frag} {H H' H1 H2 : Hp} {P0 P : Pa} {env env' env1 env2 : Fram} {σ : L2.St}
theorem none_grow (k : ∀ a o, H a = some o → H' a = some o) : ∀ a, H' a = none → H a = none := fun a h => by
  cases e : H a with
  | none => rfl
  | some o =>
    rw [k a o e] at h
    cases h
theorem Aft.refl (r : RE K P0 env σ H) : Aft K P0 env σ H env H := ⟨r, KeepO.refl, fun _ h => h, fun _ h => h⟩
theorem Aft.trans (a : Aft K P0 env σ H env1 H1) (b : Aft K P0 env1 σ H1 env2 H2) : Aft K P0 env σ H env2 H2 := ⟨b.re, a.ko.trans b.ko a.less, fun c h => a.less c (b.less c h), fun c h => a.tr c (b.tr c h)⟩
theorem Aft.stb (a : Aft K P0 env σ H env1 H1) : ∀ c, Stb P0 env σ c → Stb P0 env1 σ c := fun c h => ⟨h.1, fun w => h.2 (a.less c w)⟩
theorem Aft.rp (a : Aft K P0 env σ H env1 H1) (r : RE K P0 env σ H) {v : V} {d : D} (q : RP K H (Stb P0 env σ) v d) : RP K H1 (Stb P0 env1 σ) v d := q.keep (a.ko.keep r) a.stb
theorem Aft.rps (a : Aft K P0 env σ H env1 H1) (r : RE K P0 env σ H) {v : List V} {d : List D} (q : RPs K H (Stb P0 env σ) v d) : RPs K H1 (Stb P0 env1 σ) v d := q.keep (a.ko.keep r) a.stb
/-- the heap has grown -/
theorem Aft.grow (r : RE K P0 env σ H) (k : ∀ a o, H a = some o → H' a = some o) : Aft K P0 env σ H env H' := ⟨r.grow k, KeepO.all k, fun _ h => h, none_grow k⟩
/-- a free address is not the frame's own, and may be a value's -/
theorem RE.stbNew (r : RE K P0 env σ H) {p : Addr} (n : H p = none) : Stb P0 env σ p := ⟨r.new p n, fun w => by
  obtain ⟨xs, e, _⟩ := r.ownAt w
  rw [n] at e
  cases e⟩
end
/-- what is wanted of an exception: the exception, the frame -/
abbrev WZ := Exc → Pa → Fram → L2.St → Hp → Prop
def XP (K : PySem.W.Frag) (W : WZ) (P0 : Pa) (env : Fram) (σ : L2.St) (H : Hp) (z : Exc) (e : Fram) : Prop := ∀ H', Aft K P0 env σ H e H' → W z P0 e σ H'
/-- an expression -/
def tE (Ph : CallF) (K : PySem.W.Frag) (W : WZ) (e : Exp) : TE := fun σ H Q => ∃ (P0 : Pa) (env : Fram), RE K P0 env σ H ∧
  Post (ev Ph e env) (fun p => ∀ v H', Aft K P0 env σ H p.2 H' → RP K H' (Stb P0 p.2 σ) v p.1 → Q v H') (XP K W P0 env σ H)
/-- a test -/
def tT (Ph : CallF) (K : PySem.W.Frag) (W : WZ) (e : Exp) : TT := fun σ H Q => ∃ (P0 : Pa) (env : Fram), RE K P0 env σ H ∧
  Post (ev Ph e env) (fun p => ∃ b, p.1 = .bool b ∧ ∀ H', Aft K P0 env σ H p.2 H' → Q b H') (XP K W P0 env σ H)
/-- a value for an operand -/
def ROp (K : PySem.W.Frag) (H : Hp) (P : Pa) (σ : L2.St) (v : V) : Opd → Prop
  | .val d => RP K H P v d
  | .slot i => σ[i]? = some (some v)
inductive ROps (K : PySem.W.Frag) (H : Hp) (P : Pa) (σ : L2.St) : List V → List Opd → Prop
  | nil : ROps K H P σ [] []
  | cons {v : V} {vs : List V} {o : Opd} {os : List Opd} : ROp K H P σ v o → ROps K H P σ vs os → ROps K H P σ (v :: vs) (o :: os)
def tO (Ph : CallF) (K : PySem.W.Frag) (W : WZ) (e : Exp) : TE := fun σ H Q => ∃ (P0 : Pa) (env : Fram), RE K P0 env σ H ∧
  Post (opd e env (ev Ph e env)) (fun p => ∀ v H', Aft K P0 env σ H p.2 H' → ROp K H' (Stb P0 p.2 σ) σ v p.1 → Q v H') (XP K W P0 env σ H)
def tEs (Ph : CallF) (K : PySem.W.Frag) (W : WZ) (e : Exs) : TA := fun σ H Q => ∃ (P0 : Pa) (env : Fram), RE K P0 env σ H ∧
  Post (evs Ph e env) (fun p => ∀ v H', Aft K P0 env σ H p.2 H' → RPs K H' (Stb P0 p.2 σ) v p.1 → Q v H') (XP K W P0 env σ H)
def tOs (Ph : CallF) (K : PySem.W.Frag) (W : WZ) (e : Exs) : TA := fun σ H Q => ∃ (P0 : Pa) (env : Fram), RE K P0 env σ H ∧
  Post (evp Ph e env) (fun p => ∀ v H', Aft K P0 env σ H p.2 H' → ROps K H' (Stb P0 p.2 σ) σ v p.1 → Q v H') (XP K W P0 env σ H)
/-- a value that is looked at: a datum's, or the frame's own list -/
inductive RW (K : PySem.W.Frag) (H : Hp) (P : Pa) : V → D → Prop
  | val {v : V} {d : D} : RP K H P v d → RW K H P v d
  | own {a : Addr} {d : D} : ROwn K H P a d → RW K H P (.ref a) d
inductive RWs (K : PySem.W.Frag) (H : Hp) (P : Pa) : List V → List D → Prop
  | nil : RWs K H P [] []
  | cons {v : V} {vs : List V} {d : D} {ds : List D} : RW K H P v d → RWs K H P vs ds → RWs K H P (v :: vs) (d :: ds)
section
variable {K : PySem.W.Frag} {W : WZ} {H H' H1 H2 : Hp} {P0 P P' : Pa} {env env' env1 env2 : Fram} {σ : L2.St} {Ph : CallF}
theorem RW.list {v : V} {ds : List D} (r : RW K H P v (.list ds)) : ∃ a xs, v = .ref a ∧ SqL K H a xs ∧ RPs K H P xs ds := by
  cases r with
  | val q => exact q.list
  | own q => cases q with
    | lst h q => exact ⟨_, _, rfl, SqL.of h, q⟩
theorem RW.tuple {v : V} {ds : List D} (r : RW K H P v (.tuple ds)) : ∃ a xs, v = .ref a ∧ SqT K H a xs ∧ RPs K H P xs ds := by
  cases r with
  | val q => exact q.tuple
  | own q => cases q
theorem RW.int {v : V} {i : Int} (r : RW K H P v (.int i)) : v = .int i := by
  cases r with
  | val q => cases q; rfl
  | own q => cases q
theorem RW.bool {v : V} {i : Bool} (r : RW K H P v (.bool i)) : v = .bl i := by
  cases r with
  | val q => cases q; rfl
  | own q => cases q
theorem RW.str {v : V} {i : Str} (r : RW K H P v (.str i)) : v = .str i := by
  cases r with
  | val q => cases q; rfl
  | own q => cases q
theorem RW.dp {v : V} {d : D} (r : RW K H P v d) (n : noDict d = true) : Dp K H v d := by
  cases r with
  | val q => exact q.dp n
  | own q => cases q with
    | lst h q => exact .lst (SqL.of h) (q.dp (by simpa [noDict] using n))
    | dct h q => cases n
theorem RE.look (r : RE K P0 env σ H) {i : Nat} {d : D} {v : V} (h : look env i = some d) (hs : σ[i]? = some (some v)) : RW K H (Stb P0 env σ) v d := by
  unfold PV.look at h
  split at h
  · rename_i d' e
    cases h
    obtain ⟨w, h1, h2⟩ := r.val i _ e
    rw [hs] at h1
    cases h1
    exact .val h2
  · rename_i d' e
    cases h
    obtain ⟨a, h1, h2⟩ := r.own i _ e
    rw [hs] at h1
    cases h1
    exact .own h2
  · cases h
theorem RE.deref (r : RE K P0 env σ H) {o : Opd} {d : D} {v : V} (h : deref env o = some d) (q : ROp K H (Stb P0 env σ) σ v o) : RW K H (Stb P0 env σ) v d := by
  cases o with
  | val e =>
    cases (show some e = some d from h)
    exact .val q
  | slot i => exact r.look h q
theorem RE.derefs (r : RE K P0 env σ H) : ∀ {os : List Opd} {ds : List D} {vs : List V}, derefs env os = some ds → ROps K H (Stb P0 env σ) σ vs os → RWs K H (Stb P0 env σ) vs ds
  | [], ds, vs, h, q => by
    cases h
    cases q
    exact .nil
  | o :: os, ds, vs, h, q => by
    cases q with
    | cons q1 q2 =>
      unfold PV.derefs at h
      cases e : PV.deref env o with
      | none => rw [e] at h; cases h
      | some d =>
        rw [e] at h
        cases e2 : PV.derefs env os with
        | none => rw [e2] at h; cases h
        | some es =>
          rw [e2] at h
          cases h
          exact .cons (r.deref e q1) (RE.derefs r e2 q2)
theorem Aft.rop (a : Aft K P0 env σ H env1 H1) (r : RE K P0 env σ H) {v : V} {o : Opd} (q : ROp K H (Stb P0 env σ) σ v o) : ROp K H1 (Stb P0 env1 σ) σ v o := by
  cases o with
  | val d => exact a.rp r q
  | slot i => exact q
theorem XP.after (a : Aft K P0 env σ H env1 H1) {z : Exc} {e : Fram} (x : XP K W P0 env σ H z e) : XP K W P0 env1 σ H1 z e := fun H' b => x H' (a.trans b)
/-- one expression, then what follows -/
theorem tE_of (r : RE K P0 env σ H) {e : Exp} {R : V → Hp → Prop} {k : D × Fram → Prop} (h : Post (ev Ph e env) k (XP K W P0 env σ H))
    (hk : ∀ d env1, k (d, env1) → ∀ v H1, Aft K P0 env σ H env1 H1 → RP K H1 (Stb P0 env1 σ) v d → R v H1) : tE Ph K W e σ H R :=
  ⟨P0, env, r, h.imp (fun p q v H1 a b => hk p.1 p.2 q v H1 a b) fun _ _ x => x⟩
theorem tO_of (r : RE K P0 env σ H) {e : Exp} {R : V → Hp → Prop} {k : Opd × Fram → Prop} (h : Post (opd e env (ev Ph e env)) k (XP K W P0 env σ H))
    (hk : ∀ d env1, k (d, env1) → ∀ v H1, Aft K P0 env σ H env1 H1 → ROp K H1 (Stb P0 env1 σ) σ v d → R v H1) : tO Ph K W e σ H R :=
  ⟨P0, env, r, h.imp (fun p q v H1 a b => hk p.1 p.2 q v H1 a b) fun _ _ x => x⟩
theorem tEs_of (r : RE K P0 env σ H) {e : Exs} {R : List V → Hp → Prop} {k : List D × Fram → Prop} (h : Post (evs Ph e env) k (XP K W P0 env σ H))
    (hk : ∀ d env1, k (d, env1) → ∀ v H1, Aft K P0 env σ H env1 H1 → RPs K H1 (Stb P0 env1 σ) v d → R v H1) : tEs Ph K W e σ H R :=
  ⟨P0, env, r, h.imp (fun p q v H1 a b => hk p.1 p.2 q v H1 a b) fun _ _ x => x⟩
theorem tOs_of (r : RE K P0 env σ H) {e : Exs} {R : List V → Hp → Prop} {k : List Opd × Fram → Prop} (h : Post (evp Ph e env) k (XP K W P0 env σ H))
    (hk : ∀ d env1, k (d, env1) → ∀ v H1, Aft K P0 env σ H env1 H1 → ROps K H1 (Stb P0 env1 σ) σ v d → R v H1) : tOs Ph K W e σ H R :=
  ⟨P0, env, r, h.imp (fun p q v H1 a b => hk p.1 p.2 q v H1 a b) fun _ _ x => x⟩
theorem tT_of (r : RE K P0 env σ H) {e : Exp} {R : Bool → Hp → Prop} {k : D × Fram → Prop} (h : Post (ev Ph e env) k (XP K W P0 env σ H))
    (hk : ∀ d env1, k (d, env1) → ∃ b, d = .bool b ∧ ∀ H1, Aft K P0 env σ H env1 H1 → R b H1) : tT Ph K W e σ H R :=
  ⟨P0, env, r, h.imp (fun p q => hk p.1 p.2 q) fun _ _ x => x⟩
end
theorem PE.imp {X : Cx} {e : Expr} {t t' : TE} (h : PE X e t) (m : ∀ σ H Q, t' σ H Q → t σ H Q) : PE X e t' := ⟨fun pins s σ H Q I q => h.run pins s σ H Q I (m σ H Q q)⟩
theorem PT.imp {X : Cx} {e : Expr} {t t' : TT} (h : PT X e t) (m : ∀ σ H Q, t' σ H Q → t σ H Q) : PT X e t' := ⟨fun pins s σ H Q I q => h.run pins s σ H Q I (m σ H Q q)⟩
theorem PA.imp {X : Cx} {e : List Expr} {t t' : TA} (h : PA X e t) (m : ∀ σ H Q, t' σ H Q → t σ H Q) : PA X e t' := ⟨fun pos pins s σ H Q I q => h.run pos pins s σ H Q I (m σ H Q q)⟩
section
variable {K : PySem.W.Frag} {W : WZ} {Ph : CallF} {σ : L2.St} {H : Hp} {Q : VK}
/-! ### the simple ones -/
theorem ent_var {i : Nat} (h : tE Ph K W (.var i) σ H Q) : tVar i σ H Q := by
  obtain ⟨P0, env, r, h⟩ := h
  unfold ev readVar at h
  split at h
  · rename_i d e
    obtain ⟨v, h1, h2⟩ := r.val i d e
    exact ⟨v, h1, h v H (Aft.refl r) h2⟩
  · rename_i d e
    split at h
    · exact h.elim
    · rename_i h0
      obtain ⟨a, h1, _⟩ := r.own i d e
      obtain ⟨f1, f2, f3⟩ := r.freeze e h1 h0
      exact ⟨.ref a, h1, h _ H ⟨f1, KeepO.refl, f3, fun _ h => h⟩ f2⟩
  · exact h.elim
theorem ent_con {e : Exp} {v : V} {d : D} (he : ∀ env, ev Ph e env = .ok (d, env)) (hv : ∀ H P, RP K H P v d) (h : tE Ph K W e σ H Q) : tC v σ H Q := by
  obtain ⟨P0, env, r, h⟩ := h
  rw [he] at h
  exact h v H (Aft.refl r) (hv _ _)
theorem ent_opd {e : Exp} {t : TE} (h1 : ∀ Q, tE Ph K W e σ H Q → t σ H Q) (h2 : ∀ i, e = .var i → t = tVar i) (h : tO Ph K W e σ H Q) : t σ H Q := by
  obtain ⟨P0, env, r, h⟩ := h
  have plain : Post ((ev Ph e env).bind fun p => .ok (Opd.val p.1, p.2)) (fun p => ∀ v H', Aft K P0 env σ H p.2 H' → ROp K H' (Stb P0 p.2 σ) σ v p.1 → Q v H') (XP K W P0 env σ H) → t σ H Q := fun h =>
    h1 _ (tE_of r (post_bind.mp h) fun d env1 q v H1 a b => q v H1 a b)
  unfold opd at h
  split at h
  · rename_i i
    split at h
    · rename_i ho
      rw [h2 i rfl]
      unfold isOwn at ho
      split at ho
      · rename_i d e
        obtain ⟨a, e1, _⟩ := r.own i d e
        exact ⟨_, e1, h _ H (Aft.refl r) e1⟩
      · cases ho
    · exact plain h
  · exact plain h
end
end PV
set_option Elab.async false
set_option linter.all false
set_option maxRecDepth 100000
set_option maxHeartbeats 2000000
/-! PV, part D: operators over data. -/
namespace PV
open PySem PySem.Spec PyProof.Rows L2
variable [Wd]
/-- what an operation leaves: the heap has grown, the value stands for d, a list is new -/
structure Out (K : PySem.W.Frag) (P : Pa) (H : Hp) (v : V) (d : D) (H' : Hp) : Prop where
  grow : ∀ a u, H a = some u → H' a = some u
  rp : RP K H' P v d
/-- a list that is new -/
def FreshL (K : PySem.W.Frag) (P : Pa) (H : Hp) (v : V) (d : D) (H' : Hp) : Prop := ∀ ds, d = .list ds → ∃ p vs, v = .ref p ∧ H p = none ∧ H' = upd H p (.lst vs) ∧ RPs K H P vs ds
def rBin (K : PySem.W.Frag) (o : Bop) : R2 := fun x y H Q => ∃ (P : Pa) (dx dy dz : D), (∀ b, H b = none → P b) ∧ RW K H P x dx ∧ RW K H P y dy ∧ binF o dx dy = some dz ∧
  ∀ v H', Out K P H v dz H' → FreshL K P H v dz H' → Q v H'
section
variable {X : Cx} {K : PySem.W.Frag} {P : Pa} {H : Hp}
theorem out_int (i : Int) : Out K P H (.int i) (.int i) H := ⟨fun _ _ e => e, .int i⟩
theorem fresh_int (i : Int) : FreshL K P H (.int i) (.int i) H := fun _ e => by cases e
theorem out_lst {p : Addr} {vs : List V} {ds : List D} (new : ∀ b, H b = none → P b) (n : H p = none) (r : RPs K H P vs ds) : Out K P H (.ref p) (.list ds) (upd H p (.lst vs)) :=
  ⟨upd_all n, .lst (new p n) (.inl upd_same) (r.keep (Keep.all (upd_all n)) fun _ z => z)⟩
theorem fresh_lst {p : Addr} {vs : List V} {ds : List D} (n : H p = none) (r : RPs K H P vs ds) : FreshL K P H (.ref p) (.list ds) (upd H p (.lst vs)) := fun es e => by
  cases e
  exact ⟨p, vs, rfl, n, rfl, r⟩
theorem out_tup {p : Addr} {vs : List V} {ds : List D} (n : H p = none) (r : RPs K H P vs ds) : Out K P H (.ref p) (.tuple ds) (upd H p (.tup vs)) :=
  ⟨upd_all n, .tup (SqT.of upd_same) (r.keep (Keep.all (upd_all n)) fun _ z => z)⟩
theorem sz_line : LINE = sizeLine := by rw [sizeLine_eq]
theorem opb_sub : OpR X (binaryOp .Sub) (rBin X.K .sub) := by
  intro pins s σ H x y v u Q I rx ry h
  obtain ⟨P, dx, dy, dz, new, hx, hy, e, q⟩ := h
  cases dx <;> cases dy <;> simp only [binF] at e <;> try cases e
  cases hx.int
  cases hy.int
  exact op_sub pins s σ H _ _ v u Q I rx ry ⟨_, _, rfl, rfl, q _ _ (out_int _) (fresh_int _)⟩
theorem opb_band : OpR X (binaryOp .BitAnd) (rBin X.K .band) := by
  intro pins s σ H x y v u Q I rx ry h
  obtain ⟨P, dx, dy, dz, new, hx, hy, e, q⟩ := h
  cases dx <;> cases dy <;> simp only [binF] at e <;> try cases e
  cases hx.int
  cases hy.int
  exact op_and pins s σ H _ _ v u Q I rx ry ⟨_, _, rfl, rfl, q _ _ (out_int _) (fresh_int _)⟩
theorem opb_shr : OpR X (binaryOp .RShift) (rBin X.K .shr) := by
  intro pins s σ H x y v u Q I rx ry h
  obtain ⟨P, dx, dy, dz, new, hx, hy, e, q⟩ := h
  cases dx <;> cases dy <;> simp only [binF] at e <;> try cases e
  cases hx.int
  cases hy.int
  split at e
  · rename_i hc
    cases e
    exact op_shr pins s σ H _ _ v u Q I rx ry ⟨_, _, rfl, rfl, hc, q _ _ (out_int _) (fresh_int _)⟩
  · cases e
theorem opb_pow : OpR X (binaryOp .Pow) (rBin X.K .pow) := by
  intro pins s σ H x y v u Q I rx ry h
  obtain ⟨P, dx, dy, dz, new, hx, hy, e, q⟩ := h
  cases dx <;> cases dy <;> simp only [binF] at e <;> try cases e
  cases hx.int
  cases hy.int
  split at e
  · rename_i hc
    cases e
    exact op_pow pins s σ H _ _ v u Q I rx ry ⟨_, _, rfl, rfl, hc, q _ _ (out_int _) (fresh_int _)⟩
  · cases e
theorem opb_shl : OpR X (binaryOp .LShift) (rBin X.K .shl) := by
  intro pins s σ H x y v u Q I rx ry h
  obtain ⟨P, dx, dy, dz, new, hx, hy, e, q⟩ := h
  cases dx <;> cases dy <;> simp only [binF] at e <;> try cases e
  cases hx.int
  cases hy.int
  split at e
  · rename_i hc
    cases e
    exact op_shl pins s σ H _ _ v u Q I rx ry ⟨_, _, rfl, rfl, hc, q _ _ (out_int _) (fresh_int _)⟩
  · cases e
theorem opb_mod : OpR X (binaryOp .Mod) (rBin X.K .mod) := by
  intro pins s σ H x y v u Q I rx ry h
  obtain ⟨P, dx, dy, dz, new, hx, hy, e, q⟩ := h
  cases dx <;> cases dy <;> simp only [binF] at e <;> try cases e
  cases hx.int
  cases hy.int
  split at e
  · rename_i hc
    cases e
    exact op_modN pins s σ H _ _ v u Q I rx ry ⟨_, _, rfl, rfl, hc, q _ _ (out_int _) (fresh_int _)⟩
  · cases e
theorem op_fdivA : OpR X (binaryOp .FloorDiv) (rI (fun _ j => j ≠ 0 ∧ j.natAbs.log2 < 9000) fun i j => .int (i.fdiv j)) := opI fun _ _ _ _ _ _ _ hc q => floordiv_int hc.1 q (.inl (PyProof.noPylong_of_log2 hc.2))
theorem opb_fdiv : OpR X (binaryOp .FloorDiv) (rBin X.K .fdiv) := by
  intro pins s σ H x y v u Q I rx ry h
  obtain ⟨P, dx, dy, dz, new, hx, hy, e, q⟩ := h
  cases dx <;> cases dy <;> simp only [binF] at e <;> try cases e
  cases hx.int
  cases hy.int
  split at e
  · rename_i hc
    cases e
    exact op_fdivA pins s σ H _ _ v u Q I rx ry ⟨_, _, rfl, rfl, hc, q _ _ (out_int _) (fresh_int _)⟩
  · cases e
/-- lists of any standing -/
theorem op_catL {pins : List (Addr × Obj)} {s : Shared} {σ : L2.St} {H : Hp} {a b : Addr} {xs zs : List V} {Q : VK} (I : Inv X pins σ H s) (ha : SqL X.K H a xs) (hb : SqL X.K H b zs) (hz : xs.length + zs.length ≤ sizeLine)
    (q : ∀ p, H p = none → Q (.ref p) (upd H p (.lst (xs ++ zs)))) : wpAny (model X.prog X.w) X.A (binaryOp .Add (.ref a) (.ref b)) (EP X pins σ Q) X.xe s := by
  obtain ⟨its, r1, ⟨⟨c1, d1, dt1, sl1⟩, n1, e1, h1, h1', h1''⟩, _⟩ := I.list ha
  obtain ⟨its2, r2, ⟨⟨c2, d2, dt2, sl2⟩, n2, e2, h2, h2', h2''⟩, _⟩ := I.list hb
  simp only at h1 h1' h1'' h2 h2' h2''
  subst h1 h1' h1'' h2 h2' h2''
  have l1 := r1.length
  have l2 := r2.length
  refine concat_meets ⟨_, e1, rfl⟩ ⟨_, e2, rfl⟩ noFill_list_add seq_list_add PySem.F.slot_list_add PySem.F.entry_list_add (PySem.F.args_list_add_2 _ _) (list_addW a b its.toArray its2.toArray n1 n2 none none sl1 sl2 (by simp; omega)) ⟨e1, e2, ?_⟩
  have ea : its.toArray ++ its2.toArray = (its ++ its2).toArray := by simp
  rw [ea]
  exact ⟨.ref _, _, I.lnew (t' := s.toks) (r1.append r2) (by rw [List.length_append]; omega), rfl, q _ I.fresh⟩
theorem opb_add : OpR X (binaryOp .Add) (rBin X.K .add) := by
  intro pins s σ H x y v u Q I rx ry h
  obtain ⟨P, dx, dy, dz, new, hx, hy, e, q⟩ := h
  cases dx <;> cases dy <;> simp only [binF] at e <;> try cases e
  · cases hx.int
    cases hy.int
    exact op_add pins s σ H _ _ v u Q I rx ry ⟨_, _, rfl, rfl, q _ _ (out_int _) (fresh_int _)⟩
  · cases hx.str
    cases hy.str
    split at e
    · rename_i hc
      cases e
      exact op_add_str pins s σ H _ _ v u Q I rx ry ⟨_, _, rfl, rfl, by rw [← sz_line]; exact hc, q _ _ ⟨fun _ _ e => e, .str _⟩ (fun _ e => by cases e)⟩
    · cases e
  · obtain ⟨a, xs, rfl, ha, ra⟩ := hx.list
    obtain ⟨b, ys, rfl, hb, rb⟩ := hy.list
    cases rx
    cases ry
    split at e
    · rename_i hc
      cases e
      exact op_catL I ha hb (by rw [ra.length, rb.length, ← sz_line]; exact hc) fun p n => q _ _ (out_lst new n (ra.append rb)) (fresh_lst n (ra.append rb))
    · cases e
  · obtain ⟨a, xs, rfl, ha, ra⟩ := hx.tuple
    obtain ⟨b, ys, rfl, hb, rb⟩ := hy.tuple
    split at e
    · rename_i hc
      cases e
      refine op_catA pins s σ H _ _ v u Q I rx ry ⟨a, b, xs, ys, rfl, rfl, ha, hb, by rw [ra.length, rb.length, ← sz_line]; exact hc, fun z => ?_, fun _ z => ?_, fun _ _ p n => ?_⟩
      · have l := ra.append rb
        rw [z, List.nil_append] at l
        exact q _ _ ⟨fun _ _ e => e, .tup hb l⟩ (fun _ e => by cases e)
      · have l := ra.append rb
        rw [z, List.append_nil] at l
        exact q _ _ ⟨fun _ _ e => e, .tup ha l⟩ (fun _ e => by cases e)
      · exact q _ _ (out_tup n (ra.append rb)) (fun _ e => by cases e)
    · cases e
/-! a list, a tuple, times a number -/
theorem tuple_mul_same (l : Addr) (items : Array Value) (n : Nat) (dd : Option Addr) (sl : Array (Option Value)) (x : Int) (u : Tok) (c0 : (decide (x < -(2 ^ 63)) || decide (x ≥ 2 ^ 63)) = false) (c1 : (items.isEmpty || x == 1) = true) :
    Meets (Builtin.«tuple.__mul__» ⟨[.ref l, .int x u], []⟩) (fun _ R s => s.heap.get? l = some { cls := .type "tuple", dict := dd, data := .seq items n, slots := sl } ∧ R (.ok (.ret (Value.ref l))) s) :=
  .of_wp fun prog w A R s h => by
    obtain ⟨hp, g, d, tk, os⟩ := s
    obtain ⟨hl, h⟩ := h
    have f1 := AutoSeq1.idx_int
    wp_walk using wpAny_loadPart' hl
    repeat (first
      | (refine wpAny_ite_false (decide_eq_false (by rw [c0]; exact Bool.false_ne_true)) ?_; wp_walk using wpAny_loadPart' hl)
      | (refine wpAny_ite_true (decide_eq_true c1) ?_; wp_walk using wpAny_loadPart' hl))
    exact ⟨_, rfl, h⟩
theorem tuple_mul_none (l : Addr) (items : Array Value) (n : Nat) (dd : Option Addr) (sl : Array (Option Value)) (x : Int) (u : Tok) (c0 : (decide (x < -(2 ^ 63)) || decide (x ≥ 2 ^ 63)) = false) (c1 : (items.isEmpty || x == 1) = false) (c2 : (decide (x ≤ 0) || items.isEmpty) = true) :
    Meets (Builtin.«tuple.__mul__» ⟨[.ref l, .int x u], []⟩) (fun _ R s => s.heap.get? l = some { cls := .type "tuple", dict := dd, data := .seq items n, slots := sl } ∧
      R (.ok (.ret (Value.ref s.heap.objs.size))) { s with heap := s.heap.push { cls := Value.type "tuple", data := Data.seq #[] }, toks := s.toks }) :=
  .of_wp fun prog w A R s h => by
    obtain ⟨hp, g, d, tk, os⟩ := s
    obtain ⟨hl, h⟩ := h
    have f1 := AutoSeq1.idx_int
    wp_walk using wpAny_loadPart' hl
    repeat (first
      | (refine wpAny_ite_false (decide_eq_false (by rw [c0]; exact Bool.false_ne_true)) ?_; wp_walk using wpAny_loadPart' hl)
      | (refine wpAny_ite_false (decide_eq_false (by rw [c1]; exact Bool.false_ne_true)) ?_; wp_walk using wpAny_loadPart' hl)
      | (refine wpAny_ite_true (decide_eq_true c2) ?_; wp_walk using wpAny_loadPart' hl))
    exact ⟨_, rfl, h⟩
theorem op_repTA {pins : List (Addr × Obj)} {s : Shared} {σ : L2.St} {H : Hp} {a : Addr} {k : Int} {t : Tok} {xs : List V} {Q : VK} (I : Inv X pins σ H s) (ha : SqT X.K H a xs) (h0 : -(2 ^ 62) ≤ k) (h1 : k ≤ 1000) (hz : xs.length ≤ 1000)
    (q1 : k = 1 ∨ xs = [] → Q (.ref a) H) (q2 : k ≠ 1 → xs ≠ [] → ∀ p, H p = none → Q (.ref p) (upd H p (.tup (List.replicate k.toNat xs).flatten))) : wpAny (model X.prog X.w) X.A (binaryOp .Mult (.ref a) (.int k t)) (EP X pins σ Q) X.xe s := by
  by_cases hk : 2 ≤ k ∧ xs ≠ []
  · exact op_repT pins s σ H (.ref a) (.int k) _ _ Q I rfl ⟨t, rfl⟩ ⟨a, k, xs, rfl, rfl, ha, hk.2, hk.1, h1, hz, q2 (by omega) hk.2⟩
  · obtain ⟨its, r, ⟨⟨cls, dd, data, sl⟩, ho, hc, n, hd⟩, hs⟩ := I.tuple ha
    simp only at hc hd
    subst hc hd
    have hl := r.length
    have hemp : its.toArray.isEmpty = xs.isEmpty := by
      cases xs <;> cases its <;> first | rfl | (simp at hl)
    have c0 : (decide (k < -(2 ^ 63)) || decide (k ≥ 2 ^ 63)) = false := by
      rw [decide_eq_false (by omega), decide_eq_false (by omega)] <;> rfl
    by_cases h : k = 1 ∨ xs = []
    · have c1 : (its.toArray.isEmpty || k == 1) = true := by
        rw [hemp]
        rcases h with h | h
        · subst h
          simp
        · subst h
          rfl
      refine wpAny_binaryOp_repeat_ref (T := "tuple") (U := "int") (by decide) ⟨_, ho, rfl⟩ (fun s' => typeIs_int s' k t) noFill_tuple_mul F.fills_int_mul F.slot_int_rmul repeat_tuple F.slot_int_index.lookup
        (call_meets F.slot_int_rmul (typeIs_int s k t) F.entry_int_rmul (F.args_int_rmul_2 _ _) (int_rmul_tuple k t a its.toArray n dd sl)
          ⟨ho, rfl, ⟨_, ho, rfl⟩, call_meets F.slot_tuple_mul ⟨_, ho, rfl⟩ F.entry_tuple_mul (F.args_tuple_mul_2 _ _) (tuple_mul_same a its.toArray n dd sl k t c0 c1) ⟨ho, ?_⟩⟩)
      exact ⟨.ref a, H, I, rfl, q1 h⟩
    · have h2 : k ≠ 1 ∧ xs ≠ [] := ⟨fun z => h (.inl z), fun z => h (.inr z)⟩
      have h3 : k ≤ 0 := by
        by_cases z : 2 ≤ k
        · exact absurd ⟨z, h2.2⟩ hk
        · omega
      have hx : xs.isEmpty = false := by
        cases xs with
        | nil => exact absurd rfl h2.2
        | cons _ _ => rfl
      have c1 : (its.toArray.isEmpty || k == 1) = false := by
        rw [hemp, hx, Bool.false_or]
        exact beq_eq_false_iff_ne.mpr h2.1
      have c2 : (decide (k ≤ 0) || its.toArray.isEmpty) = true := by
        rw [decide_eq_true h3]
        rfl
      refine wpAny_binaryOp_repeat_ref (T := "tuple") (U := "int") (by decide) ⟨_, ho, rfl⟩ (fun s' => typeIs_int s' k t) noFill_tuple_mul F.fills_int_mul F.slot_int_rmul repeat_tuple F.slot_int_index.lookup
        (call_meets F.slot_int_rmul (typeIs_int s k t) F.entry_int_rmul (F.args_int_rmul_2 _ _) (int_rmul_tuple k t a its.toArray n dd sl)
          ⟨ho, rfl, ⟨_, ho, rfl⟩, call_meets F.slot_tuple_mul ⟨_, ho, rfl⟩ F.entry_tuple_mul (F.args_tuple_mul_2 _ _) (tuple_mul_none a its.toArray n dd sl k t c0 c1 c2) ⟨ho, ?_⟩⟩)
      have q := q2 h2.1 h2.2 _ (I.hok.fresh (Nat.le_refl _))
      have e0 : k.toNat = 0 := by omega
      rw [e0] at q
      refine ⟨.ref s.heap.objs.size, _, I.laid (t' := s.toks) (o := .tup []) (fun b ob q => Heap.get?_push_of_some _ q) (Nat.le_refl _) ?_, rfl, q⟩
      exact ⟨by simp, [], .nil, IsTup.new _ _⟩
theorem op_repL {pins : List (Addr × Obj)} {s : Shared} {σ : L2.St} {H : Hp} {a : Addr} {k : Int} {t : Tok} {xs : List V} {Q : VK} (I : Inv X pins σ H s) (ha : SqL X.K H a xs) (h1 : -(2 ^ 63) ≤ k) (h2 : k < 2 ^ 63) (hz : xs.length * k.toNat ≤ sizeLine)
    (q : ∀ p, H p = none → Q (.ref p) (upd H p (.lst (List.replicate k.toNat xs).flatten))) : wpAny (model X.prog X.w) X.A (binaryOp .Mult (.ref a) (.int k t)) (EP X pins σ Q) X.xe s := by
  obtain ⟨its, r, ⟨⟨cls, dd, dt, sl⟩, n, e, hc, hd, hs⟩, _⟩ := I.list ha
  simp only at hc hd hs
  subst hc hd hs
  have hl := r.length
  have hlen : its.toArray.size * k.toNat ≤ sizeLine := by rw [List.size_toArray, ← hl]; exact hz
  have hcap : ¬ its.toArray.size * k.toNat > (2 ^ 63 - 1) / 8 := by
    have z : (sizeLine : Nat) ≤ (2 ^ 63 - 1) / 8 := by decide
    omega
  have hfit : ¬ (!Builtin.List.listFitsIndex k) = true := by rw [fitsIndex_both h1 h2] <;> exact Bool.false_ne_true
  have hlong : ¬ Builtin.List.listTooLong (its.toArray.size * k.toNat) = true := by rw [notLongL hlen] <;> exact Bool.false_ne_true
  refine wpAny_binaryOp_repeat_ref (T := "list") (U := "int") (by decide) ⟨_, e, rfl⟩ (fun s' => typeIs_int s' k t) noFill_list_mul F.fills_int_mul F.slot_int_rmul repeat_list F.slot_int_index.lookup
    (call_meets F.slot_int_rmul (typeIs_int s k t) F.entry_int_rmul (F.args_int_rmul_2 _ _) (lm_int_rmul_list_any k t a its.toArray n none sl)
      ⟨e, rfl, ⟨_, e, rfl⟩, call_meets F.slot_list_mul ⟨_, e, rfl⟩ F.entry_list_mul (F.args_list_mul_2 _ _) (lm_list_mul_any a its.toArray n none sl k t hfit hcap hlong) ⟨e, ?_⟩⟩)
  have hnew : List.foldl (fun x1 x2 => x1 ++ x2) #[] (List.replicate (if its.toArray.isEmpty = true then 0 else k.toNat) its.toArray) = (List.replicate k.toNat its).flatten.toArray := by
    have f0 := fun m : Nat => (foldl_rep its m []).trans (by rw [List.nil_append])
    rw [f0]
    cases its with
    | nil => simp
    | cons a r' => rw [if_neg (by simp)]
  rw [hnew]
  exact ⟨.ref _, _, I.lnew (t' := s.toks) (r.rep k.toNat) (by rw [PyProof.Rows.lm_len_rep_flat, Nat.mul_comm]; exact hz), rfl, q _ I.fresh⟩
theorem rep_one (xs : List D) : (List.replicate (1 : Int).toNat xs).flatten = xs := by simp
theorem rep_nil {A : Type} (k : Nat) : (List.replicate k ([] : List A)).flatten = [] := by induction k <;> simp_all [List.replicate_succ]
theorem opb_mul : OpR X (binaryOp .Mult) (rBin X.K .mul) := by
  intro pins s σ H x y v u Q I rx ry h
  obtain ⟨P, dx, dy, dz, new, hx, hy, e, q⟩ := h
  cases dx <;> cases dy <;> simp only [binF] at e <;> try cases e
  · cases hx.int
    cases hy.int
    split at e
    · rename_i hc
      cases e
      exact op_mulW pins s σ H _ _ v u Q I rx ry ⟨_, _, rfl, rfl, hc, q _ _ (out_int _) (fresh_int _)⟩
    · cases e
  · cases hy.int
    obtain ⟨a, xs, rfl, ha, ra⟩ := hx.list
    cases rx
    obtain ⟨t, rfl⟩ := ry
    split at e
    · rename_i hc
      cases e
      refine op_repL I ha (by omega) (by omega) (by rw [ra.length, ← sz_line]; exact hc.2.2) fun p n => q _ _ (out_lst new n (ra.rep _)) (fresh_lst n (ra.rep _))
    · cases e
  · cases hy.int
    obtain ⟨a, xs, rfl, ha, ra⟩ := hx.tuple
    cases rx
    obtain ⟨t, rfl⟩ := ry
    split at e
    · rename_i hc
      cases e
      refine op_repTA I ha hc.1 hc.2.1 (by rw [ra.length]; exact hc.2.2) (fun z => ?_) fun _ _ p n => q _ _ (out_tup n (ra.rep _)) (fun _ e => by cases e)
      refine q _ _ ⟨fun _ _ e => e, ?_⟩ (fun _ e => by cases e)
      rcases z with z | z
      · subst z
        rw [rep_one]
        exact .tup ha ra
      · subst z
        cases ra
        rw [rep_nil]
        exact .tup ha .nil
    · cases e
end
end PV
set_option Elab.async false
set_option linter.all false
set_option maxRecDepth 100000
set_option maxHeartbeats 2000000
/-! PV, part E: comparisons, indexes, slices, calls of builtins over data. -/
namespace PV
open PySem PySem.Spec PyProof.Rows L2
variable [Wd]
/-- the room that a frame has -/
structure RoomX (X : Cx) : Prop where
  un : X.A.units + 100 < cLine
  gd : X.A.guards = some []
  pw : X.prog = Wd.prog ∧ X.w = Wd.w
def rCmp (K : PySem.W.Frag) (o : Cop) : R2 := fun x y H Q => ∃ (P : Pa) (dx dy : D) (b : Bool), RW K H P x dx ∧ RW K H P y dy ∧ cmpF o dx dy = some b ∧ Q (.bl b) H
section
variable {X : Cx} {K : PySem.W.Frag} {P : Pa} {H : Hp}
theorem eqOk_and {d e : D} (h : (eqOk d && eqOk e) = true) : (SeqAt.shaped d = true ∧ SeqAt.shaped e = true) ∧ noDict d = true ∧ noDict e = true := by
  unfold eqOk at h
  simp only [Bool.and_eq_true] at h
  obtain ⟨⟨⟨a, b⟩, c⟩, ⟨a', b'⟩, c'⟩ := h
  exact ⟨⟨by unfold SeqAt.shaped; simp only [Bool.and_eq_true]; exact ⟨a, b⟩, by unfold SeqAt.shaped; simp only [Bool.and_eq_true]; exact ⟨a', b'⟩⟩, c, c'⟩
theorem opc_eq (rm : RoomX X) : OpR X (compareOp .Eq) (rCmp X.K .eq) := by
  intro pins s σ H x y v u Q I rx ry h
  obtain ⟨P, dx, dy, b, hx, hy, e, q⟩ := h
  simp only [cmpF] at e
  split at e
  · rename_i hc
    cases e
    have un := rm.un
    exact op_eqD (by omega) pins s σ H _ _ v u Q I rx ry ⟨dx, dy, hx.dp (eqOk_and hc).2.1, hy.dp (eqOk_and hc).2.2, (eqOk_and hc).1.1, (eqOk_and hc).1.2, q⟩
  · split at e
    · cases e
      rename_i xs _
      obtain ⟨a, vs, rfl, ha, ra⟩ := hx.tuple
      obtain ⟨c, ws, rfl, hc, rc⟩ := hy.tuple
      obtain ⟨its, r1, tup, _⟩ := I.tuple ha
      obtain ⟨its2, r2, tup2, _⟩ := I.tuple hc
      cases rc
      cases r2
      cases rx
      cases ry
      have t1 : s.heap.IsTuple a its.toArray := tup
      have t2 : s.heap.IsTuple c #[] := tup2
      have un := rm.un
      have eb : (((List.range (min its.toArray.size (#[] : Array Value).size)).all fun _ => true) && its.toArray.size == (#[] : Array Value).size) = xs.isEmpty := by
        have h1 := r1.length
        have h2 := ra.length
        cases xs with
        | nil => cases ra; cases r1; rfl
        | cons x xs => cases ra; cases r1; rfl
      refine EqBoolInt.of_rc (SeqAt.RcAt.tuples (e := fun _ => true) t1 t2 (by omega) fun j h1 h2 => absurd h2 (by simp)) ?_
      rw [eb]
      exact ⟨.bl _, H, I, rfl, q⟩
    · cases e
theorem opc_ne (rm : RoomX X) : OpR X (compareOp .NotEq) (rCmp X.K .ne) := by
  intro pins s σ H x y v u Q I rx ry h
  obtain ⟨P, dx, dy, b, hx, hy, e, q⟩ := h
  simp only [cmpF] at e
  split at e
  · rename_i hc
    cases e
    have un := rm.un
    exact op_neD (by omega) pins s σ H _ _ v u Q I rx ry ⟨dx, dy, hx.dp (eqOk_and hc).2.1, hy.dp (eqOk_and hc).2.2, (eqOk_and hc).1.1, (eqOk_and hc).1.2, q⟩
  · cases e
theorem ordF_s {x y : D} {b c : Bool} (h : ordF x y b = some c) : PySem.W.alike x y = true ∧ x.depth ≤ 64 ∧ b = c ∧ noDict x = true ∧ noDict y = true := by
  unfold ordF at h
  split at h
  · rename_i hc
    cases h
    simp only [Bool.and_eq_true, decide_eq_true_eq] at hc
    exact ⟨hc.1.1, hc.1.2, rfl, hc.2.1, hc.2.2⟩
  · cases h
theorem opc_lt (rm : RoomX X) : OpR X (compareOp .Lt) (rCmp X.K .lt) := by
  intro pins s σ H x y v u Q I rx ry h
  obtain ⟨P, dx, dy, b, hx, hy, e, q⟩ := h
  cases dx <;> cases dy <;> simp only [cmpF] at e <;> try cases e
  · cases hx.int
    cases hy.int
    exact op_lt pins s σ H _ _ v u Q I rx ry ⟨_, _, rfl, rfl, q⟩
  · obtain ⟨al, dp, rfl, n1, n2⟩ := ordF_s e
    obtain ⟨as, r1⟩ := Dp.reads I _ x v (hx.dp n1) rx
    obtain ⟨bs, r2⟩ := Dp.reads I _ y u (hy.dp n2) ry
    have un := rm.un
    exact PySem.W.lt_data r1 r2 al (by intro z; cases z) (by omega) ⟨.bl _, H, I, rfl, q⟩
theorem opc_le (rm : RoomX X) : OpR X (compareOp .LtE) (rCmp X.K .le) := by
  intro pins s σ H x y v u Q I rx ry h
  obtain ⟨P, dx, dy, b, hx, hy, e, q⟩ := h
  cases dx <;> cases dy <;> simp only [cmpF] at e <;> try cases e
  · cases hx.int
    cases hy.int
    exact op_le pins s σ H _ _ v u Q I rx ry ⟨_, _, rfl, rfl, q⟩
  · obtain ⟨al, dp, rfl, n1, n2⟩ := ordF_s e
    obtain ⟨as, r1⟩ := Dp.reads I _ x v (hx.dp n1) rx
    obtain ⟨bs, r2⟩ := Dp.reads I _ y u (hy.dp n2) ry
    have un := rm.un
    exact PySem.W.le_data r1 r2 al (by intro z; cases z) (by omega) ⟨.bl _, H, I, rfl, q⟩
theorem opc_gt (rm : RoomX X) : OpR X (compareOp .Gt) (rCmp X.K .gt) := by
  intro pins s σ H x y v u Q I rx ry h
  obtain ⟨P, dx, dy, b, hx, hy, e, q⟩ := h
  cases dx <;> cases dy <;> simp only [cmpF] at e <;> try cases e
  · cases hx.int
    cases hy.int
    exact op_gt pins s σ H _ _ v u Q I rx ry ⟨_, _, rfl, rfl, q⟩
  · obtain ⟨al, dp, rfl, n1, n2⟩ := ordF_s e
    obtain ⟨as, r1⟩ := Dp.reads I _ x v (hx.dp n1) rx
    obtain ⟨bs, r2⟩ := Dp.reads I _ y u (hy.dp n2) ry
    have un := rm.un
    exact PySem.W.gt_data r1 r2 al (by intro z; cases z) (by omega) ⟨.bl _, H, I, rfl, q⟩
theorem opc_ge (rm : RoomX X) : OpR X (compareOp .GtE) (rCmp X.K .ge) := by
  intro pins s σ H x y v u Q I rx ry h
  obtain ⟨P, dx, dy, b, hx, hy, e, q⟩ := h
  cases dx <;> cases dy <;> simp only [cmpF] at e <;> try cases e
  · cases hx.int
    cases hy.int
    exact op_ge pins s σ H _ _ v u Q I rx ry ⟨_, _, rfl, rfl, q⟩
  · obtain ⟨al, dp, rfl, n1, n2⟩ := ordF_s e
    obtain ⟨as, r1⟩ := Dp.reads I _ x v (hx.dp n1) rx
    obtain ⟨bs, r2⟩ := Dp.reads I _ y u (hy.dp n2) ry
    have un := rm.un
    exact PySem.W.ge_data r1 r2 al (by intro z; cases z) (by omega) ⟨.bl _, H, I, rfl, q⟩
theorem opc_in (rm : RoomX X) : OpR X (compareOp .In) (rCmp X.K .inn) := by
  intro pins s σ H x y v u Q I rx ry h
  obtain ⟨P, dx, dy, b, hx, hy, e, q⟩ := h
  have un := rm.un
  cases dy <;> simp only [cmpF] at e <;> try cases e
  · split at e
    · rename_i hc
      cases e
      exact op_inD (by omega) pins s σ H _ _ v u Q I rx ry ⟨dx, _, hx.dp (eqOk_and hc).2.1, hy.dp (eqOk_and hc).2.2, (eqOk_and hc).1.1, (eqOk_and hc).1.2, q⟩
    · cases e
  · split at e
    · rename_i hc
      cases e
      obtain ⟨as, r1⟩ := Dp.reads I _ x v (hx.dp (eqOk_and hc).2.1) rx
      obtain ⟨bs, r2⟩ := Dp.reads I _ y u (hy.dp (eqOk_and hc).2.2) ry
      exact SeqAt.in_tuple_reads r2 r1 (SeqAt.canLay_of_shaped (eqOk_and hc).1.2) (SeqAt.canLay_of_shaped (eqOk_and hc).1.1) (room_in_shaped (eqOk_and hc).1.1 (by omega)) ⟨.bl _, H, I, rfl, q⟩
    · cases e
theorem opc_notin (rm : RoomX X) : OpR X (compareOp .NotIn) (rCmp X.K .notin) := by
  intro pins s σ H x y v u Q I rx ry h
  obtain ⟨P, dx, dy, b, hx, hy, e, q⟩ := h
  have un := rm.un
  cases dy <;> simp only [cmpF] at e <;> try cases e
  · split at e
    · rename_i hc
      cases e
      exact op_notInD (by omega) pins s σ H _ _ v u Q I rx ry ⟨dx, _, hx.dp (eqOk_and hc).2.1, hy.dp (eqOk_and hc).2.2, (eqOk_and hc).1.1, (eqOk_and hc).1.2, q⟩
    · cases e
  · split at e
    · rename_i hc
      cases e
      obtain ⟨as, r1⟩ := Dp.reads I _ x v (hx.dp (eqOk_and hc).2.1) rx
      obtain ⟨bs, r2⟩ := Dp.reads I _ y u (hy.dp (eqOk_and hc).2.2) ry
      exact SeqAt.notIn_tuple_reads r2 r1 (SeqAt.canLay_of_shaped (eqOk_and hc).1.2) (SeqAt.canLay_of_shaped (eqOk_and hc).1.1) (room_in_shaped (eqOk_and hc).1.1 (by omega)) ⟨.bl _, H, I, rfl, q⟩
    · cases e
/-! indexes -/
def rIdx (K : PySem.W.Frag) : R2 := fun x y H Q => ∃ (P : Pa) (dx dy dz : D), RW K H P x dx ∧ RP K H P y dy ∧ idxF dx dy = some dz ∧ ∀ v, RP K H P v dz → Q v H
/-! keys -/
mutual
theorem nk_data : ∀ k : NestedKey, nk? k.data = some k
  | .none => rfl
  | .num i => rfl
  | .text x => rfl
  | .tup ks => by
    unfold NestedKey.data nk?
    rw [nks_data ks]
    rfl
theorem nks_data : ∀ ks : List NestedKey, nks? (NestedKey.datas ks) = some ks
  | [] => rfl
  | k :: ks => by
    unfold NestedKey.datas nks?
    rw [nk_data k, nks_data ks]
    rfl
end
mutual
theorem data_nk : ∀ {d : D} {k : NestedKey}, nk? d = some k → d = k.data
  | .none, k, h => by
    simp only [nk?, Option.some.injEq] at h
    subst h
    rfl
  | .int i, k, h => by
    simp only [nk?, Option.some.injEq] at h
    subst h
    rfl
  | .str x, k, h => by
    simp only [nk?, Option.some.injEq] at h
    subst h
    rfl
  | .tuple ds, k, h => by
    unfold nk? at h
    obtain ⟨ks, h1, rfl⟩ := Option.map_eq_some_iff.mp h
    unfold NestedKey.data
    rw [datas_nk h1]
  | .bool _, k, h => by simp [nk?] at h
  | .list _, k, h => by simp [nk?] at h
  | .dict _, k, h => by simp [nk?] at h
theorem datas_nk : ∀ {ds : List D} {ks : List NestedKey}, nks? ds = some ks → ds = NestedKey.datas ks
  | [], ks, h => by
    simp only [nks?, Option.some.injEq] at h
    subst h
    rfl
  | d :: ds, ks, h => by
    unfold nks? at h
    obtain ⟨k, h1, h⟩ := Option.bind_eq_some_iff.mp h
    obtain ⟨r, h2, rfl⟩ := Option.map_eq_some_iff.mp h
    unfold NestedKey.datas
    rw [data_nk h1, datas_nk h2]
end
mutual
theorem noDict_data : ∀ k : NestedKey, noDict k.data = true
  | .none => rfl
  | .num i => rfl
  | .text x => rfl
  | .tup ks => by
    unfold NestedKey.data noDict
    exact noDicts_data ks
theorem noDicts_data : ∀ ks : List NestedKey, noDict.noDicts (NestedKey.datas ks) = true
  | [] => rfl
  | k :: ks => by
    unfold NestedKey.datas noDict.noDicts
    rw [noDict_data k, noDicts_data ks]
    rfl
end
mutual
theorem nested_reads {h : Heap} : ∀ (k : NestedKey) {u : Value} {as : List Addr}, Reads h u k.data as → NestedIs h k u
  | .none, u, as, r => by
    cases r
    exact .none
  | .num i, u, as, r => by
    cases r
    exact .int _ _
  | .text x, u, as, r => by
    cases r
    exact .text _ _
  | .tup ks, u, as, r => by
    unfold NestedKey.data at r
    cases r with
    | tuple h1 h2 h3 h4 => exact .tup h1 h2 h3 (nested_readsAll ks h4)
theorem nested_readsAll {h : Heap} : ∀ (ks : List NestedKey) {us : List Value} {as : List Addr}, ReadsAll h us (NestedKey.datas ks) as → NestedAll h ks us
  | [], us, as, r => by
    cases r
    exact .nil
  | k :: ks, us, as, r => by
    unfold NestedKey.datas at r
    cases r with
    | cons h1 h2 => exact .cons (nested_reads k h1) (nested_readsAll ks h2)
end
theorem key_s {d : D} {k : NestedKey} (h : key? d = some k) : d = k.data ∧ k.depth ≤ 8 ∧ ∃ ks, k = .tup ks := by
  unfold key? at h
  split at h
  · obtain ⟨k', h1, h2⟩ := Option.bind_eq_some_iff.mp h
    split at h2
    · rename_i hd
      cases h2
      refine ⟨data_nk h1, hd, ?_⟩
      unfold nk? at h1
      obtain ⟨ks, _, rfl⟩ := Option.map_eq_some_iff.mp h1
      exact ⟨ks, rfl⟩
    · cases h2
  · cases h
/-- the dict at hand, its keys read off -/
theorem dictOf {pins : List (Addr × Obj)} {σ : L2.St} {s : Shared} {a : Addr} {ep : Nat} {xs : List (NestedKey × Addr × Value)} {ds : List (D × D)} (I : Inv X pins σ H s) (pw : X.prog = Wd.prog ∧ X.w = Wd.w) (h : Rd H a (.ext (rawD a ep xs))) (r : REs X.K H P xs ds) :
    (a == sysModules) = false ∧ xs.length ≤ sizeLine ∧ s.heap.DictOfH (nestedKind X.prog X.w) a xs := by
  obtain ⟨⟨h1, h2, o, es, e1, e2, e3, e4, e5⟩, _⟩ := Rd.ok h I.hok
  rw [← pw.1, ← pw.2] at e4
  have keys : ∀ {xs : List (NestedKey × Addr × Value)} {ds : List (D × D)}, REs X.K H P xs ds → ∀ x ∈ xs, (nestedKind X.prog X.w).is s.heap x.1 x.2.1 := by
    intro xs
    induction xs with
    | nil => exact fun _ x hx => by cases hx
    | cons y ys ih =>
      intro ds r x hx
      cases r with
      | cons n k1 k2 k3 r =>
        rcases List.mem_cons.mp hx with rfl | hx
        · obtain ⟨as, rd⟩ := Dp.reads I _ _ _ (k1.dp (noDict_data _)) (show RelV (.ref _) (.ref _) from rfl)
          exact ⟨nested_reads _ rd, n⟩
        · exact ih r x hx
  exact ⟨h1, h2, o, es, ep, e1, e2, e3, e4, keys r, e5⟩
theorem REs.find {K : PySem.W.Frag} {k : NestedKey} {d : D} : ∀ {xs : List (NestedKey × Addr × Value)} {ds : List (D × D)}, REs K H P xs ds → dGet ds k = some d → ∃ b u v, atKey xs k = some (b, u) ∧ RelV v u ∧ RP K H P v d
  | _, _, .nil, h => by simp [dGet] at h
  | _, _, .cons (k := k') (b := b) (u := u) (v := v) n k1 k2 k3 r, h => by
    unfold dGet at h
    rw [List.find?_cons] at h
    by_cases e : k' = k
    · subst e
      have : decide (nk? k'.data = some k') = true := by simp [nk_data]
      rw [this] at h
      cases h
      exact ⟨b, u, v, by simp [atKey], k2, k3⟩
    · have : decide (nk? k'.data = some k) = false := by simp [nk_data, e]
      rw [this] at h
      obtain ⟨b2, u2, v2, q1, q2, q3⟩ := REs.find r (by unfold dGet; exact h)
      refine ⟨b2, u2, v2, ?_, q2, q3⟩
      unfold atKey at q1 ⊢
      rw [List.find?_cons]
      simp only [e, decide_false]
      exact q1
theorem ixr (rm : RoomX X) : IxR X (rIdx X.K) := by
  intro ve se pins s σ H x y v u Q I rx ry h hs
  obtain ⟨P, dx, dy, dz, hx, hy, e, q⟩ := h
  cases dx <;> simp only [idxF] at e <;> try cases e
  · cases hy <;> simp [idxF] at e
    obtain ⟨a, xs, rfl, ha, ra⟩ := hx.list
    obtain ⟨j, e1, e2⟩ := Option.bind_eq_some_iff.mp e
    obtain ⟨w, e3, rw'⟩ := ra.get e2
    exact ix_list ve se pins s σ H _ _ v u Q I rx ry ⟨a, xs, _, w, rfl, rfl, ha, by unfold atI; rw [ra.length, (show ixN _ _ = some j from e1)]; exact e3, q w rw'⟩ hs
  · cases hy <;> simp [idxF] at e
    obtain ⟨a, xs, rfl, ha, ra⟩ := hx.tuple
    obtain ⟨j, e1, e2⟩ := Option.bind_eq_some_iff.mp e
    obtain ⟨w, e3, rw'⟩ := ra.get e2
    exact ix_tup ve se pins s σ H _ _ v u Q I rx ry ⟨a, xs, _, w, rfl, rfl, ha, by unfold atI; rw [ra.length, (show ixN _ _ = some j from e1)]; exact e3, q w rw'⟩ hs
  · obtain ⟨k, e1, e2⟩ := Option.bind_eq_some_iff.mp e
    obtain ⟨rfl, hd, ks, ek⟩ := key_s e1
    obtain ⟨a, ep, xs, rfl, ha, ra⟩ : ∃ a ep xs, x = .ref a ∧ Rd H a (.ext (rawD a ep xs)) ∧ REs X.K H P xs _ := by
      cases hx with
      | val r => cases r with
        | dct p s' r => exact ⟨_, _, _, rfl, s', r⟩
      | own r => cases r with
        | dct h r => exact ⟨_, _, _, rfl, .inl h, r⟩
    obtain ⟨b, w, z, f1, f2, f3⟩ := ra.find e2
    obtain ⟨h1, h2, hm⟩ := dictOf I rm.pw ha ra
    obtain ⟨as, rd⟩ := Dp.reads I _ _ _ (hy.dp (noDict_data _)) ry
    have un := rm.un
    cases rx
    have nk := nested_reads _ rd
    obtain ⟨c, rfl⟩ : ∃ c, u = .ref c := by
      subst ek
      unfold NestedKey.data at hy
      cases hy with
      | tup s' r =>
        cases ry
        exact ⟨_, rfl⟩
    have room : (nestedKind X.prog X.w).room X.A.in1 := by
      show X.A.units + 1 + 8 < cLine
      omega
    exact tail_any hm.typeIs PySem.F.slot_dict_getitem.lookup (wpAny_getItem_heap (knd := nestedKind X.prog X.w) room ⟨nk, hd⟩ hm f1 ⟨z, H, I.tok _, f2, q z f3⟩) hs
/-- a thing is stored under a key -/
def rSetK (K : PySem.W.Frag) : V → V → V → Hp → (Hp → Prop) → Prop := fun o i v H Q => ∃ (d : Addr) (ep : Nat) (xs : List (NestedKey × Addr × Value)) (P : Pa) (ds : List (D × D)) (kd : D) (k : NestedKey), o = .ref d ∧ RP K H P i kd ∧ key? kd = some k ∧ H d = some (.ext (rawD d ep xs)) ∧ REs K H P xs ds ∧
  xs.length < sizeLine ∧ ∀ ep' b u, i = .ref b → RelV v u → Q (upd H d (.ext (rawD d ep' (storedH xs k b u))))
theorem rawD_mono {d : Addr} {ep : Nat} {xs : List (NestedKey × Addr × Value)} (h1 h2 : Heap) (r : rawD d ep xs h1) (k : ∀ o, h1.get? d = some o → h2.get? d = some o) : rawD d ep xs h2 := by
  obtain ⟨a1, a2, o, es, e1, e2⟩ := r
  exact ⟨a1, a2, o, es, k _ e1, e2⟩
theorem set_key (rm : RoomX X) : PSet X (rSetK X.K) := by
  intro pins s σ H o i v ov iv u Q I ro ri rv h
  obtain ⟨d, ep0, xs, P, ds, kd, k, rfl, hi, hk, hd, ra, hl, q⟩ := h
  cases ro
  obtain ⟨rfl, hdp, ks, ek⟩ := key_s hk
  obtain ⟨h1, h2, hm⟩ := dictOf I rm.pw (.inl hd) ra
  obtain ⟨as, rd⟩ := Dp.reads I _ _ _ (hi.dp (noDict_data _)) ri
  have un := rm.un
  have nk := nested_reads _ rd
  obtain ⟨c, rfl, rfl⟩ : ∃ c, i = .ref c ∧ iv = .ref c := by
    subst ek
    unfold NestedKey.data at hi
    cases hi with
    | tup s' r =>
      cases ri
      exact ⟨_, rfl, rfl⟩
  have room : (nestedKind X.prog X.w).room X.A.in1 := by
    show X.A.units + 1 + 8 < cLine
    omega
  refine wpAny_setItem_heap (knd := nestedKind X.prog X.w) room ⟨nk, hdp⟩ hm (fun h' hm' hs' => ?_) h2
  obtain ⟨o, es, ep, e1, e2, e3, e4, e5, e6⟩ := id hm'
  have raw : rawD d ep (storedH xs k c u) h' := by
    refine ⟨h1, ?_, o, es, e1, e2, e3, ?_, e6⟩
    · have : (storedH xs k c u).length ≤ xs.length + 1 := by
        unfold storedH
        split <;> simp
      omega
    · rw [← rm.pw.1, ← rm.pw.2]
      exact e4
  refine ⟨_, I.write (x := d) (e := d) (o := .ext (rawD d ep (storedH xs k c u))) (by rw [hd]; trivial) (.inl rfl) (fun b o hb e => (hs'.2 b hb).trans e) ⟨_, e1⟩ ⟨raw, ⟨_, e1⟩, rawD_mono⟩, q ep c u rfl rv⟩
theorem REs.length {K : PySem.W.Frag} {xs : List (NestedKey × Addr × Value)} {ds : List (D × D)} (r : REs K H P xs ds) : xs.length = ds.length := by
  induction xs generalizing ds with
  | nil => cases r; rfl
  | cons x xs ih =>
    cases r with
    | cons _ _ _ _ r => simp [ih r]
theorem REs.isSome {K : PySem.W.Frag} {k : NestedKey} : ∀ {xs : List (NestedKey × Addr × Value)} {ds : List (D × D)}, REs K H P xs ds → (atKey xs k).isSome = (dGet ds k).isSome
  | _, _, .nil => rfl
  | _, _, .cons (k := k') n k1 k2 k3 r => by
    have ih := REs.isSome (k := k) r
    unfold atKey dGet at ih ⊢
    rw [List.find?_cons, List.find?_cons]
    by_cases e : k' = k
    · subst e
      simp [nk_data]
    · simp [nk_data, e] at ih ⊢
      exact ih
theorem REs.map {K : PySem.W.Frag} {k : NestedKey} {v : V} {u : Value} {d : D} (rv : RP K H P v d) (ru : RelV v u) : ∀ {xs : List (NestedKey × Addr × Value)} {ds : List (D × D)}, REs K H P xs ds → REs K H P (xs.map (putAt k u)) (ds.map fun p => if nk? p.1 = some k then (p.1, d) else p)
  | _, _, .nil => .nil
  | _, _, .cons (k := k') n k1 k2 k3 r => by
    rw [List.map_cons, List.map_cons]
    by_cases e : k' = k
    · rw [putAt, if_pos e, if_pos (show nk? k'.data = some k by rw [nk_data, e])]
      exact .cons n k1 ru rv (REs.map rv ru r)
    · rw [putAt, if_neg e, if_neg (show ¬ nk? k'.data = some k by rw [nk_data]; simpa using e)]
      exact .cons n k1 k2 k3 (REs.map rv ru r)
theorem REs.app {K : PySem.W.Frag} : ∀ {xs ys : List (NestedKey × Addr × Value)} {ds es : List (D × D)}, REs K H P xs ds → REs K H P ys es → REs K H P (xs ++ ys) (ds ++ es)
  | _, _, _, _, .nil, r => r
  | _, _, _, _, .cons n k1 k2 k3 r, q => .cons n k1 k2 k3 (REs.app r q)
theorem REs.put {K : PySem.W.Frag} {k : NestedKey} {b : Addr} {v : V} {u : Value} {d : D} {xs : List (NestedKey × Addr × Value)} {ds : List (D × D)} (r : REs K H P xs ds) (n : k.depth ≤ 8) (rk : RP K H P (.ref b) k.data) (ru : RelV v u) (rv : RP K H P v d) : REs K H P (storedH xs k b u) (dPut ds k k.data d) := by
  unfold storedH dPut
  rw [r.isSome]
  split
  · exact r.map rv ru
  · exact r.app (.cons n rk ru rv .nil)
def rSet (K : PySem.W.Frag) : V → V → V → Hp → (Hp → Prop) → Prop := fun o i v H Q => rSetL o i v H Q ∨ rSetK K o i v H Q
theorem set_any (rm : RoomX X) : PSet X (rSet X.K) := by
  intro pins s σ H o i v ov iv u Q I ro ri rv h
  exact h.elim (set_list pins s σ H o i v ov iv u Q I ro ri rv) (set_key rm pins s σ H o i v ov iv u Q I ro ri rv)
/-! slices -/
def rSli (K : PySem.W.Frag) : V → Option Int → Option Int → Hp → VK → Prop := fun x lo hi H Q => ∃ (P : Pa) (dx dz : D), (∀ b, H b = none → P b) ∧ RW K H P x dx ∧ sliceF dx lo hi = some dz ∧ ∀ v H', Out K P H v dz H' → FreshL K P H v dz H' → Q v H'
theorem cut_rp {xs : List V} {ds : List D} (r : RPs K H P xs ds) (lo hi : Option Int) : RPs K H P (cutV xs lo hi) (cut ds lo hi) := by
  unfold cutV cut bound
  rw [r.length]
  exact (r.drop _).take _
theorem slr : SlR X (rSli X.K) := by
  intro pins s σ H x v vl vu lo hi sl Q I rx hs pl pu h
  obtain ⟨P, dx, dz, new, hx, e, q⟩ := h
  cases dx <;> simp only [sliceF] at e <;> try cases e
  · obtain ⟨a, xs, rfl, ha, ra⟩ := hx.list
    exact sl_list pins s σ H _ v vl vu lo hi sl Q I rx hs pl pu ⟨a, xs, rfl, ha, fun p n => q _ _ (out_lst new n (cut_rp ra lo hi)) (fresh_lst n (cut_rp ra lo hi))⟩
  · obtain ⟨a, xs, rfl, ha, ra⟩ := hx.tuple
    refine sl_tupA pins s σ H _ v vl vu lo hi sl Q I rx hs pl pu ⟨a, xs, rfl, ha, fun z => ?_, fun _ p n => q _ _ (out_tup n (cut_rp ra lo hi)) (fun _ e => by cases e)⟩
    refine q _ _ ⟨fun _ _ e => e, ?_⟩ (fun _ e => by cases e)
    have r2 := cut_rp ra lo hi
    have e2 : cutV xs lo hi = xs := by
      unfold cutV
      rw [z.1, z.2]
      simp
    rw [e2] at r2
    exact .tup ha r2
/-! t[::-1] of a tuple -/
section
variable {M : Model} {A : Around} {E : Value → Shared → Prop} {s : Shared}
theorem wpAny_no {B : Type} {c : Prop} [Decidable c] {x y : Sem B} {Q : B → Shared → Prop} (n : ¬ c) (h : wpAny M A y Q E s) : wpAny M A (if c then x else y) Q E s := (if_neg n (t := x) (e := y)).symm ▸ h
theorem wpAny_yes {B : Type} {c : Prop} [Decidable c] {x y : Sem B} {Q : B → Shared → Prop} (n : c) (h : wpAny M A x Q E s) : wpAny M A (if c then x else y) Q E s := (if_pos n (t := x) (e := y)).symm ▸ h
end
section
variable {prog : Program} {w : World} {A : Around} {E : Value → Shared → Prop} {s : Shared}
/-- where a walk back through n items starts, its step, how many there are -/
theorem applied_back {z : Addr} {p q r : Value} {n : Nat} {Q : Int × Int × Nat → Shared → Prop} (g : s.heap.IsSliceOf z p q r) (hp : IsPart p none) (hq : IsPart q none) (hr : IsPart r (some (-1))) (k : Q ((n : Int) - 1, -1, n) s) :
    wpAny (model prog w) A (Builtin.Slice.sliceApplied (.ref z) (pure (n : Int))) Q E s := by
  have count : Builtin.Slice.slicePlaces ((n : Int) - 1) (-1) (-1) = n := by
    simp only [Builtin.Slice.slicePlaces, show ¬ ((-1 : Int) > 0) by omega, if_false, Int.neg_neg, Int.ediv_one]
    split <;> omega
  obtain ⟨o, ho, _, hd⟩ := id g
  unfold Builtin.Slice.sliceApplied
  refine wpAny_bind ?_
  unfold Builtin.Slice.sliceFields
  refine wpAny_bind (wpAny_field ho hd (x := p) rfl ?_)
  refine wpAny_bind (wpAny_field ho hd (x := q) rfl ?_)
  refine wpAny_bind (wpAny_field ho hd (x := r) rfl (wpAny_pure ?_))
  refine wpAny_bind (HT.slicePart_ hr ?_)
  refine wpAny_no (by decide) ?_
  refine wpAny_bind (HT.slicePart_ hp ?_)
  refine wpAny_bind (HT.slicePart_ hq ?_)
  refine wpAny_bind (wpAny_pure ?_)
  show wpAny _ _ (pure ((n : Int) - 1, (-1 : Int), Builtin.Slice.slicePlaces ((n : Int) - 1) (-1) (-1))) _ _ s
  rw [count]
  exact wpAny_pure k
theorem pick_back (xs : Array Value) : ((List.range xs.size).filterMap fun (m : Nat) => xs[(((xs.size : Nat) : Int) - 1 + (m : Int) * -1).toNat]?).toArray = xs.toList.reverse.toArray := by
  congr 1
  have e : (List.range xs.size).filterMap (fun (m : Nat) => xs[(((xs.size : Nat) : Int) - 1 + (m : Int) * -1).toNat]?) = ((List.range xs.size).map fun k => xs.size - 1 - k).filterMap (xs[·]?) := by
    rw [List.filterMap_map]
    have aux : ∀ l : List Nat, (∀ m ∈ l, m < xs.size) → l.filterMap (fun (m : Nat) => xs[(((xs.size : Nat) : Int) - 1 + (m : Int) * -1).toNat]?) = l.filterMap ((xs[·]?) ∘ fun k => xs.size - 1 - k) := fun l => by
      induction l with
      | nil => exact fun _ => rfl
      | cons m l ih =>
        intro h
        have hm := h m (List.mem_cons_self ..)
        have e : (((xs.size : Nat) : Int) - 1 + (m : Int) * -1).toNat = xs.size - 1 - m := by omega
        rw [List.filterMap_cons, List.filterMap_cons, ih fun k hk => h k (List.mem_cons_of_mem _ hk), e]
        rfl
    exact aux _ fun m hm => List.mem_range.mp hm
  rw [e, PySem.W.krv_range, List.filterMap_reverse, PySem.W.krv_all]
/-- a tuple by a slice that goes back through all of it -/
theorem item_back {a z : Addr} {xs : Array Value} {p q r : Value} {Q : Value → Shared → Prop} (ha : IsTup s.heap a xs) (g : s.heap.IsSliceOf z p q r) (hp : IsPart p none) (hq : IsPart q none) (hr : IsPart r (some (-1))) (few : xs.size ≤ sizeLine)
    (k : Q (.ref s.heap.objs.size) { s with heap := s.heap.push { cls := .type "tuple", data := .seq xs.toList.reverse.toArray } }) : wpAny (model prog w) A (getItem (.ref a) (.ref z)) Q E s := by
  have few' : sizeOk (.seq xs.toList.reverse.toArray) := by
    have : xs.toList.reverse.toArray.size = xs.size := by simp
    exact Nat.le_trans (Nat.le_of_eq this) few
  have zt : s.TypeIs (.ref z) "slice" := let ⟨o, ho, hc, _⟩ := g; ⟨o, ho, hc⟩
  unfold getItem
  first
  | refine wpAny_holding (wpAny_bind (wpAny_sequenceKey ha.typeIs (by decide) (wpAny_bind ?_)))
  | refine wpAny_bind (wpAny_sequenceKey ha.typeIs (by decide) (wpAny_bind ?_))
  | refine wpAny_bind (wpAny_pure (wpAny_bind (wpAny_sequenceKey ha.typeIs (by decide) (wpAny_bind ?_))))
  refine wpAny_callSpecial?_slot (T := "tuple") ha.typeIs PyProof.Rows.slot_tuple_getitem (wpAny_call_entry (T := "tuple") PyProof.Rows.slot_tuple_getitem ha.typeIs PyProof.Rows.entry_tuple_getitem ?_ (PyProof.Rows.args_tuple_getitem _ _))
  show wpAny (model prog w) A.in1 (Builtin.Tuple.tupleItemsOf (Value.ref a) >>= _) _ E s
  refine wpAny_bind (tupleItemsOf_ ha (wpAny_bind (wpAny_typeOf zt ?_)))
  refine wpAny_yes (by decide) (wpAny_bind (applied_back g hp hq hr ?_))
  refine wpAny_no (fun c => ?_) ?_
  · have c2 := (Bool.and_eq_true_iff.mp (Bool.and_eq_true_iff.mp c).1).2
    exact absurd c2 (by decide)
  · rw [pick_back]
    refine wpAny_bind (m := Builtin.Tuple.tupleExact _) (wpAny_newObj_type ?_ few')
    first
    | exact wpAny_pure ⟨_, rfl, wpAny_pure k⟩
    | exact wpAny_bind (wpAny_pure (wpAny_pure ⟨_, rfl, wpAny_pure k⟩))
end
/-- xs[::-1] of a list or a tuple -/
def tRevA (K : PySem.W.Frag) (te : TE) : TE := fun σ H Q => te σ H fun x H1 => ∃ a xs, x = .ref a ∧ (SqL K H1 a xs ∧ (∀ p, H1 p = none → Q (.ref p) (upd H1 p (.lst xs.reverse))) ∨ SqT K H1 a xs ∧ ∀ p, H1 p = none → Q (.ref p) (upd H1 p (.tup xs.reverse)))
theorem pe_revA {e : Expr} {te : TE} {k : Nat} {p1 p2 p3 pos : Pos} (he : PE X e te) : PE X (.Subscript e (.Slice none none (some (.UnaryOp .USub (.Constant (.int 1) k p1) p2)) p3) pos) (tRevA X.K te) := by
  have minus : PO X (some (.UnaryOp .USub (.Constant (.int 1) k p1) p2)) (tPart (tUn (rU fun i => .int (-i)) (tC (.int 1)))) := po_some (pe_un un_neg pe_int)
  constructor
  intro ps t0 σ H0 Q J0 h
  refine Subscript_ (thn (he.run ps t0 σ H0 _ J0 h) ?_)
  rintro v t1 ⟨x, H1, J1, rx, a, xs, rfl, alt⟩
  cases rx
  refine wpAny_Slice (thn (po_none.run ps t1 σ H1 (fun o G => o = none ∧ G = H1) J1 ⟨rfl, rfl⟩) ?_)
  rintro q1 t2 ⟨_, _, J2, i1, rfl, rfl⟩
  refine thn (po_none.run ps t2 σ _ (fun o G => o = none ∧ G = _) J2 ⟨rfl, rfl⟩) ?_
  rintro q2 t3 ⟨_, _, J3, i2, rfl, rfl⟩
  refine thn (minus.run ps t3 σ _ (fun o G => o = some (-1) ∧ G = _) J3 ⟨1, rfl, -1, rfl, rfl, rfl⟩) ?_
  rintro q3 t4 ⟨_, G, J4, i3, rfl, rfl⟩
  have J5 : Inv X ps σ G { t4 with heap := t4.heap.push { cls := .type "slice", data := .fields #[q1, q2, q3] } } := J4.kept (t' := t4.toks) fun _ _ z => Heap.get?_push_of_some _ z
  have there := Heap.IsSliceOf.new t4.heap q1 q2 q3
  show wpAny _ _ (subscriptTail e _ (.ref a) (.ref t4.heap.objs.size)) (EP X ps σ Q) X.xe _
  rcases alt with ⟨hl, go⟩ | ⟨hl, go⟩
  · obtain ⟨its, rv, hi, hz⟩ := J5.list hl
    have few : its.toArray.size ≤ sizeLine := by
      have := rv.length
      simp
      omega
    refine tail_any (ops := [.ref a, .ref t4.heap.objs.size]) hi.isList.typeIs PySem.slot_list_getitem.lookup (wpAny_getItem_list_slice hi.isList there i1 i2 i3 (by decide) ?_ few) (by with_unfolding_all rfl)
    rw [PySem.W.krv_pick]
    refine ⟨.ref _, _, J5.laid (o := .lst xs.reverse) (t' := t4.toks) (fun _ _ z => Heap.get?_push_of_some _ z) (Nat.le_refl _) ?_, rfl, go _ (J5.hok.fresh (Nat.le_refl _))⟩
    exact ⟨by simpa using hz, its.reverse, 0, rv.reverse, Heap.get?_push_size _ rfl⟩
  · obtain ⟨its, rv, hi, hz⟩ := J5.tuple hl
    have hi' : IsTup _ a its.toArray := hi
    have few : its.toArray.size ≤ sizeLine := by
      have := rv.length
      simp
      omega
    refine tail_any (ops := [.ref a, .ref t4.heap.objs.size]) hi'.typeIs PyProof.Rows.slot_tuple_getitem.lookup (item_back hi' there i1 i2 i3 few ?_) (by with_unfolding_all rfl)
    refine ⟨.ref _, _, J5.laid (o := .tup xs.reverse) (t' := t4.toks) (fun _ _ z => Heap.get?_push_of_some _ z) (Nat.le_refl _) ?_, rfl, go _ (J5.hok.fresh (Nat.le_refl _))⟩
    exact ⟨by simpa using hz, its.reverse, rv.reverse, ⟨_, Heap.get?_push_size _ rfl, rfl, 0, by simp⟩⟩
/-! calls of builtins -/
def rBlt (K : PySem.W.Frag) (b : Blt) : List V → Hp → VK → Prop := fun vs H Q => ∃ (P : Pa) (ds : List D) (dz : D), (∀ b, H b = none → P b) ∧ RWs K H P vs ds ∧ bltF b ds = some dz ∧ ∀ v H', Out K P H v dz H' → FreshL K P H v dz H' → Q v H'
theorem RWs.one {vs : List V} {d : D} (r : RWs K H P vs [d]) : ∃ v, vs = [v] ∧ RW K H P v d := by
  cases r with
  | cons h r => cases r; exact ⟨_, rfl, h⟩
theorem RWs.two {vs : List V} {d e : D} (r : RWs K H P vs [d, e]) : ∃ v w, vs = [v, w] ∧ RW K H P v d ∧ RW K H P w e := by
  cases r with
  | cons h r => cases r with
    | cons h' r => cases r; exact ⟨_, _, rfl, h, h'⟩
theorem out_bool (i : Bool) : Out K P H (.bl i) (.bool i) H := ⟨fun _ _ e => e, .bl i⟩
theorem out_str (i : Str) : Out K P H (.str i) (.str i) H := ⟨fun _ _ e => e, .str i⟩
theorem cb_len : CallR X (.builtin "len") (rBlt X.K .len) := by
  intro pins s σ H vs us Q I r h
  obtain ⟨P, ds, dz, new, hx, e, q⟩ := h
  replace e : blt_len ds = some dz := e
  unfold blt_len at e
  split at e <;> try cases e
  · obtain ⟨v, rfl, hv⟩ := hx.one
    obtain ⟨a, xs, rfl, ha, ra⟩ := hv.list
    exact call_len_seq pins s σ H _ us Q I r ⟨a, xs, rfl, .inl ha, by rw [ra.length]; exact q _ _ (out_int _) (fresh_int _)⟩
  · obtain ⟨v, rfl, hv⟩ := hx.one
    obtain ⟨a, xs, rfl, ha, ra⟩ := hv.tuple
    exact call_len_seq pins s σ H _ us Q I r ⟨a, xs, rfl, .inr ha, by rw [ra.length]; exact q _ _ (out_int _) (fresh_int _)⟩
theorem cb_abs : CallR X (.builtin "abs") (rBlt X.K .abs) := by
  intro pins s σ H vs us Q I r h
  obtain ⟨P, ds, dz, new, hx, e, q⟩ := h
  replace e : blt_abs ds = some dz := e
  unfold blt_abs at e
  split at e <;> try cases e
  obtain ⟨v, rfl, hv⟩ := hx.one
  cases hv.int
  exact call_abs pins s σ H _ us Q I r ⟨_, rfl, q _ _ (out_int _) (fresh_int _)⟩
theorem cb_max2 (hc : X.calm = true) : CallR X (.builtin "max") (rBlt X.K .max2) := by
  intro pins s σ H vs us Q I r h
  obtain ⟨P, ds, dz, new, hx, e, q⟩ := h
  replace e : blt_max2 ds = some dz := e
  unfold blt_max2 at e
  split at e <;> try cases e
  obtain ⟨v, w, rfl, hv, hw⟩ := hx.two
  cases hv.int
  cases hw.int
  exact call_max2 hc pins s σ H _ us Q I r ⟨_, _, rfl, q _ _ (out_int _) (fresh_int _)⟩
theorem cb_min2 (hc : X.calm = true) : CallR X (.builtin "min") (rBlt X.K .min2) := by
  intro pins s σ H vs us Q I r h
  obtain ⟨P, ds, dz, new, hx, e, q⟩ := h
  replace e : blt_min2 ds = some dz := e
  unfold blt_min2 at e
  split at e <;> try cases e
  obtain ⟨v, w, rfl, hv, hw⟩ := hx.two
  cases hv.int
  cases hw.int
  exact call_min2 hc pins s σ H _ us Q I r ⟨_, _, rfl, q _ _ (out_int _) (fresh_int _)⟩
theorem cb_int1 : CallR X (.type "int") (rBlt X.K .int1) := by
  intro pins s σ H vs us Q I r h
  obtain ⟨P, ds, dz, new, hx, e, q⟩ := h
  replace e : blt_int1 ds = some dz := e
  unfold blt_int1 at e
  split at e <;> try cases e
  · obtain ⟨v, rfl, hv⟩ := hx.one
    cases hv.int
    exact call_int1 pins s σ H _ us Q I r (.inl ⟨_, rfl, q _ _ (out_int _) (fresh_int _)⟩)
  · obtain ⟨v, rfl, hv⟩ := hx.one
    cases hv.bool
    exact call_int1 pins s σ H _ us Q I r (.inr ⟨_, rfl, q _ _ (out_int _) (fresh_int _)⟩)
theorem cb_str1 : CallR X (.type "str") (rBlt X.K .str1) := by
  intro pins s σ H vs us Q I r h
  obtain ⟨P, ds, dz, new, hx, e, q⟩ := h
  replace e : blt_str1 ds = some dz := e
  unfold blt_str1 at e
  split at e <;> try cases e
  split at e <;> try cases e
  rename_i hc
  obtain ⟨v, rfl, hv⟩ := hx.one
  cases hv.int
  exact call_str_int pins s σ H _ us Q I r ⟨_, rfl, hc, q _ _ (out_str _) (fun _ e => by cases e)⟩
theorem cb_repr (rm : RoomX X) : CallR X (.builtin "repr") (rBlt X.K .repr) := by
  intro pins s σ H vs us Q I r h
  obtain ⟨P, ds, dz, new, hx, e, q⟩ := h
  replace e : blt_repr ds = some dz := e
  unfold blt_repr at e
  split at e <;> try cases e
  split at e <;> try cases e
  rename_i d hc
  obtain ⟨v, rfl, hv⟩ := hx.one
  obtain ⟨u, rfl, ru⟩ := vals1 r
  simp only [Bool.and_eq_true, Bool.not_eq_true', decide_eq_true_eq] at hc
  obtain ⟨⟨⟨⟨h1, h2⟩, h3⟩, h4⟩, h5⟩ := hc
  have un := rm.un
  rw [sz_line] at h3
  obtain ⟨as, rr⟩ := Dp.reads I d v u (hv.dp h5) ru
  have fin : ∀ (h' : Heap) (t tk : Tok), (∀ b o, s.heap.get? b = some o → h'.get? b = some o) → EP X pins σ Q (.str d.shown t) { s with heap := h', toks := tk } := fun h' t tk k =>
    ⟨.str d.shown, H, I.kept k, ⟨t, rfl⟩, q _ _ (out_str _) (fun _ e => by cases e)⟩
  cases rr with
  | none => exact PySem.P.repr_of_none (fin s.heap _ _ fun _ _ e => e)
  | bool b => exact PySem.P.repr_of_bool (fin s.heap _ _ fun _ _ e => e)
  | int i t => exact PySem.P.repr_of_int (by simpa [PyData.showable] using h1) (fin s.heap _ _ fun _ _ e => e)
  | str x t => exact PySem.P.repr_of_str (fin s.heap _ _ fun _ _ e => e) h3
  | list a b c e => exact repr_of_reads' (.list a b c e) h1 (fun z => by rw [h2] at z; cases z) rm.gd (by omega) (fun _ _ e => e) (fun h' t tk k => fin h' t tk k) h3
  | tuple a b c e => exact repr_of_reads' (.tuple a b c e) h1 (fun z => by rw [h2] at z; cases z) rm.gd (by omega) (fun _ _ e => e) (fun h' t tk k => fin h' t tk k) h3
  | dict a b c e f => exact repr_of_reads' (.dict a b c e f) h1 (fun z => by rw [h2] at z; cases z) rm.gd (by omega) (fun _ _ e => e) (fun h' t tk k => fin h' t tk k) h3
theorem cb_all (hc : X.calm = true) : CallR X (.builtin "all") (rBlt X.K .all) := by
  intro pins s σ H vs us Q I r h
  obtain ⟨P, ds, dz, new, hx, e, q⟩ := h
  replace e : blt_all ds = some dz := e
  unfold blt_all at e
  split at e <;> try cases e
  obtain ⟨bs, e1, rfl⟩ := Option.map_eq_some_iff.mp e
  obtain ⟨v, rfl, hv⟩ := hx.one
  obtain ⟨a, xs, rfl, ha, ra⟩ := hv.list
  have eb := ra.bools e1
  subst eb
  exact cr_all hc pins s σ H _ us Q I r ⟨a, bs, rfl, ha, q _ _ (out_bool _) (fun _ e => by cases e)⟩
theorem cb_any (hc : X.calm = true) : CallR X (.builtin "any") (rBlt X.K .any) := by
  intro pins s σ H vs us Q I r h
  obtain ⟨P, ds, dz, new, hx, e, q⟩ := h
  replace e : blt_any ds = some dz := e
  unfold blt_any at e
  split at e <;> try cases e
  obtain ⟨bs, e1, rfl⟩ := Option.map_eq_some_iff.mp e
  obtain ⟨v, rfl, hv⟩ := hx.one
  obtain ⟨a, xs, rfl, ha, ra⟩ := hv.list
  have eb := ra.bools e1
  subst eb
  exact cr_any hc pins s σ H _ us Q I r ⟨a, bs, rfl, ha, q _ _ (out_bool _) (fun _ e => by cases e)⟩
theorem sumT {prog : Program} {w : World} {A : Around} {E : Value → Shared → Prop} {s : Shared} {l : Addr} {its : List Value} {ns : List Int} {Q : Value → Shared → Prop} (hh : A.handled = none) (hl : s.heap.IsTuple l its.toArray) (hi : IntsAre its ns)
    (h : ∀ h' tk t', (∀ b o, s.heap.get? b = some o → h'.get? b = some o) → Q (.int ns.sum t') { s with heap := h', toks := tk }) : wpAny (model prog w) A (call (.builtin "sum") [.ref l]) Q E s := by
  obtain ⟨xs, e⟩ := hi.allInts.items
  have hn : numsOf (intItems xs).toList = ns := by
    rw [← e]
    exact hi.numsOf
  rw [nums_intItems] at hn
  rw [e] at hl
  refine call_sum_walkG (wpAny_pyIter_tuple hl ?_)
  obtain ⟨o, ho, _⟩ := id hl
  have lt : l < s.heap.objs.size := Heap.lt_size ho
  have hl2 : (s.heap.push { cls := .type "tuple_iterator", data := .fields #[.ref l, .int 0 0] }).IsTuple l (intItems xs) := hl.at fun o q => Heap.get?_push_of_some _ q
  refine ⟨_, _, _, _, _, _, numAt xs, rfl, Walks.tuple (A := A.in1) hh s.heap.objs.size l (Nat.ne_of_lt lt) (intItems xs), ⟨⟨_, Heap.get?_push_size _ rfl, rfl, rfl⟩, hl2⟩, fun b hb => ?_, fun _ _ => intItems_at, fun h' tk t' hk => ?_⟩
  · show b < (s.heap.push _).objs.size
    rw [Heap.size_push]
    rcases (by simpa using hb : b = s.heap.objs.size ∨ b = l) with rfl | rfl
    · exact Nat.lt_succ_self _
    · exact Nat.lt_succ_of_lt lt
  · have z := h h' tk t' fun b o q => hk b o (fun w => by
      rw [List.mem_singleton.mp w] at q
      exact absurd (Heap.lt_size q) (Nat.lt_irrefl _)) (Heap.get?_push_of_some _ q)
    have e2 : preSum (numAt xs) (intItems xs).size = ns.sum := by
      rw [preSum_eq, List.take_of_length_le (by simp [intItems]), hn]
    rw [e2]
    exact z
theorem cb_sum (hc : X.calm = true) : CallR X (.builtin "sum") (rBlt X.K .sum) := by
  intro pins s σ H vs us Q I r h
  obtain ⟨P, ds, dz, new, hx, e, q⟩ := h
  replace e : blt_sum ds = some dz := e
  unfold blt_sum at e
  split at e <;> try cases e
  · obtain ⟨bs, e1, rfl⟩ := Option.map_eq_some_iff.mp e
    obtain ⟨v, rfl, hv⟩ := hx.one
    obtain ⟨a, xs, rfl, ha, ra⟩ := hv.list
    have eb := ra.ints e1
    subst eb
    exact cr_sum hc pins s σ H _ us Q I r ⟨a, bs, rfl, ha, q _ _ (out_int _) (fresh_int _)⟩
  · obtain ⟨bs, e1, rfl⟩ := Option.map_eq_some_iff.mp e
    obtain ⟨v, rfl, hv⟩ := hx.one
    obtain ⟨a, xs, rfl, ha, ra⟩ := hv.tuple
    have eb := ra.ints e1
    subst eb
    obtain ⟨its, rv, p, _⟩ := I.tuple ha
    rw [Vals.ref1 r]
    have p' : s.heap.IsTuple a its.toArray := p
    exact sumT (I.ok.hd hc) p' rv.ints fun h' tk t' hk => ⟨.int _, H, I.kept hk, ⟨_, rfl⟩, q _ _ (out_int _) (fresh_int _)⟩
/-! sorted -/
theorem each_of {K : PySem.W.Frag} {H : Hp} {P : Pa} : ∀ {vs : List V} {ds : List D} {us : List Value}, RPs K H P vs ds → Vals vs us → PySem.W.EachIs (fun (u : Value) (p : V × D) => RelV p.1 u ∧ RP K H P p.1 p.2) us (vs.zip ds)
  | _, _, _, .nil, .nil => .nil
  | _, _, _, .cons h r, .cons q s => .cons ⟨q, h⟩ (each_of r s)
theorem of_each {K : PySem.W.Frag} {H : Hp} {P : Pa} : ∀ {us : List Value} {bs : List (V × D)}, PySem.W.EachIs (fun (u : Value) (p : V × D) => RelV p.1 u ∧ RP K H P p.1 p.2) us bs → Vals (bs.map (·.1)) us ∧ RPs K H P (bs.map (·.1)) (bs.map (·.2))
  | _, _, .nil => ⟨.nil, .nil⟩
  | _, _, .cons h r => let ⟨a, b⟩ := of_each r; ⟨.cons h.1 a, .cons h.2 b⟩
theorem cb_sorted (rm : RoomX X) : CallR X (.builtin "sorted") (rBlt X.K .sorted) := by
  intro pins s σ H vs us Q I r h
  obtain ⟨P, ds, dz, new, hx, e, q⟩ := h
  replace e : blt_sorted ds = some dz := e
  unfold blt_sorted at e
  split at e <;> try cases e
  rename_i xs
  split at e <;> try cases e
  rename_i hc
  unfold sortOk at hc
  simp only [Bool.and_eq_true, Bool.or_eq_true, List.all_eq_true, decide_eq_true_eq] at hc
  obtain ⟨⟨⟨al, dp⟩, ln⟩, so⟩ := hc
  obtain ⟨v, rfl, hv⟩ := hx.one
  obtain ⟨a, ws, rfl, ha, ra⟩ := hv.list
  obtain ⟨its, rv, hl, hz⟩ := I.list ha
  rw [Vals.ref1 r]
  have un := rm.un
  have len := ra.length
  have e2 : (ws.zip xs).map Prod.snd = xs := List.map_snd_zip (by omega)
  have each := each_of ra rv
  have reads : PySem.W.EachIs (fun (u : Value) (p : V × D) => ∃ as, Reads s.heap u p.2 as) its (ws.zip xs) := (PySem.W.each_mem each).mono fun u p z => Dp.reads I _ _ _ (z.1.2.dp (dp p.2 (by
    rw [← e2]
    exact List.mem_map_of_mem z.2)).2) z.1.1
  refine PySem.W.sorted_data (enc := Prod.snd) (bs := ws.zip xs) hl.isList each reads (by rw [e2]; exact al) ?_ ?_ (fun p hp => ?_) fun out hlen eo => ?_
  · rw [e2]
    rcases so with so | so
    · left
      intro d hd
      have := so d hd
      split at this
      · exact ⟨_, _, rfl⟩
      · cases this
    · right
      intro d hd
      have := so d hd
      refine ⟨?_, ?_⟩
      · rintro rfl
        cases this
      · rintro ys rfl
        cases this
  · rw [List.length_zip, sizeLine_eq]
    have : LINE = 16777216 := rfl
    omega
  · have : p.2 ∈ xs := by
      rw [← e2]
      exact List.mem_map_of_mem hp
    have := (dp _ this).1
    omega
  · obtain ⟨v1, r1⟩ := of_each eo
    have e3 : ((ws.zip xs).mergeSort (PySem.W.dataLe false Prod.snd)).map Prod.snd = xs.mergeSort (PySem.W.dataLe false id) := by
      have z := List.map_mergeSort (r := PySem.W.dataLe (β := V × PyData) false Prod.snd) (s := PySem.W.dataLe (β := PyData) false id) (f := Prod.snd) (l := ws.zip xs) (fun _ _ _ _ => rfl)
      rw [z, e2]
    rw [e3] at r1
    obtain ⟨ep, he'⟩ := PyProof.Rows.sortedAll_at s.heap its out.toArray
    have fresh : H (s.heap.objs.size + 1) = none := I.hok.fresh (Nat.le_succ _)
    have o := out_lst (P := P) new fresh r1
    have hlen' : (((ws.zip xs).mergeSort (PySem.W.dataLe false Prod.snd)).map (·.1)).length ≤ sizeLine := by
      rw [List.length_map, List.length_mergeSort, List.length_zip, sizeLine_eq]
      have : LINE = 16777216 := rfl
      omega
    refine ⟨.ref _, _, I.laid (t' := s.toks) (fun _ _ => PyProof.Rows.sortedAll_old) (Nat.le_succ _) (show ObjOk X.prog X.w _ _ _ (.lst _) from ⟨hlen', out, ep, v1, he'⟩), rfl, q _ _ o (fresh_lst fresh r1)⟩
theorem cb_gcd : CallR X (.builtin "math.gcd") (rBlt X.K .gcd) := by
  intro pins s σ H vs us Q I r h
  obtain ⟨P, ds, dz, new, hx, e, q⟩ := h
  replace e : blt_gcd ds = some dz := e
  unfold blt_gcd at e
  split at e <;> try cases e
  obtain ⟨v, w, rfl, hv, hw⟩ := hx.two
  cases hv.int
  cases hw.int
  exact cr_gcd pins s σ H _ us Q I r ⟨_, _, rfl, q _ _ (out_int _) (fresh_int _)⟩
theorem cb_divmod : CallR X (.builtin "divmod") (rBlt X.K .divmod) := by
  intro pins s σ H vs us Q I r h
  obtain ⟨P, ds, dz, new, hx, e, q⟩ := h
  replace e : blt_divmod ds = some dz := e
  unfold blt_divmod at e
  split at e <;> try cases e
  split at e <;> try cases e
  rename_i hc
  obtain ⟨v, w, rfl, hv, hw⟩ := hx.two
  cases hv.int
  cases hw.int
  exact call_divmod pins s σ H _ us Q I r ⟨_, _, rfl, hc, fun p n => q _ _ (out_tup n (.cons (.int _) (.cons (.int _) .nil))) (fun _ e => by cases e)⟩
theorem cb_tuple : CallR X (.type "tuple") (rBlt X.K .tuple) := by
  intro pins s σ H vs us Q I r h
  obtain ⟨P, ds, dz, new, hx, e, q⟩ := h
  replace e : blt_tuple ds = some dz := e
  unfold blt_tuple at e
  split at e <;> try cases e
  · obtain ⟨v, rfl, hv⟩ := hx.one
    obtain ⟨a, xs, rfl, ha, ra⟩ := hv.list
    exact call_tuple_of pins s σ H _ us Q I r ⟨a, xs, rfl, .inl ⟨ha, fun p n => q _ _ (out_tup n ra) (fun _ e => by cases e)⟩⟩
  · obtain ⟨v, rfl, hv⟩ := hx.one
    obtain ⟨a, xs, rfl, ha, ra⟩ := hv.tuple
    exact call_tuple_of pins s σ H _ us Q I r ⟨a, xs, rfl, .inr ⟨ha, q _ _ ⟨fun _ _ e => e, .tup ha ra⟩ (fun _ e => by cases e)⟩⟩
theorem cb_list : CallR X (.type "list") (rBlt X.K .list) := by
  intro pins s σ H vs us Q I r h
  obtain ⟨P, ds, dz, new, hx, e, q⟩ := h
  replace e : blt_list ds = some dz := e
  unfold blt_list at e
  split at e <;> try cases e
  · obtain ⟨v, rfl, hv⟩ := hx.one
    obtain ⟨a, xs, rfl, ha, ra⟩ := hv.list
    exact call_list_of pins s σ H _ us Q I r ⟨a, xs, rfl, .inl ha, fun p n => q _ _ (out_lst new n ra) (fresh_lst n ra)⟩
  · obtain ⟨v, rfl, hv⟩ := hx.one
    obtain ⟨a, xs, rfl, ha, ra⟩ := hv.tuple
    exact call_list_of pins s σ H _ us Q I r ⟨a, xs, rfl, .inr ha, fun p n => q _ _ (out_lst new n ra) (fresh_lst n ra)⟩
/-- isinstance(x, T) -/
def tyName : Ty → String
  | .int => "int"
  | .bool => "bool"
  | .str => "str"
  | .tuple => "tuple"
  | .list => "list"
  | .dict => "dict"
/-- what stands on top -/
inductive Top (h : Heap) : Value → D → Prop
  | none : Top h .none .none
  | bool (b : Bool) : Top h (.bool b) (.bool b)
  | int (i : Int) (t : Tok) : Top h (.int i t) (.int i)
  | str (x : Str) (t : Tok) : Top h (.str x t) (.str x)
  | list {a : Addr} {o : Obj} {ds : List D} : h.get? a = some o → o.cls = .type "list" → Top h (.ref a) (.list ds)
  | tuple {a : Addr} {o : Obj} {ds : List D} : h.get? a = some o → o.cls = .type "tuple" → Top h (.ref a) (.tuple ds)
  | dict {a : Addr} {o : Obj} {ds : List (D × D)} : h.get? a = some o → o.cls = .type "dict" → Top h (.ref a) (.dict ds)
theorem RW.top {pins : List (Addr × Obj)} {σ : L2.St} {H : Hp} {s : Shared} {v : V} {u : Value} {d : D} (I : Inv X pins σ H s) (r : RW X.K H P v d) (q : RelV v u) : Top s.heap u d := by
  have ex : ∀ {a : Addr} {ep : Nat} {xs : List (NestedKey × Addr × Value)} {ds : List (D × D)}, Rd H a (.ext (rawD a ep xs)) → Top s.heap (.ref a) (.dict ds) := fun {a ep xs ds} h => by
    obtain ⟨⟨_, _, o, es, e1, e2, _⟩, _⟩ := Rd.ok h I.hok
    exact .dict e1 e2.1
  cases r with
  | val r => cases r with
    | non =>
      cases q
      exact .none
    | bl b =>
      cases q
      exact .bool b
    | int i =>
      obtain ⟨t, rfl⟩ := q
      exact .int i t
    | str x =>
      obtain ⟨t, rfl⟩ := q
      exact .str x t
    | lst p s' r =>
      cases q
      obtain ⟨its, _, p, _⟩ := I.list (.inl s')
      obtain ⟨o, e, c, _⟩ := p.isList
      exact .list e c
    | lit s' r =>
      cases q
      obtain ⟨its, _, p, _⟩ := I.list (none_lit s')
      obtain ⟨o, e, c, _⟩ := p.isList
      exact .list e c
    | tup s' r =>
      cases q
      obtain ⟨its, _, p, _⟩ := I.tuple s'
      obtain ⟨o, e, c, _⟩ := p
      exact .tuple e c
    | dct p s' r =>
      cases q
      exact ex s'
  | own r =>
    cases q
    cases r with
    | lst h r =>
      obtain ⟨its, _, p, _⟩ := I.list (SqL.of h)
      obtain ⟨o, e, c, _⟩ := p.isList
      exact .list e c
    | dct h r => exact ex (.inl h)
theorem cb_isi (t : Ty) : CallR X (.builtin "isinstance") (fun vs H Q => ∃ (P : Pa) (x : V) (d : D), vs = [x, .ty (tyName t)] ∧ RW X.K H P x d ∧ Q (.bl (isF t d)) H) := by
  intro pins s σ H vs us Q I r h
  obtain ⟨P, x, d, rfl, hv, q⟩ := h
  obtain ⟨u, w, rfl, ru, rw'⟩ := vals2 r
  cases rw'
  have top := hv.top I ru
  have fin : ∀ tk, s.toks ≤ tk → EP X pins σ Q (.bool (isF t d)) { s with toks := tk } := fun tk _ => ⟨.bl _, H, I.tok tk, rfl, q⟩
  cases t
  · cases top with
    | none => first | exact PySem.IsiPair.NoneType_int (fin _ (Nat.le_succ _)) | exact PySem.IsiPair.NoneType_int (fin _ (Nat.le_refl _))
    | bool b => first | exact PySem.IsiPair.bool_int (fin _ (Nat.le_succ _)) | exact PySem.IsiPair.bool_int (fin _ (Nat.le_refl _))
    | int i t => first | exact PySem.IsiPair.int_int (fin _ (Nat.le_succ _)) | exact PySem.IsiPair.int_int (fin _ (Nat.le_refl _))
    | str x t => first | exact PySem.IsiPair.str_int (fin _ (Nat.le_succ _)) | exact PySem.IsiPair.str_int (fin _ (Nat.le_refl _))
    | list h1 h2 => first | exact PySem.IsiPair.list_int h1 h2 (fin _ (Nat.le_succ _)) | exact PySem.IsiPair.list_int h1 h2 (fin _ (Nat.le_refl _))
    | tuple h1 h2 => first | exact PySem.IsiPair.tuple_int h1 h2 (fin _ (Nat.le_succ _)) | exact PySem.IsiPair.tuple_int h1 h2 (fin _ (Nat.le_refl _))
    | dict h1 h2 => first | exact PySem.IsiPair.dict_int h1 h2 (fin _ (Nat.le_succ _)) | exact PySem.IsiPair.dict_int h1 h2 (fin _ (Nat.le_refl _))
  · cases top with
    | none => first | exact PySem.IsiPair.NoneType_bool (fin _ (Nat.le_succ _)) | exact PySem.IsiPair.NoneType_bool (fin _ (Nat.le_refl _))
    | bool b => first | exact PySem.IsiPair.bool_bool (fin _ (Nat.le_succ _)) | exact PySem.IsiPair.bool_bool (fin _ (Nat.le_refl _))
    | int i t => first | exact PySem.IsiPair.int_bool (fin _ (Nat.le_succ _)) | exact PySem.IsiPair.int_bool (fin _ (Nat.le_refl _))
    | str x t => first | exact PySem.IsiPair.str_bool (fin _ (Nat.le_succ _)) | exact PySem.IsiPair.str_bool (fin _ (Nat.le_refl _))
    | list h1 h2 => first | exact PySem.IsiPair.list_bool h1 h2 (fin _ (Nat.le_succ _)) | exact PySem.IsiPair.list_bool h1 h2 (fin _ (Nat.le_refl _))
    | tuple h1 h2 => first | exact PySem.IsiPair.tuple_bool h1 h2 (fin _ (Nat.le_succ _)) | exact PySem.IsiPair.tuple_bool h1 h2 (fin _ (Nat.le_refl _))
    | dict h1 h2 => first | exact PySem.IsiPair.dict_bool h1 h2 (fin _ (Nat.le_succ _)) | exact PySem.IsiPair.dict_bool h1 h2 (fin _ (Nat.le_refl _))
  · cases top with
    | none => first | exact PySem.IsiPair.NoneType_str (fin _ (Nat.le_succ _)) | exact PySem.IsiPair.NoneType_str (fin _ (Nat.le_refl _))
    | bool b => first | exact PySem.IsiPair.bool_str (fin _ (Nat.le_succ _)) | exact PySem.IsiPair.bool_str (fin _ (Nat.le_refl _))
    | int i t => first | exact PySem.IsiPair.int_str (fin _ (Nat.le_succ _)) | exact PySem.IsiPair.int_str (fin _ (Nat.le_refl _))
    | str x t => first | exact PySem.IsiPair.str_str (fin _ (Nat.le_succ _)) | exact PySem.IsiPair.str_str (fin _ (Nat.le_refl _))
    | list h1 h2 => first | exact PySem.IsiPair.list_str h1 h2 (fin _ (Nat.le_succ _)) | exact PySem.IsiPair.list_str h1 h2 (fin _ (Nat.le_refl _))
    | tuple h1 h2 => first | exact PySem.IsiPair.tuple_str h1 h2 (fin _ (Nat.le_succ _)) | exact PySem.IsiPair.tuple_str h1 h2 (fin _ (Nat.le_refl _))
    | dict h1 h2 => first | exact PySem.IsiPair.dict_str h1 h2 (fin _ (Nat.le_succ _)) | exact PySem.IsiPair.dict_str h1 h2 (fin _ (Nat.le_refl _))
  · cases top with
    | none => first | exact PySem.IsiPair.NoneType_tuple (fin _ (Nat.le_succ _)) | exact PySem.IsiPair.NoneType_tuple (fin _ (Nat.le_refl _))
    | bool b => first | exact PySem.IsiPair.bool_tuple (fin _ (Nat.le_succ _)) | exact PySem.IsiPair.bool_tuple (fin _ (Nat.le_refl _))
    | int i t => first | exact PySem.IsiPair.int_tuple (fin _ (Nat.le_succ _)) | exact PySem.IsiPair.int_tuple (fin _ (Nat.le_refl _))
    | str x t => first | exact PySem.IsiPair.str_tuple (fin _ (Nat.le_succ _)) | exact PySem.IsiPair.str_tuple (fin _ (Nat.le_refl _))
    | list h1 h2 => first | exact PySem.IsiPair.list_tuple h1 h2 (fin _ (Nat.le_succ _)) | exact PySem.IsiPair.list_tuple h1 h2 (fin _ (Nat.le_refl _))
    | tuple h1 h2 => first | exact PySem.IsiPair.tuple_tuple h1 h2 (fin _ (Nat.le_succ _)) | exact PySem.IsiPair.tuple_tuple h1 h2 (fin _ (Nat.le_refl _))
    | dict h1 h2 => first | exact PySem.IsiPair.dict_tuple h1 h2 (fin _ (Nat.le_succ _)) | exact PySem.IsiPair.dict_tuple h1 h2 (fin _ (Nat.le_refl _))
  · cases top with
    | none => first | exact PySem.IsiPair.NoneType_list (fin _ (Nat.le_succ _)) | exact PySem.IsiPair.NoneType_list (fin _ (Nat.le_refl _))
    | bool b => first | exact PySem.IsiPair.bool_list (fin _ (Nat.le_succ _)) | exact PySem.IsiPair.bool_list (fin _ (Nat.le_refl _))
    | int i t => first | exact PySem.IsiPair.int_list (fin _ (Nat.le_succ _)) | exact PySem.IsiPair.int_list (fin _ (Nat.le_refl _))
    | str x t => first | exact PySem.IsiPair.str_list (fin _ (Nat.le_succ _)) | exact PySem.IsiPair.str_list (fin _ (Nat.le_refl _))
    | list h1 h2 => first | exact PySem.IsiPair.list_list h1 h2 (fin _ (Nat.le_succ _)) | exact PySem.IsiPair.list_list h1 h2 (fin _ (Nat.le_refl _))
    | tuple h1 h2 => first | exact PySem.IsiPair.tuple_list h1 h2 (fin _ (Nat.le_succ _)) | exact PySem.IsiPair.tuple_list h1 h2 (fin _ (Nat.le_refl _))
    | dict h1 h2 => first | exact PySem.IsiPair.dict_list h1 h2 (fin _ (Nat.le_succ _)) | exact PySem.IsiPair.dict_list h1 h2 (fin _ (Nat.le_refl _))
  · cases top with
    | none => first | exact PySem.IsiPair.NoneType_dict (fin _ (Nat.le_succ _)) | exact PySem.IsiPair.NoneType_dict (fin _ (Nat.le_refl _))
    | bool b => first | exact PySem.IsiPair.bool_dict (fin _ (Nat.le_succ _)) | exact PySem.IsiPair.bool_dict (fin _ (Nat.le_refl _))
    | int i t => first | exact PySem.IsiPair.int_dict (fin _ (Nat.le_succ _)) | exact PySem.IsiPair.int_dict (fin _ (Nat.le_refl _))
    | str x t => first | exact PySem.IsiPair.str_dict (fin _ (Nat.le_succ _)) | exact PySem.IsiPair.str_dict (fin _ (Nat.le_refl _))
    | list h1 h2 => first | exact PySem.IsiPair.list_dict h1 h2 (fin _ (Nat.le_succ _)) | exact PySem.IsiPair.list_dict h1 h2 (fin _ (Nat.le_refl _))
    | tuple h1 h2 => first | exact PySem.IsiPair.tuple_dict h1 h2 (fin _ (Nat.le_succ _)) | exact PySem.IsiPair.tuple_dict h1 h2 (fin _ (Nat.le_refl _))
    | dict h1 h2 => first | exact PySem.IsiPair.dict_dict h1 h2 (fin _ (Nat.le_succ _)) | exact PySem.IsiPair.dict_dict h1 h2 (fin _ (Nat.le_refl _))
end
end PV
set_option Elab.async false
set_option linter.all false
set_option maxRecDepth 100000
set_option maxHeartbeats 2000000
/-! PV, part V: len(set(t)) of a tuple of keys. -/
namespace PV
open PySem PySem.Spec PyProof.Rows L2
variable [Wd]
section
variable {X : Cx} {P : Pa} {H : Hp} {pins : List (Addr × Obj)} {σ : L2.St} {s : Shared}
/-- keys as they stand in the heap -/
theorem keys_at (I : Inv X pins σ H s) : ∀ {xs : List V} {us : List Value} {ds : List D} {ks : List NestedKey}, RPs X.K H P xs ds → Vals xs us → keysT ds = some ks → ∃ l : List (Addr × NestedKey), us = l.map (fun p => Value.ref p.1) ∧ l.map (·.2) = ks ∧ ∀ p ∈ l, T.At X.prog X.w s.heap p.2 p.1
  | _, _, _, ks, .nil, .nil, e => by
    simp only [keysT, Option.some.injEq] at e
    subst e
    exact ⟨[], rfl, rfl, fun p h => by cases h⟩
  | _, _, _, ks, .cons (d := d) r1 r2, .cons v1 v2, e => by
    unfold keysT at e
    obtain ⟨k, e1, e⟩ := Option.bind_eq_some_iff.mp e
    obtain ⟨ks', e2, rfl⟩ := Option.map_eq_some_iff.mp e
    obtain ⟨l, h1, h2, h3⟩ := keys_at I r2 v2 e2
    obtain ⟨rfl, hd, kk, rfl⟩ := key_s e1
    obtain ⟨as, rd⟩ := Dp.reads I _ _ _ (r1.dp (noDict_data _)) v1
    have nk := nested_reads _ rd
    unfold NestedKey.data at r1
    cases r1 with
    | tup st rr =>
      cases v1
      refine ⟨(_, .tup kk) :: l, by rw [h1]; rfl, by rw [← h2]; rfl, fun p hp => ?_⟩
      rcases List.mem_cons.mp hp with rfl | hp
      · exact ⟨nk, hd⟩
      · exact h3 p hp
theorem pe_lenset {a : Expr} {ta : TA} {p p2 q pos : Pos} (rm : RoomX X) (hc : X.calm = true) (hg : Gl X "len") (hm : X.mg "len" = none) (hg2 : Gl X "set") (hm2 : X.mg "set" = none) (ha : PA X [a] ta) (hs : starEach [a] X.env = [(false, eval a X.env)]) :
    PE X (.Call (.Name "len" p) [.Call (.Name "set" p2) [a] [] q] [] pos) (tCB (rBlt X.K .lenset) ta) := by
  refine ⟨fun pins s σ H Q I h => Call_ (ld_blt I hg hm PySem.boot_len (PyProof.Rows.callWith_builtin1 (PyProof.Rows.args_cons ?_ rfl) rfl rfl))⟩
  refine Call_ (ld_blt I hg2 hm2 PyProof.Rows.boot_set (PyProof.Rows.callWith_type1 (thn (ha.run q pins s σ H _ I h) ?_) hs rfl))
  rintro us s1 ⟨vs, H1, I1, rv, P, ds, dz, new, hx, e, go⟩
  replace e : blt_lenset ds = some dz := e
  unfold blt_lenset at e
  split at e <;> try cases e
  rename_i xs
  obtain ⟨ks, e1, e2⟩ := Option.bind_eq_some_iff.mp e
  split at e2 <;> cases e2
  rename_i few
  obtain ⟨v, rfl, hv⟩ := hx.one
  obtain ⟨b, ws, rfl, hb, rb⟩ := hv.tuple
  obtain ⟨its, ri, tup, _⟩ := I1.tuple hb
  obtain ⟨l, h1, h2, h3⟩ := keys_at I1 rb ri e1
  have tup' : s1.heap.IsTuple b its.toArray := tup
  have un := rm.un
  have len : l.length < 64 := by
    rw [← h2] at few
    simpa using few
  rw [Vals.ref1 rv]
  refine T.set_of_tuple l (I1.ok.hd hc) tup' (by simpa using h1) h3 len (by omega) fun h' tk M es ep t R f old => PyProof.Rows.args_nil ?_
  obtain ⟨o, ho, hex, hd⟩ := R.obj
  have n1 : M.length = (uniq ks).length := by
    have := f.1.length_eq
    rw [List.take_length, h2, List.length_map] at this
    exact this
  have n2 := R.size (s := { s1 with heap := h', toks := tk })
  have n3 := R.few
  refine call_len_set ho hex hd (R.fits (s := { s1 with heap := h', toks := tk })) (by omega) ?_
  refine ⟨.int (uniq ks).length, H1, (I1.kept (h' := h') (t' := tk) old).tok _, ⟨_, by rw [n2, n1]⟩, go _ _ (out_int _) (fresh_int _)⟩
/-! ### sorted(set(xs)) of ints -/
theorem rise_eq : ∀ {l m : List Int}, l.Pairwise (· < ·) → m.Pairwise (· < ·) → (∀ k, k ∈ l ↔ k ∈ m) → l = m
  | [], [], _, _, _ => rfl
  | [], b :: m, _, _, e => absurd ((e b).mpr (List.mem_cons_self ..)) (by simp)
  | a :: l, [], _, _, e => absurd ((e a).mp (List.mem_cons_self ..)) (by simp)
  | a :: l, b :: m, h1, h2, e => by
    rw [List.pairwise_cons] at h1 h2
    have ab : a = b := by
      rcases List.mem_cons.mp ((e a).mp (List.mem_cons_self ..)) with h | h
      · exact h
      · rcases List.mem_cons.mp ((e b).mpr (List.mem_cons_self ..)) with g | g
        · exact g.symm
        · have := h2.1 a h
          have := h1.1 b g
          omega
    subst ab
    rw [rise_eq h1.2 h2.2 fun k => ⟨fun h => ?_, fun h => ?_⟩]
    · rcases List.mem_cons.mp ((e k).mp (List.mem_cons_of_mem _ h)) with g | g
      · have := h1.1 k h
        omega
      · exact g
    · rcases List.mem_cons.mp ((e k).mpr (List.mem_cons_of_mem _ h)) with g | g
      · have := h2.1 k h
        omega
      · exact g
theorem mem_insU {k x : Int} : ∀ {l : List Int}, x ∈ insU k l ↔ x = k ∨ x ∈ l
  | [] => by simp [insU]
  | y :: l => by
    unfold insU
    split
    · simp
    · split
      · rename_i h
        subst h
        simp
      · rw [List.mem_cons, mem_insU, List.mem_cons]
        constructor
        · rintro (h | h | h)
          · exact .inr (.inl h)
          · exact .inl h
          · exact .inr (.inr h)
        · rintro (h | h | h)
          · exact .inr (.inl h)
          · exact .inl h
          · exact .inr (.inr h)
theorem insU_lt {k : Int} : ∀ {l : List Int}, l.Pairwise (· < ·) → (insU k l).Pairwise (· < ·)
  | [], _ => by simp [insU]
  | y :: l, h => by
    have h' := List.pairwise_cons.mp h
    unfold insU
    split
    · rename_i lt
      refine List.pairwise_cons.mpr ⟨fun z hz => ?_, h⟩
      rcases List.mem_cons.mp hz with rfl | hz
      · exact lt
      · have := h'.1 z hz
        omega
    · split
      · exact h
      · refine List.pairwise_cons.mpr ⟨fun z hz => ?_, insU_lt h'.2⟩
        rcases mem_insU.mp hz with rfl | hz
        · omega
        · exact h'.1 z hz
theorem sortU_lt : ∀ l : List Int, (sortU l).Pairwise (· < ·)
  | [] => List.Pairwise.nil
  | x :: l => insU_lt (sortU_lt l)
theorem mem_sortU {k : Int} : ∀ {l : List Int}, k ∈ sortU l ↔ k ∈ l
  | [] => by simp [sortU]
  | x :: l => by
    unfold sortU
    rw [mem_insU, mem_sortU, List.mem_cons]
theorem pe_sortset {a : Expr} {ta : TA} {p p2 q pos : Pos} (hc : X.calm = true) (hg : Gl X "sorted") (hm : X.mg "sorted" = none) (hg2 : Gl X "set") (hm2 : X.mg "set" = none) (ha : PA X [a] ta) (hs : starEach [a] X.env = [(false, eval a X.env)]) :
    PE X (.Call (.Name "sorted" p) [.Call (.Name "set" p2) [a] [] q] [] pos) (tCB (rBlt X.K .sortset) ta) := by
  have boot : bootBuiltins ("sorted" : Str) = some (.builtin "sorted") := by kernel_rfl
  refine ⟨fun pins s σ H Q I h => Call_ (ld_blt I hg hm boot (PyProof.Rows.callWith_builtin1 (PyProof.Rows.args_cons ?_ rfl) rfl rfl))⟩
  refine Call_ (ld_blt I hg2 hm2 PyProof.Rows.boot_set (PyProof.Rows.callWith_type1 (thn (ha.run q pins s σ H _ I h) ?_) hs rfl))
  rintro us s1 ⟨vs, H1, I1, rv, P, ds, dz, new, hx, e, go⟩
  replace e : blt_sortset ds = some dz := e
  unfold blt_sortset at e
  split at e <;> try cases e
  rename_i xs
  obtain ⟨ns, e1, e2⟩ := Option.bind_eq_some_iff.mp e
  split at e2 <;> cases e2
  rename_i few
  obtain ⟨v, rfl, hv⟩ := hx.one
  obtain ⟨b, ws, rfl, hb, rb⟩ := hv.list
  have ew := rb.ints e1
  subst ew
  obtain ⟨its, ri, lst, _⟩ := I1.list hb
  rw [Vals.ref1 rv]
  refine T.set_of_ints ns (I1.ok.hd hc) lst.isList (by simpa using ri.ints) (by unfold scanBound; omega) fun h' tk c R le old => PyProof.Rows.args_nil ?_
  have I2 : Inv X pins σ H1 { s1 with heap := h', toks := tk } := I1.kept (h' := h') (t' := tk) old
  refine sorted_set (s := { s1 with heap := h', toks := tk }) R (I2.ok.hd hc) (by omega) fun s' p out c2 ms keep g o hp hget hi rise mem len => ?_
  have em : ms = sortU ns := rise_eq rise (sortU_lt ns) fun k => by
    rw [mem k, mem_sortU]
    simp
  subst em
  have fresh : H1 p = none := I2.hok.fresh hp
  have short : ((sortU ns).map V.int).length ≤ sizeLine := by
    rw [List.length_map, len, sizeLine_eq]
    omega
  have rows : ∀ l : List Int, RPs X.K H1 P (l.map V.int) (l.map PyData.int) := fun l => by
    induction l with
    | nil => exact .nil
    | cons x l ih => exact .cons (.int x) ih
  have J : Inv X pins σ (upd H1 p (.lst ((sortU ns).map V.int))) { ({ s1 with heap := h', toks := tk } : Shared) with heap := s'.heap, gens := s'.gens, drawn := s'.drawn, toks := s'.toks } :=
    I2.call (ch := []) (Un.laid keep hp fresh) (I2.hok.laid keep hp ⟨short, out.toList, c2, vals_of_ints hi, hget⟩) (by rw [g]; exact I2.bare) (fun _ z => nomatch z)
  have es : s' = { ({ s1 with heap := h', toks := tk } : Shared) with heap := s'.heap, gens := s'.gens, drawn := s'.drawn, toks := s'.toks } := by
    cases s'
    cases o
    rfl
  rw [es]
  exact ⟨.ref p, _, J, rfl, go _ _ (out_lst new fresh (rows _)) (fresh_lst fresh (rows _))⟩
theorem pe_rangel {a : Expr} {ta : TA} {p p2 q pos : Pos} (hc : X.calm = true) (hg : Gl X "list") (hm : X.mg "list" = none) (hg2 : Gl X "range") (hm2 : X.mg "range" = none) (ha : PA X [a] ta) (hs : starEach [a] X.env = [(false, eval a X.env)]) :
    PE X (.Call (.Name "list" p) [.Call (.Name "range" p2) [a] [] q] [] pos) (tCB (rBlt X.K .rangel) ta) := by
  have boot : bootBuiltins ("list" : Str) = some (.type "list") := by kernel_rfl
  have boot2 : bootBuiltins ("range" : Str) = some (.type "range") := by kernel_rfl
  refine ⟨fun pins s σ H Q I h => Call_ (ld_blt I hg hm boot (PyProof.Rows.callWith_type1 (PyProof.Rows.args_cons ?_ rfl) rfl rfl))⟩
  refine Call_ (ld_blt I hg2 hm2 boot2 (PyProof.Rows.callWith_type1 (thn (ha.run q pins s σ H _ I h) ?_) hs rfl))
  rintro us s1 ⟨vs, H1, I1, rv, P, ds, dz, new, hx, e, go⟩
  replace e : blt_rangel ds = some dz := e
  unfold blt_rangel at e
  split at e <;> try cases e
  rename_i n
  split at e <;> cases e
  rename_i few
  obtain ⟨v, rfl, hv⟩ := hx.one
  obtain rfl := hv.int
  obtain ⟨t, rfl⟩ : ∃ t, us = [.int n t] := by
    cases rv with
    | cons h1 h2 => cases h2 with
      | nil =>
        obtain ⟨t, rfl⟩ := h1
        exact ⟨t, rfl⟩
  refine call_range_1 (PyProof.Rows.args_nil ?_)
  have I2 : Inv X pins σ H1 { s1 with heap := s1.heap.push { cls := .type "range", data := .fields #[.int 0 s1.toks, .int n t, .int 1 (s1.toks + 1)] }, toks := s1.toks + 1 + 1 } := I1.kept fun b u e => Heap.get?_push_of_some _ e
  have rows : RPs X.K H1 P (rgV 0 n) (rangeD 0 n) := by
    have all : ∀ l : List Nat, RPs X.K H1 P (l.map fun (i : Nat) => V.int (0 + (i : Int))) (l.map fun (k : Nat) => PyData.int (0 + (k : Int))) := fun l => by
      induction l with
      | nil => exact .nil
      | cons x l ih => exact .cons (.int _) ih
    exact all _
  refine call_list_range (n := (n - 0).toNat) (I2.ok.hd hc) (IsRange.new _ _ _ _ _ _ _) (small_one (by omega) (by omega) (by omega) (by omega)) (rangeSize_nat 0 n) (by omega) fun h' tk acc c' hk e' hi => ?_
  exact ⟨.ref _, _, I2.laid hk (Nat.le_refl _) (show ObjOk X.prog X.w _ _ _ (.lst (rgV 0 n)) from ⟨by rw [rgV_length, sizeLine_eq]; omega, acc.toList, c', vals_rg hi, by rw [Array.toArray_toList]; exact e'⟩), rfl, go _ _ (out_lst new (I2.hok.fresh (Nat.le_refl _)) rows) (fresh_lst (I2.hok.fresh (Nat.le_refl _)) rows)⟩
theorem pe_ranget {a : Expr} {ta : TA} {p p2 q pos : Pos} (hc : X.calm = true) (hg : Gl X "tuple") (hm : X.mg "tuple" = none) (hg2 : Gl X "range") (hm2 : X.mg "range" = none) (ha : PA X [a] ta) (hs : starEach [a] X.env = [(false, eval a X.env)]) :
    PE X (.Call (.Name "tuple" p) [.Call (.Name "range" p2) [a] [] q] [] pos) (tCB (rBlt X.K .ranget) ta) := by
  have boot : bootBuiltins ("tuple" : Str) = some (.type "tuple") := by kernel_rfl
  have boot2 : bootBuiltins ("range" : Str) = some (.type "range") := by kernel_rfl
  refine ⟨fun pins s σ H Q I h => Call_ (ld_blt I hg hm boot (PyProof.Rows.callWith_type1 (PyProof.Rows.args_cons ?_ rfl) rfl rfl))⟩
  refine Call_ (ld_blt I hg2 hm2 boot2 (PyProof.Rows.callWith_type1 (thn (ha.run q pins s σ H _ I h) ?_) hs rfl))
  rintro us s1 ⟨vs, H1, I1, rv, P, ds, dz, new, hx, e, go⟩
  replace e : blt_ranget ds = some dz := e
  unfold blt_ranget at e
  split at e <;> try cases e
  rename_i n
  split at e <;> cases e
  rename_i few
  obtain ⟨v, rfl, hv⟩ := hx.one
  obtain rfl := hv.int
  obtain ⟨t, rfl⟩ : ∃ t, us = [.int n t] := by
    cases rv with
    | cons h1 h2 => cases h2 with
      | nil =>
        obtain ⟨t, rfl⟩ := h1
        exact ⟨t, rfl⟩
  refine call_range_1 (PyProof.Rows.args_nil ?_)
  have I2 : Inv X pins σ H1 { s1 with heap := s1.heap.push { cls := .type "range", data := .fields #[.int 0 s1.toks, .int n t, .int 1 (s1.toks + 1)] }, toks := s1.toks + 1 + 1 } := I1.kept fun b u e => Heap.get?_push_of_some _ e
  have rows : RPs X.K H1 P (rgV 0 n) (rangeD 0 n) := by
    have all : ∀ l : List Nat, RPs X.K H1 P (l.map fun (i : Nat) => V.int (0 + (i : Int))) (l.map fun (k : Nat) => PyData.int (0 + (k : Int))) := fun l => by
      induction l with
      | nil => exact .nil
      | cons x l ih => exact .cons (.int _) ih
    exact all _
  refine call_tuple_range (n := (n - 0).toNat) (I2.ok.hd hc) (IsRange.new _ _ _ _ _ _ _) (small_one (by omega) (by omega) (by omega) (by omega)) (rangeSize_nat 0 n) (by omega) fun h' tk acc hk hi => ?_
  have I3 : Inv X pins σ H1 { s1 with heap := h', toks := tk } := I2.kept (h' := h') (t' := tk) hk
  exact ⟨.ref _, _, I3.laid (t' := tk) (fun c o e => Heap.get?_push_of_some _ e) (Nat.le_refl _) (show ObjOk X.prog X.w _ _ _ (.tup (rgV 0 n)) from ⟨by rw [rgV_length, sizeLine_eq]; omega, acc.toList, vals_rg hi, by rw [Array.toArray_toList]; exact IsTup.new _ _⟩), rfl, go _ _ (out_tup (I3.hok.fresh (Nat.le_refl _)) rows) (fun _ z => by cases z)⟩
end
end PV
set_option Elab.async false
set_option linter.all false
set_option maxRecDepth 100000
set_option maxHeartbeats 2000000
/-! PV, part F: from what the evaluator says to the readings of the layer's rules. -/
namespace PV
open PySem PySem.Spec PyProof.Rows L2
variable [Wd]
section
variable {K : PySem.W.Frag} {W : WZ} {Ph : CallF} {σ : L2.St} {H : Hp} {Q : VK}
/-- an expression that makes a new list: more is known of its value -/
def Frs (K : PySem.W.Frag) (P0 : Pa) (env' : Fram) (σ : L2.St) (H H' : Hp) (v : V) (d : D) : Prop := isSeq d = true → ∃ b, v = .ref b ∧ H b = none ∧ RE K (fun a => P0 a ∧ a ≠ b) env' σ H' ∧ ROwn K H' (Stb (fun a => P0 a ∧ a ≠ b) env' σ) b d
def tG (Ph : CallF) (K : PySem.W.Frag) (W : WZ) (e : Exp) : TE := fun σ H Q => ∃ (P0 : Pa) (env : Fram), RE K P0 env σ H ∧
  Post (ev Ph e env) (fun p => ∀ v H', Aft K P0 env σ H p.2 H' → RP K H' (Stb P0 p.2 σ) v p.1 → Frs K P0 p.2 σ H H' v p.1 → Q v H') (XP K W P0 env σ H)
theorem tG_of {e : Exp} (h : tE Ph K W e σ H Q) : tG Ph K W e σ H Q := by
  obtain ⟨P0, env, r, h⟩ := h
  exact ⟨P0, env, r, h.imp (fun p q v H' a b _ => q v H' a b) fun _ _ x => x⟩
/-- behind an operation that lets the heap grow -/
theorem Aft.out {P0 : Pa} {env env1 : Fram} {H1 : Hp} (a : Aft K P0 env σ H env1 H1) {v : V} {d : D} {H2 : Hp} (o : Out K (Stb P0 env1 σ) H1 v d H2) : Aft K P0 env σ H env1 H2 := a.trans (Aft.grow a.re o.grow)
theorem Frs.out {P0 : Pa} {env env1 : Fram} {H1 : Hp} (r : RE K P0 env σ H) (a : Aft K P0 env σ H env1 H1) {v : V} {d : D} {H2 : Hp} (hd : ∀ kvs, d ≠ .dict kvs) (f : FreshL K (Stb P0 env1 σ) H1 v d H2) : Frs K P0 env1 σ H H2 v d := fun hs => by
  cases d with
  | list ds =>
    obtain ⟨p, vs, rfl, n, rfl, rp⟩ := f ds rfl
    have hn : H p = none := a.tr p n
    refine ⟨p, rfl, hn, a.re.fresh n, ?_⟩
    exact .lst upd_same ((((rp.avoid n).mono fun _ z => (⟨⟨z.1.1, z.2⟩, z.1.2⟩ : Stb (fun a => P0 a ∧ a ≠ p) env1 σ _))).keep (Keep.all (upd_all n)) fun _ z => z)
  | dict kvs => exact absurd rfl (hd kvs)
  | _ => cases hs
def isDct : D → Bool
  | .dict _ => true
  | _ => false
theorem nd_of {z : D} (h : isDct z = false) : ∀ kvs, z ≠ .dict kvs := fun kvs e => by
  subst e
  cases h
theorem binF_nd {o : Bop} {x y z : D} (h : binF o x y = some z) : isDct z = false := by
  unfold binF at h
  split at h <;> first | (cases h; done) | (cases h; rfl) | (split at h <;> first | (cases h; rfl) | cases h)
theorem sliceF_nd {x z : D} {lo hi : Option Int} (h : sliceF x lo hi = some z) : isDct z = false := by
  unfold sliceF at h
  split at h <;> first | (cases h; done) | (cases h; rfl)
theorem bltF_nd {b : Blt} {ds : List D} {z : D} (h : bltF b ds = some z) : isDct z = false := by
  cases b
  · replace h : blt_len ds = some z := h
    unfold blt_len at h
    split at h <;> first | (cases h; done) | (cases h; rfl)
  · replace h : blt_abs ds = some z := h
    unfold blt_abs at h
    split at h <;> first | (cases h; done) | (cases h; rfl)
  · replace h : blt_max2 ds = some z := h
    unfold blt_max2 at h
    split at h <;> first | (cases h; done) | (cases h; rfl)
  · replace h : blt_min2 ds = some z := h
    unfold blt_min2 at h
    split at h <;> first | (cases h; done) | (cases h; rfl)
  · replace h : blt_int1 ds = some z := h
    unfold blt_int1 at h
    split at h <;> first | (cases h; done) | (cases h; rfl)
  · replace h : blt_str1 ds = some z := h
    unfold blt_str1 at h
    split at h <;> first | (cases h; done) | (split at h <;> first | (cases h; rfl) | cases h)
  · replace h : blt_repr ds = some z := h
    unfold blt_repr at h
    split at h <;> first | (cases h; done) | (split at h <;> first | (cases h; rfl) | cases h)
  · replace h : blt_all ds = some z := h
    unfold blt_all at h
    split at h <;> first | (cases h; done) | (obtain ⟨_, _, rfl⟩ := Option.map_eq_some_iff.mp h; rfl)
  · replace h : blt_any ds = some z := h
    unfold blt_any at h
    split at h <;> first | (cases h; done) | (obtain ⟨_, _, rfl⟩ := Option.map_eq_some_iff.mp h; rfl)
  · replace h : blt_sum ds = some z := h
    unfold blt_sum at h
    split at h <;> first | (cases h; done) | (obtain ⟨_, _, rfl⟩ := Option.map_eq_some_iff.mp h; rfl)
  · replace h : blt_gcd ds = some z := h
    unfold blt_gcd at h
    split at h <;> first | (cases h; done) | (cases h; rfl)
  · replace h : blt_divmod ds = some z := h
    unfold blt_divmod at h
    split at h <;> first | (cases h; done) | (split at h <;> first | (cases h; rfl) | cases h)
  · replace h : blt_tuple ds = some z := h
    unfold blt_tuple at h
    split at h <;> first | (cases h; done) | (cases h; rfl)
  · replace h : blt_list ds = some z := h
    unfold blt_list at h
    split at h <;> first | (cases h; done) | (cases h; rfl)
  · replace h : blt_lenset ds = some z := h
    unfold blt_lenset at h
    split at h
    · obtain ⟨ks, _, h⟩ := Option.bind_eq_some_iff.mp h
      split at h <;> first | (cases h; rfl) | cases h
    · cases h
  · replace h : blt_sorted ds = some z := h
    unfold blt_sorted at h
    split at h <;> first | (cases h; done) | (split at h <;> first | (cases h; rfl) | cases h)
  · replace h : blt_sortset ds = some z := h
    unfold blt_sortset at h
    split at h
    · obtain ⟨ks, _, h⟩ := Option.bind_eq_some_iff.mp h
      split at h <;> first | (cases h; rfl) | cases h
    · cases h
  · replace h : blt_rangel ds = some z := h
    unfold blt_rangel at h
    split at h <;> first | (cases h; done) | (split at h <;> first | (cases h; rfl) | cases h)
  · replace h : blt_ranget ds = some z := h
    unfold blt_ranget at h
    split at h <;> first | (cases h; done) | (split at h <;> first | (cases h; rfl) | cases h)
/-! entailments -/
variable {a b c i : Exp} {es : Exs}
def exsLen : Exs → Nat
  | .nil => 0
  | .cons _ es => exsLen es + 1
theorem evs_len : ∀ {es : Exs} {env : Fram} {p : List D × Fram}, evs Ph es env = .ok p → p.1.length = exsLen es
  | .nil, env, p, h => by
    unfold evs at h
    cases h
    rfl
  | .cons e es, env, p, h => by
    unfold evs at h
    cases h1 : ev Ph e env with
    | ok q =>
      rw [h1] at h
      cases h2 : evs Ph es q.2 with
      | ok q2 =>
        simp only [bind_ok, h2] at h
        cases h
        simp [exsLen, evs_len h2]
      | exc z e => simp [h2] at h
      | bad => simp [h2] at h
    | exc z e => simp [h1] at h
    | bad => simp [h1] at h
theorem post_ok {A : Type} {r : Res A} {k : A → Prop} {x : Exc → Fram → Prop} (h : Post r k x) : Post r (fun a => r = .ok a ∧ k a) x := by
  cases r with
  | ok a => exact ⟨rfl, h⟩
  | _ => exact h
theorem line_of {n : Nat} (h : n ≤ 1000) : n ≤ sizeLine := by
  rw [sizeLine_eq]
  omega
theorem ent_tup (hl : exsLen es ≤ 1000) (h : tE Ph K W (.tup es) σ H Q) : tTup (tEs Ph K W es) σ H Q := by
  obtain ⟨P0, env, r, h⟩ := h
  unfold ev at h
  refine tEs_of r (post_ok (post_bind.mp h)) fun ds env1 ⟨e, q⟩ vs H1 a rs => ?_
  have l1 := rs.length
  have l2 : ds.length = exsLen es := evs_len e
  refine ⟨line_of (by omega), fun p n => ?_⟩
  have o := out_tup (P := Stb P0 env1 σ) n rs
  exact q _ _ (a.out o) o.rp
theorem ent_lst (hl : exsLen es ≤ 1000) (h : tG Ph K W (.lst es) σ H Q) : tLst (tEs Ph K W es) σ H Q := by
  obtain ⟨P0, env, r, h⟩ := h
  unfold ev at h
  refine tEs_of r (post_ok (post_bind.mp h)) fun ds env1 ⟨e, q⟩ vs H1 a rs => ?_
  have l1 := rs.length
  have l2 : ds.length = exsLen es := evs_len e
  refine ⟨line_of (by omega), fun p n => ?_⟩
  have o := out_lst (P := Stb P0 env1 σ) (fun p n => a.re.stbNew n) n rs
  exact q _ _ (a.out o) o.rp (Frs.out r a (fun kvs z => by cases z) (fresh_lst n rs))
/-- a new empty dict -/
def tDNewR : TE := fun _ H Q => ∀ p, H p = none → Q (.ref p) (upd H p (.ext (rawD p 0 [])))
theorem pe_dnewR {X : Cx} {pos : Pos} : PE X (.Dict [] [] pos) tDNewR := ⟨fun pins s σ H Q I h =>
  wpAny_Dict_empty ⟨.ref s.heap.objs.size, _, I.laid (a := s.heap.objs.size) (o := .ext (rawD s.heap.objs.size 0 [])) (t' := s.toks) (fun _ _ q => Heap.get?_push_of_some _ q) (Nat.le_refl _)
    ⟨⟨beq_eq_false_iff_ne.mpr (Ne.symm (Nat.ne_of_lt I.big)), Nat.zero_le _, _, #[], Heap.get?_push_size _ rfl, ⟨rfl, rfl, rfl⟩, rfl, rfl, List.nodup_nil⟩, ⟨_, Heap.get?_push_size _ rfl⟩, rawD_mono⟩, rfl, h _ (I.hok.fresh (Nat.le_refl _))⟩⟩
theorem ent_dict0 (h : tG Ph K W .dict0 σ H Q) : tDNewR σ H Q := by
  obtain ⟨P0, env, r, h⟩ := h
  unfold ev at h
  intro p n
  have o : Out K (Stb P0 env σ) H (.ref p) (.dict []) (upd H p (.ext (rawD p 0 []))) := ⟨upd_all n, .dct (r.stbNew n) (.inl upd_same) .nil⟩
  exact h _ _ ((Aft.refl r).out o) o.rp fun _ => ⟨p, rfl, n, r.fresh n, .dct upd_same .nil⟩
theorem ent_bin {o : Bop} (h : tG Ph K W (.bin o a b) σ H Q) : tOp (rBin K o) (tO Ph K W a) (tO Ph K W b) σ H Q := by
  obtain ⟨P0, env, r, h⟩ := h
  unfold ev at h
  refine tO_of r (post_bind.mp h) fun oa env1 q x H1 a1 ra => ?_
  refine tO_of a1.re ((post_bind.mp q).imp (fun _ z => z) fun _ _ z => z.after a1) fun ob env2 q y H2 a2 rb => ?_
  obtain ⟨dx, ex, q⟩ := post_opt.mp (post_bind.mp q)
  obtain ⟨dy, ey, q⟩ := post_opt.mp (post_bind.mp q)
  obtain ⟨dz, ez, q⟩ := post_opt.mp (post_bind.mp q)
  have a12 := a1.trans a2
  refine ⟨Stb P0 env2 σ, dx, dy, dz, fun p n => a2.re.stbNew n, a2.re.deref ex (a2.rop a1.re ra), a2.re.deref ey rb, ez, fun v H3 o f => q v H3 (a12.out o) o.rp (Frs.out r a12 (nd_of (binF_nd ez)) f)⟩
theorem ent_neg (h : tE Ph K W (.neg a) σ H Q) : tUn (rU fun i => .int (-i)) (tE Ph K W a) σ H Q := by
  obtain ⟨P0, env, r, h⟩ := h
  unfold ev at h
  refine tE_of r (post_bind.mp h) fun d env1 q v H1 a1 ra => ?_
  cases d with
  | int j =>
    cases ra
    exact ⟨_, rfl, q _ H1 a1 (.int _)⟩
  | _ => exact q.elim
theorem ent_nott (h : tE Ph K W (.nott a) σ H Q) : tNotV (tE Ph K W a) σ H Q := by
  obtain ⟨P0, env, r, h⟩ := h
  unfold ev at h
  refine tE_of r (post_bind.mp h) fun d env1 q v H1 a1 ra => ?_
  cases d with
  | bool j =>
    cases ra
    exact ⟨_, rfl, q _ H1 a1 (.bl _)⟩
  | _ => exact q.elim
theorem ent_nottT {Q : Bool → Hp → Prop} (h : tT Ph K W (.nott a) σ H Q) : tNot (tT Ph K W a) σ H Q := by
  obtain ⟨P0, env, r, h⟩ := h
  unfold ev at h
  refine tT_of r (post_bind.mp h) fun d env1 q => ?_
  cases d with
  | bool j =>
    obtain ⟨k, e, q⟩ := q
    cases e
    exact ⟨_, rfl, fun H1 a1 => q H1 a1⟩
  | _ => exact q.elim
theorem ent_cmp {o : Cop} (ho : o ≠ .isN ∧ o ≠ .notN) (h : tE Ph K W (.cmp o a b) σ H Q) : tOp (rCmp K o) (tO Ph K W a) (tO Ph K W b) σ H Q := by
  obtain ⟨P0, env, r, h⟩ := h
  have e : ev Ph (.cmp o a b) env = (opd a env (ev Ph a env)).bind fun p => (opd b p.2 (ev Ph b p.2)).bind fun q => (opt (deref q.2 p.1)).bind fun x => (opt (deref q.2 q.1)).bind fun y => (opt (cmpF o x y)).bind fun z => .ok (.bool z, q.2) := by
    cases o <;> first | exact absurd rfl ho.1 | exact absurd rfl ho.2 | (conv => lhs; unfold ev)
  rw [e] at h
  refine tO_of r (post_bind.mp h) fun oa env1 q x H1 a1 ra => ?_
  refine tO_of a1.re ((post_bind.mp q).imp (fun _ z => z) fun _ _ z => z.after a1) fun ob env2 q y H2 a2 rb => ?_
  obtain ⟨dx, ex, q⟩ := post_opt.mp (post_bind.mp q)
  obtain ⟨dy, ey, q⟩ := post_opt.mp (post_bind.mp q)
  obtain ⟨dz, ez, q⟩ := post_opt.mp (post_bind.mp q)
  exact ⟨Stb P0 env2 σ, dx, dy, dz, a2.re.deref ex (a2.rop a1.re ra), a2.re.deref ey rb, ez, q _ H2 (a1.trans a2) (.bl _)⟩
theorem ent_idx (h : tE Ph K W (.idx a i) σ H Q) : tOp (rIdx K) (tO Ph K W a) (tE Ph K W i) σ H Q := by
  obtain ⟨P0, env, r, h⟩ := h
  unfold ev at h
  refine tO_of r (post_bind.mp h) fun oa env1 q x H1 a1 ra => ?_
  refine tE_of a1.re ((post_bind.mp q).imp (fun _ z => z) fun _ _ z => z.after a1) fun ob env2 q y H2 a2 rb => ?_
  obtain ⟨dx, ex, q⟩ := post_opt.mp (post_bind.mp q)
  obtain ⟨dz, ez, q⟩ := post_opt.mp (post_bind.mp q)
  exact ⟨Stb P0 env2 σ, dx, ob, dz, a2.re.deref ex (a2.rop a1.re ra), rb, ez, fun v rv => q v H2 (a1.trans a2) rv⟩
theorem ent_ite (h : tE Ph K W (.ite c a b) σ H Q) : tIf (tT Ph K W c) (tE Ph K W a) (tE Ph K W b) σ H Q := by
  obtain ⟨P0, env, r, h⟩ := h
  unfold ev at h
  refine tT_of r (post_bind.mp h) fun d env1 q => ?_
  cases d with
  | bool k =>
    cases k with
    | true =>
      refine ⟨_, rfl, fun H1 a1 => ?_⟩
      rw [if_pos rfl]
      exact tE_of a1.re (q.imp (fun _ z => z) fun _ _ z => z.after a1) fun d env2 q v H2 a2 rv => q v H2 (a1.trans a2) rv
    | false =>
      refine ⟨_, rfl, fun H1 a1 => ?_⟩
      rw [if_neg Bool.false_ne_true]
      exact tE_of a1.re (q.imp (fun _ z => z) fun _ _ z => z.after a1) fun d env2 q v H2 a2 rv => q v H2 (a1.trans a2) rv
  | _ => exact q.elim
theorem ent_blt {o : Blt} (h : tG Ph K W (.blt o es) σ H Q) : tCB (rBlt K o) (tOs Ph K W es) σ H Q := by
  obtain ⟨P0, env, r, h⟩ := h
  unfold ev at h
  refine tOs_of r (post_bind.mp h) fun os env1 q vs H1 a1 ra => ?_
  obtain ⟨ds, ed, q⟩ := post_opt.mp (post_bind.mp q)
  obtain ⟨dz, ez, q⟩ := post_opt.mp (post_bind.mp q)
  exact ⟨Stb P0 env1 σ, ds, dz, fun p n => a1.re.stbNew n, a1.re.derefs ed ra, ez, fun v H3 o f => q v H3 (a1.out o) o.rp (Frs.out r a1 (nd_of (bltF_nd ez)) f)⟩
/-! arguments -/
theorem ent_es_nil {Q : List V → Hp → Prop} (h : tEs Ph K W .nil σ H Q) : tNil σ H Q := by
  obtain ⟨P0, env, r, h⟩ := h
  exact h [] H (Aft.refl r) .nil
theorem ent_es_cons {Q : List V → Hp → Prop} (h : tEs Ph K W (.cons a es) σ H Q) : tCons (tE Ph K W a) (tEs Ph K W es) σ H Q := by
  obtain ⟨P0, env, r, h⟩ := h
  unfold evs at h
  refine tE_of r (post_bind.mp h) fun d env1 q x H1 a1 ra => ?_
  refine tEs_of a1.re ((post_bind.mp q).imp (fun _ z => z) fun _ _ z => z.after a1) fun ds env2 q xs H2 a2 rs => ?_
  exact q (x :: xs) H2 (a1.trans a2) (.cons (a2.rp a1.re ra) rs)
theorem Aft.rops {P0 : Pa} {env env1 : Fram} {H1 : Hp} (a : Aft K P0 env σ H env1 H1) (r : RE K P0 env σ H) : ∀ {vs : List V} {os : List Opd}, ROps K H (Stb P0 env σ) σ vs os → ROps K H1 (Stb P0 env1 σ) σ vs os
  | _, _, .nil => .nil
  | _, _, .cons h q => .cons (a.rop r h) (Aft.rops a r q)
theorem ent_os_nil {Q : List V → Hp → Prop} (h : tOs Ph K W .nil σ H Q) : tNil σ H Q := by
  obtain ⟨P0, env, r, h⟩ := h
  exact h [] H (Aft.refl r) .nil
theorem ent_os_cons {Q : List V → Hp → Prop} (h : tOs Ph K W (.cons a es) σ H Q) : tCons (tO Ph K W a) (tOs Ph K W es) σ H Q := by
  obtain ⟨P0, env, r, h⟩ := h
  unfold evp at h
  refine tO_of r (post_bind.mp h) fun d env1 q x H1 a1 ra => ?_
  refine tOs_of a1.re ((post_bind.mp q).imp (fun _ z => z) fun _ _ z => z.after a1) fun ds env2 q xs H2 a2 rs => ?_
  exact q (x :: xs) H2 (a1.trans a2) (.cons (a2.rop a1.re ra) rs)
/-! and, or -/
def tAndE (Ph : CallF) (K : PySem.W.Frag) (W : WZ) (es : Exs) : TE := fun σ H Q => ∃ (P0 : Pa) (env : Fram), RE K P0 env σ H ∧
  Post (evAnd Ph es env) (fun p => ∀ v H', Aft K P0 env σ H p.2 H' → RP K H' (Stb P0 p.2 σ) v p.1 → Q v H') (XP K W P0 env σ H)
def tOrE (Ph : CallF) (K : PySem.W.Frag) (W : WZ) (es : Exs) : TE := fun σ H Q => ∃ (P0 : Pa) (env : Fram), RE K P0 env σ H ∧
  Post (evOr Ph es env) (fun p => ∀ v H', Aft K P0 env σ H p.2 H' → RP K H' (Stb P0 p.2 σ) v p.1 → Q v H') (XP K W P0 env σ H)
def tAndB (Ph : CallF) (K : PySem.W.Frag) (W : WZ) (es : Exs) : TT := fun σ H Q => ∃ (P0 : Pa) (env : Fram), RE K P0 env σ H ∧
  Post (evAnd Ph es env) (fun p => ∃ b, p.1 = .bool b ∧ ∀ H', Aft K P0 env σ H p.2 H' → Q b H') (XP K W P0 env σ H)
def tOrB (Ph : CallF) (K : PySem.W.Frag) (W : WZ) (es : Exs) : TT := fun σ H Q => ∃ (P0 : Pa) (env : Fram), RE K P0 env σ H ∧
  Post (evOr Ph es env) (fun p => ∃ b, p.1 = .bool b ∧ ∀ H', Aft K P0 env σ H p.2 H' → Q b H') (XP K W P0 env σ H)
theorem ent_conj (h : tE Ph K W (.conj es) σ H Q) : tAndE Ph K W es σ H Q := by
  obtain ⟨P0, env, r, h⟩ := h
  unfold ev at h
  exact ⟨P0, env, r, h⟩
theorem ent_disj (h : tE Ph K W (.disj es) σ H Q) : tOrE Ph K W es σ H Q := by
  obtain ⟨P0, env, r, h⟩ := h
  unfold ev at h
  exact ⟨P0, env, r, h⟩
theorem ent_conjT {Q : Bool → Hp → Prop} (h : tT Ph K W (.conj es) σ H Q) : tAndB Ph K W es σ H Q := by
  obtain ⟨P0, env, r, h⟩ := h
  unfold ev at h
  exact ⟨P0, env, r, h⟩
theorem ent_disjT {Q : Bool → Hp → Prop} (h : tT Ph K W (.disj es) σ H Q) : tOrB Ph K W es σ H Q := by
  obtain ⟨P0, env, r, h⟩ := h
  unfold ev at h
  exact ⟨P0, env, r, h⟩
theorem ent_and1 (h : tAndE Ph K W (.cons a .nil) σ H Q) : tE Ph K W a σ H Q := by
  obtain ⟨P0, env, r, h⟩ := h
  unfold evAnd at h
  refine tE_of r (post_bind.mp h) fun d env1 q v H1 a1 ra => ?_
  cases d with
  | bool k => cases k with
    | true => exact q v H1 a1 ra
    | false => exact q v H1 a1 ra
  | _ => exact q.elim
theorem ent_or1 (h : tOrE Ph K W (.cons a .nil) σ H Q) : tE Ph K W a σ H Q := by
  obtain ⟨P0, env, r, h⟩ := h
  unfold evOr at h
  refine tE_of r (post_bind.mp h) fun d env1 q v H1 a1 ra => ?_
  cases d with
  | bool k => cases k with
    | true => exact q v H1 a1 ra
    | false => exact q v H1 a1 ra
  | _ => exact q.elim
theorem ent_and2 (h : tAndE Ph K W (.cons a (.cons b es)) σ H Q) : tAndV (tE Ph K W a) (tAndE Ph K W (.cons b es)) σ H Q := by
  obtain ⟨P0, env, r, h⟩ := h
  unfold evAnd at h
  refine tE_of r (post_bind.mp h) fun d env1 q v H1 a1 ra => ?_
  cases d with
  | bool k => cases k with
    | true =>
      cases ra
      refine ⟨true, rfl, ?_⟩
      rw [if_pos rfl]
      exact ⟨P0, env1, a1.re, Post.imp q (fun p z w H2 a2 rw' => z w H2 (a1.trans a2) rw') fun _ _ z => z.after a1⟩
    | false =>
      cases ra
      refine ⟨false, rfl, ?_⟩
      rw [if_neg Bool.false_ne_true]
      exact q _ H1 a1 (.bl _)
  | _ => exact q.elim
theorem ent_or2 (h : tOrE Ph K W (.cons a (.cons b es)) σ H Q) : tOrV (tE Ph K W a) (tOrE Ph K W (.cons b es)) σ H Q := by
  obtain ⟨P0, env, r, h⟩ := h
  unfold evOr at h
  refine tE_of r (post_bind.mp h) fun d env1 q v H1 a1 ra => ?_
  cases d with
  | bool k => cases k with
    | false =>
      cases ra
      refine ⟨false, rfl, ?_⟩
      rw [if_neg Bool.false_ne_true]
      exact ⟨P0, env1, a1.re, Post.imp q (fun p z w H2 a2 rw' => z w H2 (a1.trans a2) rw') fun _ _ z => z.after a1⟩
    | true =>
      cases ra
      refine ⟨true, rfl, ?_⟩
      rw [if_pos rfl]
      exact q _ H1 a1 (.bl _)
  | _ => exact q.elim
theorem ent_and1T {Q : Bool → Hp → Prop} (h : tAndB Ph K W (.cons a .nil) σ H Q) : tT Ph K W a σ H Q := by
  obtain ⟨P0, env, r, h⟩ := h
  unfold evAnd at h
  refine tT_of r (post_bind.mp h) fun d env1 q => ?_
  cases d with
  | bool k =>
    refine ⟨k, rfl, fun H1 a1 => ?_⟩
    cases k with
    | true =>
      obtain ⟨b, e, q⟩ := q
      cases e
      exact q H1 a1
    | false =>
      obtain ⟨b, e, q⟩ := q
      cases e
      exact q H1 a1
  | _ => exact q.elim
theorem ent_or1T {Q : Bool → Hp → Prop} (h : tOrB Ph K W (.cons a .nil) σ H Q) : tT Ph K W a σ H Q := by
  obtain ⟨P0, env, r, h⟩ := h
  unfold evOr at h
  refine tT_of r (post_bind.mp h) fun d env1 q => ?_
  cases d with
  | bool k =>
    refine ⟨k, rfl, fun H1 a1 => ?_⟩
    cases k with
    | true =>
      obtain ⟨b, e, q⟩ := q
      cases e
      exact q H1 a1
    | false =>
      obtain ⟨b, e, q⟩ := q
      cases e
      exact q H1 a1
  | _ => exact q.elim
theorem ent_and2T {Q : Bool → Hp → Prop} (h : tAndB Ph K W (.cons a (.cons b es)) σ H Q) : tAnd (tT Ph K W a) (tAndB Ph K W (.cons b es)) σ H Q := by
  obtain ⟨P0, env, r, h⟩ := h
  unfold evAnd at h
  refine tT_of r (post_bind.mp h) fun d env1 q => ?_
  cases d with
  | bool k =>
    refine ⟨k, rfl, fun H1 a1 => ?_⟩
    cases k with
    | true =>
      rw [if_pos rfl]
      refine ⟨P0, env1, a1.re, Post.imp q (fun p z => ?_) fun _ _ z => z.after a1⟩
      obtain ⟨b, e, z⟩ := z
      exact ⟨b, e, fun H2 a2 => z H2 (a1.trans a2)⟩
    | false =>
      rw [if_neg Bool.false_ne_true]
      obtain ⟨b, e, q⟩ := q
      cases e
      exact q H1 a1
  | _ => exact q.elim
theorem ent_or2T {Q : Bool → Hp → Prop} (h : tOrB Ph K W (.cons a (.cons b es)) σ H Q) : tOr (tT Ph K W a) (tOrB Ph K W (.cons b es)) σ H Q := by
  obtain ⟨P0, env, r, h⟩ := h
  unfold evOr at h
  refine tT_of r (post_bind.mp h) fun d env1 q => ?_
  cases d with
  | bool k =>
    refine ⟨k, rfl, fun H1 a1 => ?_⟩
    cases k with
    | false =>
      rw [if_neg Bool.false_ne_true]
      refine ⟨P0, env1, a1.re, Post.imp q (fun p z => ?_) fun _ _ z => z.after a1⟩
      obtain ⟨b, e, z⟩ := z
      exact ⟨b, e, fun H2 a2 => z H2 (a1.trans a2)⟩
    | true =>
      rw [if_pos rfl]
      obtain ⟨b, e, q⟩ := q
      cases e
      exact q H1 a1
  | _ => exact q.elim
/-- a test from a value -/
theorem ent_testE {Q : Bool → Hp → Prop} (h : tT Ph K W a σ H Q) : tB (tE Ph K W a) σ H Q := by
  obtain ⟨P0, env, r, h⟩ := h
  refine tE_of r h fun d env1 q v H1 a1 ra => ?_
  obtain ⟨b, e, q⟩ := q
  subst e
  cases ra
  exact ⟨b, rfl, q H1 a1⟩
theorem RW.isNone {P : Pa} {v : V} {d : D} (r : RW K H P v d) : decide (v = .non) = isNoneD d := by
  cases r with
  | val q => cases q <;> rfl
  | own q => cases q <;> rfl
theorem ent_isN (h : tE Ph K W (.cmp .isN a b) σ H Q) : tIsN (tO Ph K W a) σ H Q := by
  obtain ⟨P0, env, r, h⟩ := h
  unfold ev at h
  refine tO_of r (post_bind.mp h) fun oa env1 q x H1 a1 ra => ?_
  obtain ⟨dx, ex, q⟩ := post_opt.mp (post_bind.mp q)
  rw [(a1.re.deref ex ra).isNone]
  exact q _ H1 a1 (.bl _)
theorem ent_notN (h : tE Ph K W (.cmp .notN a b) σ H Q) : tNotN (tO Ph K W a) σ H Q := by
  obtain ⟨P0, env, r, h⟩ := h
  unfold ev at h
  refine tO_of r (post_bind.mp h) fun oa env1 q x H1 a1 ra => ?_
  obtain ⟨dx, ex, q⟩ := post_opt.mp (post_bind.mp q)
  rw [(a1.re.deref ex ra).isNone]
  exact q _ H1 a1 (.bl _)
theorem ent_cmp2 {o p : Cop} (h : tE Ph K W (.cmp2 o p a b c) σ H Q) : tChain (rCmp K o) (rCmp K p) (tE Ph K W a) (tE Ph K W b) (tE Ph K W c) σ H Q := by
  obtain ⟨P0, env, r, h⟩ := h
  unfold ev at h
  refine tE_of r (post_bind.mp h) fun oa env1 q x H1 a1 ra => ?_
  refine tE_of a1.re ((post_bind.mp q).imp (fun _ z => z) fun _ _ z => z.after a1) fun ob env2 q y H2 a2 rb => ?_
  have a12 := a1.trans a2
  obtain ⟨k, ek, q⟩ := post_opt.mp (post_bind.mp q)
  refine ⟨Stb P0 env2 σ, oa, ob, k, .val (a2.rp a1.re ra), .val rb, ek, k, rfl, ?_⟩
  cases k with
  | false =>
    rw [if_neg Bool.false_ne_true]
    exact q _ H2 a12 (.bl _)
  | true =>
    rw [if_pos rfl]
    refine tE_of a2.re ((post_bind.mp q).imp (fun _ z => z) fun _ _ z => z.after a12) fun oc env3 q z H3 a3 rc => ?_
    obtain ⟨k, ek, q⟩ := post_opt.mp (post_bind.mp q)
    exact ⟨Stb P0 env3 σ, ob, oc, k, .val (a3.rp a2.re rb), .val rc, ek, q _ H3 (a12.trans a3) (.bl _)⟩
def tOpt (Ph : CallF) (K : PySem.W.Frag) (W : WZ) (e : Exo) : TO := fun σ H Q => ∃ (P0 : Pa) (env : Fram), RE K P0 env σ H ∧
  Post (evo Ph e env) (fun p => ∀ H', Aft K P0 env σ H p.2 H' → Q p.1 H') (XP K W P0 env σ H)
theorem tOpt_of {P0 : Pa} {env : Fram} (r : RE K P0 env σ H) {e : Exo} {R : Option Int → Hp → Prop} {k : Option Int × Fram → Prop} (h : Post (evo Ph e env) k (XP K W P0 env σ H))
    (hk : ∀ d env1, k (d, env1) → ∀ H1, Aft K P0 env σ H env1 H1 → R d H1) : tOpt Ph K W e σ H R :=
  ⟨P0, env, r, h.imp (fun p q => fun H1 a => hk p.1 p.2 q H1 a) fun _ _ x => x⟩
theorem ent_onon {Q : Option Int → Hp → Prop} (h : tOpt Ph K W .non σ H Q) : tNoPart σ H Q := by
  obtain ⟨P0, env, r, h⟩ := h
  exact h H (Aft.refl r)
theorem ent_osom {Q : Option Int → Hp → Prop} (h : tOpt Ph K W (.som a) σ H Q) : tPart (tE Ph K W a) σ H Q := by
  obtain ⟨P0, env, r, h⟩ := h
  unfold evo at h
  refine tE_of r (post_bind.mp h) fun d env1 q v H1 a1 ra => ?_
  cases d with
  | int j =>
    cases ra
    exact ⟨j, rfl, q H1 a1⟩
  | _ => exact q.elim
theorem ent_slice {lo hi : Exo} (h : tG Ph K W (.slice a lo hi) σ H Q) : tSl (rSli K) (tO Ph K W a) (tOpt Ph K W lo) (tOpt Ph K W hi) σ H Q := by
  obtain ⟨P0, env, r, h⟩ := h
  unfold ev at h
  refine tO_of r (post_bind.mp h) fun oa env1 q x H1 a1 ra => ?_
  refine tOpt_of a1.re ((post_bind.mp q).imp (fun _ z => z) fun _ _ z => z.after a1) fun l env2 q H2 a2 => ?_
  refine tOpt_of a2.re ((post_bind.mp q).imp (fun _ z => z) fun _ _ z => z.after (a1.trans a2)) fun u env3 q H3 a3 => ?_
  have a13 := (a1.trans a2).trans a3
  obtain ⟨dx, ex, q⟩ := post_opt.mp (post_bind.mp q)
  obtain ⟨dz, ez, q⟩ := post_opt.mp (post_bind.mp q)
  exact ⟨Stb P0 env3 σ, dx, dz, fun p n => a3.re.stbNew n, a3.re.deref ex (a3.rop a2.re (a2.rop a1.re ra)), ez, fun v H4 o f => q v H4 (a13.out o) o.rp (Frs.out r a13 (nd_of (sliceF_nd ez)) f)⟩
theorem ent_rev (h : tG Ph K W (.rev a) σ H Q) : tRevA K (tO Ph K W a) σ H Q := by
  obtain ⟨P0, env, r, h⟩ := h
  unfold ev at h
  refine tO_of r (post_bind.mp h) fun oa env1 q x H1 a1 ra => ?_
  obtain ⟨dx, ex, q⟩ := post_opt.mp (post_bind.mp q)
  have rx := a1.re.deref ex ra
  cases dx with
  | list ds =>
    obtain ⟨l, xs, rfl, hl, rs⟩ := rx.list
    refine ⟨l, xs, rfl, .inl ⟨hl, fun p n => ?_⟩⟩
    have o := out_lst (P := Stb P0 env1 σ) (fun p n => a1.re.stbNew n) n rs.reverse
    exact q _ _ (a1.out o) o.rp (Frs.out r a1 (fun kvs z => by cases z) (fresh_lst n rs.reverse))
  | tuple ds =>
    obtain ⟨l, xs, rfl, hl, rs⟩ := rx.tuple
    refine ⟨l, xs, rfl, .inr ⟨hl, fun p n => ?_⟩⟩
    have o := out_tup (P := Stb P0 env1 σ) n rs.reverse
    exact q _ _ (a1.out o) o.rp (Frs.out r a1 (fun kvs z => by cases z) (fun _ e => by cases e))
  | _ => exact q.elim
theorem ent_isi {t : Ty} (h : tE Ph K W (.isi a t) σ H Q) : tO Ph K W a σ H fun x H1 => ∃ (P : Pa) (d : D), RW K H1 P x d ∧ Q (.bl (isF t d)) H1 := by
  obtain ⟨P0, env, r, h⟩ := h
  unfold ev at h
  refine tO_of r (post_bind.mp h) fun oa env1 q x H1 a1 ra => ?_
  obtain ⟨dx, ex, q⟩ := post_opt.mp (post_bind.mp q)
  exact ⟨Stb P0 env1 σ, dx, a1.re.deref ex ra, q _ H1 a1 (.bl _)⟩
end
end PV
set_option Elab.async false
set_option linter.all false
set_option maxRecDepth 100000
set_option maxHeartbeats 2000000
/-! PV, part G: calls of defs. -/
namespace PV
open PySem PySem.Spec PyProof.Rows L2
variable [Wd]
section
variable {K : PySem.W.Frag} {H H' : Hp} {P0 : Pa} {env : Fram} {σ : L2.St}
/-- the own list of slot i has been changed, all else stands -/
theorem RE.change2 (r : RE K P0 env σ H) {i : Nat} {d d' : D} {a : Addr} (hi : env[i]? = some (.own d)) (hs : σ[i]? = some (some (.ref a))) (k : ∀ b o, b ≠ a → H b = some o → H' b = some o) (tr : ∀ b, H' b = none → H b = none)
    (q : ROwn K H' (Stb P0 env σ) a d') : Aft K P0 env σ H (env.set i (.own d')) H' := by
  have hl : i < env.length := (List.getElem?_eq_some_iff.mp hi).1
  have own : ∀ b, OwnA (env.set i (.own d')) σ b ↔ OwnA env σ b := fun b => by
    constructor
    · rintro ⟨j, e, h1, h2⟩
      by_cases hj : i = j
      · subst hj
        exact ⟨i, d, hi, h2⟩
      · rw [List.getElem?_set_ne hj] at h1
        exact ⟨j, e, h1, h2⟩
    · rintro ⟨j, e, h1, h2⟩
      by_cases hj : i = j
      · subst hj
        exact ⟨i, _, List.getElem?_set_self hl, h2⟩
      · exact ⟨j, e, by rw [List.getElem?_set_ne hj]; exact h1, h2⟩
  have m : ∀ b, Stb P0 env σ b → Stb P0 (env.set i (.own d')) σ b := fun b z => ⟨z.1, fun w => z.2 ((own b).mp w)⟩
  have ko : KeepO env σ H H' := fun b o e n => k b o (by
    rintro rfl
    exact n ⟨i, d, hi, hs⟩) e
  have kp := ko.keep r
  refine ⟨⟨by simp [r.len], fun j e h => ?_, fun j e h => ?_, fun j k e f b h1 h2 h3 h4 => ?_, fun b h => r.new b (tr b h), fun j e b h0 h1 h2 => ?_⟩, ko, fun b => (own b).mp, tr⟩
  · by_cases hj : i = j
    · subst hj
      rw [List.getElem?_set_self hl] at h
      cases h
    · rw [List.getElem?_set_ne hj] at h
      obtain ⟨w, h1, h2⟩ := r.val j e h
      exact ⟨w, h1, h2.keep kp m⟩
  · by_cases hj : i = j
    · subst hj
      rw [List.getElem?_set_self hl] at h
      cases h
      exact ⟨a, hs, q.mono m⟩
    · rw [List.getElem?_set_ne hj] at h
      obtain ⟨b, h1, h2⟩ := r.own j e h
      have hb : b ≠ a := by
        rintro rfl
        exact hj (r.inj i j d e b hi h hs h1)
      exact ⟨b, h1, h2.keep (fun xs z _ => k b _ hb z) kp m⟩
  · have old : ∀ {j : Nat} {e : D}, (env.set i (.own d'))[j]? = some (.own e) → ∃ e', env[j]? = some (.own e') := fun {j e} h => by
      by_cases hj : i = j
      · subst hj
        exact ⟨d, hi⟩
      · rw [List.getElem?_set_ne hj] at h
        exact ⟨e, h⟩
    obtain ⟨e', q1⟩ := old h1
    obtain ⟨f', q2⟩ := old h2
    exact r.inj j k e' f' b q1 q2 h3 h4
  · by_cases hj : i = j
    · subst hj
      exact r.pos i d b h0 hi h2
    · rw [List.getElem?_set_ne hj] at h1
      exact r.pos j e b h0 h1 h2
end
/-! ### promises -/
/-- the arguments: values; or the first one a list that the def may change -/
inductive ArgOk (K : PySem.W.Frag) (H : Hp) (P : Pa) : Bool → List V → List D → Prop
  | val {vs : List V} {ds : List D} : RPs K H P vs ds → ArgOk K H P false vs ds
  | own {a : Addr} {vs : List V} {d : D} {ds : List D} : ¬ P a → ROwn K H P a d → RPs K H P vs ds → ArgOk K H P true (.ref a :: vs) (d :: ds)
/-- what a call hands back: its value, a new list where it is told so, the first argument as it stands -/
structure RetOk (K : PySem.W.Frag) (P : Pa) (br fresh : Bool) (vs : List V) (H : Hp) (v : V) (H' : Hp) (p : D × D) : Prop where
  keep : ∀ a o, H a = some o → (br = true → vs.head? ≠ some (.ref a)) → H' a = some o
  tr : ∀ a, H' a = none → H a = none
  val : fresh = false → RP K H' P v p.1
  new : fresh = true → ∃ b, v = .ref b ∧ H b = none ∧ ROwn K H' (fun a => P a ∧ a ≠ b) b p.1
  own : br = true → ∀ a, vs.head? = some (.ref a) → ROwn K H' P a p.2
/-- a def's promise: it does what the evaluator says -/
def spF (Ph : CallF) (K : PySem.W.Frag) (fn : Def) : Sp := fun vs H Q _ => ∃ (P : Pa) (ds : List D), vs.length = fn.params ∧ (∀ b, H b = none → P b) ∧ ArgOk K H P fn.br vs ds ∧
  Post (Ph fn.name ds) (fun p => ∀ v H', RetOk K P fn.br fn.fresh vs H v H' p → Q v H') fun _ _ => False
structure FnG (P : Program) (w : World) (K : PySem.W.Frag) (mg : Str → Option Value) (base : Heap) (k : Nat) (f : Addr) (fd : FuncData) (ps : List Str) (sp : Sp) : Prop where
  len : ∀ vs H Q E, sp vs H Q E → vs.length = ps.length
  run : ∀ (A : Around) (outer : List PySem.Env) (s : Shared) (H : Hp) (args : Args) (us : List Value) (vs : List V) (Q : VK) (E : XK), Room k A → A.guards = some [] → Env0 P w K mg base A outer s H →
    BindsTo s fd args (ps.zip us) → Vals vs us → sp vs H Q E → codeAny (model P w) A (.call (.ref f) args) (CR CX0 outer P w H s Q E) s
section
variable {X : Cx} {k : Nat} {f : Addr} {fd : FuncData} {ps : List Str} {sp : Sp} {E : XK} {x : Str} {p pos : Pos} {e : Expr} {es : List Expr} {t : TA}
theorem runG {pins : List (Addr × Obj)} {σ : L2.St} {H : Hp} {s : Shared} {Q : VK} {us : List Value} {vs : List V} (F : FnG X.prog X.w X.K X.mg X.base k f fd ps sp) (hr : Room k X.A) (hg : X.A.guards = some []) (hb : Binds X.K fd ps [])
    (I : Inv X pins σ H s) (r : Vals vs us) (h : sp vs H Q E) : wpAny (model X.prog X.w) X.A (call (.ref f) us) (EP X pins σ Q) X.xe s := by
  have hl : (us ++ []).length = ps.length := by
    rw [List.append_nil, ← r.length]
    exact F.len _ _ _ _ h
  have b := hb s us I.kIn hl
  rw [List.append_nil] at b
  refine wpAny_call (codeAny_mono (F.run X.A X.stack s H ⟨us, []⟩ us vs Q E hr hg I.env0 b r h) fun r s' hq => ?_)
  cases r with
  | error e => exact False.elim hq
  | ok fl => cases fl with
    | ret u => exact I.after hq
    | _ => exact False.elim hq
theorem pe_callG (F : FnG X.prog X.w X.K X.mg X.base k f fd ps sp) (hr : Room k X.A) (hgd : X.A.guards = some []) (hg : Gl X x) (hm : X.mg x = some (.ref f)) (hk : PySem.W.keepIn X.K (.ref f) = true) (hb : Binds X.K fd ps [])
    (ha : PA X (e :: es) t) (hdb : (x == ("__debug__" : Str)) = false) (he : starEach (e :: es) X.env = (false, eval e X.env) :: starEach es X.env) (hpl : (backTo pos (starEach es X.env)).any (·.1) = false) :
    PE X (.Call (.Name x p) (e :: es) [] pos) (tCall sp [] E t) := by
  refine ⟨fun pins s σ H Q I h => wpAny_Call_Name_kw (ld_glob I hg hm ?_ hdb)⟩
  refine PySem.W.callWith_K (h₀ := X.base) I.ok.mod.kin hk (thn (ha.run pos pins s σ H _ I h) fun us s1 ⟨vs, H1, I1, r, q⟩ => ⟨I1.kIn, ?_⟩) he hpl
  have q2 : sp (vs ++ []) H1 Q E := q
  rw [List.append_nil] at q2
  exact runG F hr hgd hb I1 r q2
end
/-- a def's body keeps its promise -/
theorem fnG_of {P : Program} {w : World} {K : PySem.W.Frag} {mg : Str → Option Value} {base : Heap} {k : Nat} {f : Addr} {name qual : Str} {params : Arguments} {body : List Stmt} {scope : Scope} {dV kV doc pm cdv ct oc : Value} {an od : Option Addr}
    {osl : Array (Option Value)} {N ps : List Str} {sp : Sp} (lk : K.lookup f = some ⟨oc, od, .func (PySem.W.fnOf name qual params body scope dV kV doc pm an cdv ct), osl⟩) (hcd : PySem.W.codeIn K cdv qual = true) (S : FnScope N ps scope)
    (len : ∀ vs H Q E, sp vs H Q E → vs.length = ps.length)
    (hbody : ∀ (A : Around) (outer : List PySem.Env) (s : Shared) (H : Hp) (vs : List V) (Q : VK) (E : XK), Room k (A.deeper (envOfC qual scope s.heap.objs.size f cdv)) → (A.deeper (envOfC qual scope s.heap.objs.size f cdv)).guards = some [] → sp vs H Q E →
      ∃ t, PSs (cxOf CX0 P w K mg base N qual scope f cdv A outer s H E) body t ∧ t { nx := fun _ H' => Q .non H', rt := Q } (start N vs) H) :
    FnG P w K mg base (k + 1) f (PySem.W.fnOf name qual params body scope dV kV doc pm an cdv ct) ps sp := by
  constructor
  · exact len
  intro A outer s H args us vs Q E room guards e0 bnd vals wish
  have count := len _ _ _ _ wish
  have inK : K.In s.heap := e0.mod.kin.keeps (fun b o z => (e0.bs b o z).1)
  have free : s.heap.NoLimit := e0.mod.nolimit.keeps (fun b o z => (e0.bs b o z).1)
  have kinds : ∀ y ∈ ps.zip us, scope.names.lookup y.1 = some .local ∨ (scope.names.lookup y.1 = some .cell ∧ ((cellsFrom (s.heap.objs.size + 1) scope.names []).lookup y.1).isSome = true) := by
    rintro ⟨n, v⟩ hy
    have hn := S.par n (List.of_mem_zip hy).1
    exact hn.imp_right fun q => ⟨q, PySem.W.cellsFrom_some _ _ _ (.inl q)⟩
  refine codeAny_call_function room.depth (inK _ _ lk) rfl S.co S.gen rfl (PySem.W.codeRec_of inK hcd) (bnd _ _ _ _ ?_)
  refine wpAny_newFunctionEnv_cells S.kind kinds (fun env ee s1 made => ?_)
  subst ee
  refine ⟨free.keeps made.toInCall.keep, codeAny_func ?_⟩
  obtain ⟨t, body_ok, holds⟩ := hbody A outer s H vs Q E (room.deeper _) guards wish
  have I0 : Inv (cxOf CX0 P w K mg base N qual scope f cdv A outer s H E) [] (start N vs) H s1 := inv_start S room.hd e0 count vals made
  refine wpAny_mono (body_ok.run [] s1 (start N vs) H _ I0 holds) (fun fl s' done => ?_) (fun e s' z => z)
  cases fl with
  | ret u =>
    obtain ⟨v, σ', H', J, rv, q⟩ := done
    exact ⟨v, H', J.os, J.bare, J.base, J.hok, rv, q⟩
  | next =>
    obtain ⟨σ', H', J, q⟩ := done
    exact ⟨V.non, H', J.os, J.bare, J.base, J.hok, rfl, q⟩
  | brk =>
    obtain ⟨_, _, _, q⟩ := done
    exact q.elim
  | cont =>
    obtain ⟨_, _, _, q⟩ := done
    exact q.elim
/-! ### what a call asks -/
section
variable {K : PySem.W.Frag} {W : WZ} {Ph : CallF} {σ : L2.St} {H : Hp} {Q : VK} {es : Exs} {E : XK}
theorem RWs.loose {P : Pa} {H : Hp} {P' : Pa} (h1 : ∀ a, P a → P' a) (h2 : ∀ a o, H a = some o → tupO o = false → P' a) : ∀ {vs : List V} {ds : List D}, RWs K H P vs ds → RPs K H P' vs ds
  | _, _, .nil => .nil
  | _, _, .cons (.val q) r => .cons (q.mono h1) (RWs.loose h1 h2 r)
  | _, _, .cons (.own (.lst h q)) r => .cons (.lst (h2 _ _ h rfl) (.inl h) (q.mono h1)) (RWs.loose h1 h2 r)
  | _, _, .cons (.own (.dct h q)) r => .cons (.dct (h2 _ _ h rfl) (.inl h) (q.mono h1)) (RWs.loose h1 h2 r)
theorem ROps.vals {P : Pa} {H : Hp} {env : Fram} : ∀ {vs : List V} {os : List Opd} {ds : List D}, anySlot os = false → derefs env os = some ds → ROps K H P σ vs os → RPs K H P vs ds
  | _, [], ds, _, h, .nil => by
    cases h
    exact .nil
  | _, .val d :: os, ds, n, h, .cons q r => by
    unfold derefs at h
    have h' : ((derefs env os).map (d :: ·)) = some ds := h
    obtain ⟨es, e1, rfl⟩ := Option.map_eq_some_iff.mp h'
    exact .cons q (ROps.vals (show anySlot os = false from n) e1 r)
  | _, .slot i :: os, ds, n, h, .cons q r => by cases n
theorem tCall_nil {sp : Sp} {t : TA} (h : t σ H fun vs H1 => sp vs H1 Q E) : tCall sp [] E t σ H Q := by
  unfold tCall
  have e : (fun vs H1 => sp (vs ++ []) H1 Q E) = fun vs H1 => sp vs H1 Q E := by
    funext vs H1
    rw [List.append_nil]
  rw [e]
  exact h
theorem evp_len : ∀ {es : Exs} {env : Fram} {p : List Opd × Fram}, evp Ph es env = .ok p → p.1.length = exsLen es
  | .nil, env, p, h => by
    unfold evp at h
    cases h
    rfl
  | .cons e es, env, p, h => by
    unfold evp at h
    cases h1 : opd e env (ev Ph e env) with
    | ok q =>
      rw [h1] at h
      cases h2 : evp Ph es q.2 with
      | ok q2 =>
        simp only [bind_ok, h2] at h
        cases h
        simp [exsLen, evp_len h2]
      | exc z e => simp [h2] at h
      | bad => simp [h2] at h
    | exc z e => simp [h1] at h
    | bad => simp [h1] at h
theorem ROps.length {P : Pa} {H : Hp} : ∀ {vs : List V} {os : List Opd}, ROps K H P σ vs os → vs.length = os.length
  | _, _, .nil => rfl
  | _, _, .cons _ r => by simp [ROps.length r]
/-- behind a call that may change the def's own first list, or none -/
theorem RetOk.aft {P : Pa} {P0 : Pa} {env : Fram} {fresh : Bool} {vs : List V} {v : V} {H' : Hp} {p : D × D} (r : RE K P0 env σ H) (o : RetOk K P false fresh vs H v H' p) : Aft K P0 env σ H env H' :=
  Aft.grow r fun a u e => o.keep a u e (fun z => by cases z)
/-- what is handed to a def that changes none of its arguments -/
theorem callE_sp {fn : Def} (hW : ∀ z P e σ H, ¬ W z P e σ H) (hb : fn.br = false) (hf : fn.fresh = false) {P0 : Pa} {env env1 : Fram} {H1 : Hp} {os : List Opd} {vs : List V} (hl : vs.length = fn.params) (a1 : Aft K P0 env σ H env1 H1) (ra : ROps K H1 (Stb P0 env1 σ) σ vs os)
    (q : Post (callE Ph fn.name false os env1) (fun p => ∀ v H', Aft K P0 env σ H p.2 H' → RP K H' (Stb P0 p.2 σ) v p.1 → Q v H') (XP K W P0 env σ H)) : spF Ph K fn vs H1 Q E := by
  unfold callE at q
  obtain ⟨ds, ed, q⟩ := post_opt.mp (post_bind.mp q)
  have q : Post (match Ph fn.name ds with
    | .ok (d, _) => if (anySlot os && !flat d) = true then .bad else .ok (d, env1)
    | .exc x _ => .exc x env1
    | .bad => .bad) (fun p => ∀ v H', Aft K P0 env σ H p.2 H' → RP K H' (Stb P0 p.2 σ) v p.1 → Q v H') (XP K W P0 env σ H) := q
  have done : ∀ (P : Pa), (∀ b, H1 b = none → P b) → RPs K H1 P vs ds → (∀ (v : V) (H' : Hp) (d : D), (anySlot os = true → flat d = true) → RP K H' P v d → RP K H' (Stb P0 env1 σ) v d) → spF Ph K fn vs H1 Q E := fun P new rs back => by
    refine ⟨P, ds, hl, new, ?_, ?_⟩
    · rw [hb]
      exact .val rs
    · cases e : Ph fn.name ds with
      | ok p =>
        rw [e] at q
        obtain ⟨d, d0⟩ := p
        intro v H' o
        rw [hb, hf] at o
        have q : Post (if (anySlot os && !flat d) = true then .bad else .ok (d, env1)) _ _ := q
        split at q
        · exact q.elim
        · rename_i hc
          exact q v H' (a1.trans (o.aft a1.re)) (back v H' d (fun z => by
            rw [z, Bool.true_and] at hc
            simpa using hc) (o.val rfl))
      | exc z e' =>
        rw [e] at q
        exact (hW _ _ _ _ _ (q H1 a1)).elim
      | bad =>
        rw [e] at q
        exact q.elim
  cases hs : anySlot os with
  | false => exact done _ (fun p n => a1.re.stbNew n) (ra.vals hs ed) fun v H' d _ z => z
  | true =>
    refine done (fun a => Stb P0 env1 σ a ∨ ∃ o, H1 a = some o ∧ tupO o = false) (fun p n => .inl (a1.re.stbNew n)) ((a1.re.derefs ed ra).loose (fun _ z => .inl z) fun _ o z t => .inr ⟨o, z, t⟩) fun v H' d hd z => z.flat (hd hs)
/-- a call that changes none of its arguments -/
theorem ent_call {fn : Def} (hW : ∀ z P e σ H, ¬ W z P e σ H) (hb : fn.br = false) (hf : fn.fresh = false) (hn : exsLen es = fn.params) (h : tE Ph K W (.call fn.name false es) σ H Q) : tCall (spF Ph K fn) [] E (tOs Ph K W es) σ H Q := by
  obtain ⟨P0, env, r, h⟩ := h
  unfold ev at h
  refine tCall_nil (tOs_of r (post_ok (post_bind.mp h)) fun os env1 ⟨eo, q⟩ vs H1 a1 ra => ?_)
  have hl : vs.length = fn.params := by
    rw [ra.length, ← hn]
    exact evp_len eo
  exact callE_sp hW hb hf hl a1 ra q
/-- how a call with keywords binds -/
def KwB (K : PySem.W.Frag) (fd : FuncData) (ps : List Str) (n : Nat) (ks : List Str) (perm : List Nat) : Prop :=
  ∀ (s : Shared) (us ws : List Value), K.In s.heap → us.length = n → ws.length = ks.length → BindsTo s fd ⟨us, ks.zip ws⟩ (ps.zip (us ++ permV perm ws))
def tCallX (sp : Sp) (n m : Nat) (perm : List Nat) (E : XK) (t tk : TA) : TE := fun σ H Q => t σ H fun vs H1 => tk σ H1 fun zs H2 => vs.length = n ∧ zs.length = m ∧ sp (vs ++ permV perm zs) H2 Q E
theorem ROps.get {P : Pa} {H : Hp} : ∀ {vs : List V} {os : List Opd}, ROps K H P σ vs os → ∀ i : Nat, (vs[i]? = none ∧ os[i]? = none) ∨ ∃ v o, vs[i]? = some v ∧ os[i]? = some o ∧ ROp K H P σ v o
  | _, _, .nil, i => .inl ⟨by simp, by simp⟩
  | _, _, .cons q r, 0 => .inr ⟨_, _, rfl, rfl, q⟩
  | _, _, .cons q r, i + 1 => by
    rcases ROps.get r i with h | ⟨v, o, h1, h2, h3⟩
    · exact .inl (by simpa using h)
    · exact .inr ⟨v, o, by simpa using h1, by simpa using h2, h3⟩
theorem ROps.perm {P : Pa} {H : Hp} {vs : List V} {os : List Opd} (r : ROps K H P σ vs os) : ∀ perm : List Nat, ROps K H P σ (permV perm vs) (permV perm os)
  | [] => .nil
  | i :: is => by
    unfold permV
    rw [List.filterMap_cons, List.filterMap_cons]
    rcases r.get i with ⟨h1, h2⟩ | ⟨v, o, h1, h2, h3⟩
    · rw [h1, h2]
      exact r.perm is
    · rw [h1, h2]
      exact .cons h3 (r.perm is)
theorem ROps.append {P : Pa} {H : Hp} : ∀ {vs ws : List V} {os ps : List Opd}, ROps K H P σ vs os → ROps K H P σ ws ps → ROps K H P σ (vs ++ ws) (os ++ ps)
  | _, _, _, _, .nil, s => s
  | _, _, _, _, .cons q r, s => .cons q (r.append s)
theorem vals_get : ∀ {vs : List V} {us : List Value}, Vals vs us → ∀ i : Nat, (vs[i]? = none ∧ us[i]? = none) ∨ ∃ v u, vs[i]? = some v ∧ us[i]? = some u ∧ RelV v u
  | _, _, .nil, i => .inl ⟨by simp, by simp⟩
  | _, _, .cons q r, 0 => .inr ⟨_, _, rfl, rfl, q⟩
  | _, _, .cons q r, i + 1 => by
    rcases vals_get r i with h | ⟨v, o, h1, h2, h3⟩
    · exact .inl (by simpa using h)
    · exact .inr ⟨v, o, by simpa using h1, by simpa using h2, h3⟩
theorem vals_perm {vs : List V} {us : List Value} (r : Vals vs us) : ∀ perm : List Nat, Vals (permV perm vs) (permV perm us)
  | [] => .nil
  | i :: is => by
    unfold permV
    rw [List.filterMap_cons, List.filterMap_cons]
    rcases vals_get r i with ⟨h1, h2⟩ | ⟨v, o, h1, h2, h3⟩
    · rw [h1, h2]
      exact vals_perm r is
    · rw [h1, h2]
      exact .cons h3 (vals_perm r is)
/-- a call with keywords -/
theorem ent_callK {fn : Def} {kes : Exs} {ks : List Str} {perm : List Nat} {br : Bool} {n : Nat} (hW : ∀ z P e σ H, ¬ W z P e σ H) (hb : fn.br = false) (hf : fn.fresh = false) (hn : exsLen es = n) (hk : exsLen kes = ks.length) (hp : n + perm.length = fn.params) (hi : ∀ i ∈ perm, i < ks.length)
    (h : tE Ph K W (.callK fn.name br es kes ks perm) σ H Q) : tCallX (spF Ph K fn) n ks.length perm E (tOs Ph K W es) (tOs Ph K W kes) σ H Q := by
  obtain ⟨P0, env, r, h⟩ := h
  unfold ev at h
  refine tOs_of r (post_ok (post_bind.mp h)) fun os env1 ⟨eo, q⟩ vs H1 a1 ra => ?_
  refine tOs_of a1.re (post_ok ((post_bind.mp q).imp (fun _ z => z) fun _ _ z => z.after a1)) fun os2 env2 ⟨eo2, q⟩ zs H2 a2 rb => ?_
  have l1 : vs.length = n := by
    rw [ra.length, ← hn]
    exact evp_len eo
  have l2 : zs.length = ks.length := by
    rw [rb.length, ← hk]
    exact evp_len eo2
  have l3 : ∀ is : List Nat, (∀ i ∈ is, i < ks.length) → (permV is zs).length = is.length := fun is => by
    induction is with
    | nil => exact fun _ => rfl
    | cons i is ih =>
      intro h
      have hi : i < zs.length := by
        rw [l2]
        exact h i (by simp)
      unfold permV
      rw [List.filterMap_cons, List.getElem?_eq_getElem hi]
      have := ih fun j hj => h j (by simp [hj])
      unfold permV at this
      simp [this]
  refine ⟨l1, l2, callE_sp hW hb hf (by rw [List.length_append, l1, l3 perm hi, hp]) (a1.trans a2) ((a2.rops a1.re ra).append (rb.perm perm)) q⟩
/-- a call that hands out a new list -/
theorem ent_callF {fn : Def} (hW : ∀ z P e σ H, ¬ W z P e σ H) (hb : fn.br = false) (hf : fn.fresh = true) (hn : exsLen es = fn.params) {R : V → Hp → Prop} {P0 : Pa} {env : Fram} (r : RE K P0 env σ H) {k : D × Fram → Prop}
    (h : Post ((evs Ph es env).bind fun p => match Ph fn.name p.1 with
      | .ok (j, _) => .ok (j, p.2)
      | _ => .bad) k (XP K W P0 env σ H))
    (hk : ∀ j env1, k (j, env1) → ∀ H1 b H2, Aft K P0 env σ H env1 H1 → H1 b = none → (∀ a o, H1 a = some o → H2 a = some o) → ROwn K H2 (fun a => Stb P0 env1 σ a ∧ a ≠ b) b j → R (.ref b) H2) :
    tCall (spF Ph K fn) [] E (tEs Ph K W es) σ H R := by
  refine tCall_nil (tEs_of r (post_ok (post_bind.mp h)) fun ds env1 ⟨eo, q⟩ vs H1 a1 ra => ?_)
  have hl : vs.length = fn.params := by
    rw [ra.length, ← hn]
    exact evs_len eo
  have q : Post (match Ph fn.name ds with
      | .ok (j, _) => .ok (j, env1)
      | _ => .bad) k (XP K W P0 env σ H) := q
  refine ⟨Stb P0 env1 σ, ds, hl, fun p n => a1.re.stbNew n, ?_, ?_⟩
  · rw [hb]
    exact .val ra
  · cases e : Ph fn.name ds with
    | ok p =>
      rw [e] at q
      obtain ⟨d, d0⟩ := p
      intro v H' o
      rw [hb, hf] at o
      obtain ⟨b, rfl, n, rb⟩ := o.new rfl
      exact hk d env1 q H1 b H' a1 n (fun a u z => o.keep a u z (fun z => by cases z)) rb
    | exc z e' =>
      rw [e] at q
      exact q.elim
    | bad =>
      rw [e] at q
      exact q.elim
/-- f(g(..)): g hands out a new list, that f changes -/
theorem ent_callJ {f g : Def} (hW : ∀ z P e σ H, ¬ W z P e σ H) (hgb : g.br = false) (hgf : g.fresh = true) (hgn : exsLen es = g.params) (hfb : f.br = true) (hff : f.fresh = false) (hfn : f.params = 1)
    (h : tE Ph K W (.callJ f.name g.name es) σ H Q) : tCall (spF Ph K f) [] E (tCons (tCall (spF Ph K g) [] E (tEs Ph K W es)) tNil) σ H Q := by
  obtain ⟨P0, env, r, h⟩ := h
  unfold ev at h
  refine tCall_nil ?_
  have h2 : Post ((evs Ph es env).bind fun p => match Ph g.name p.1 with
      | .ok (j, _) => .ok (j, p.2)
      | _ => .bad) (fun p => ∃ d d0, Ph f.name [p.1] = .ok (d, d0) ∧ ∀ v H', Aft K P0 env σ H p.2 H' → RP K H' (Stb P0 p.2 σ) v d → Q v H') (XP K W P0 env σ H) := by
    refine post_bind.mpr ((post_bind.mp h).imp (fun p z => ?_) fun _ _ z => z)
    cases e : Ph g.name p.1 with
    | ok j =>
      rw [e] at z
      obtain ⟨j, j0⟩ := j
      have z : Post (match Ph f.name [j] with
        | .ok (d, _) => .ok (d, p.2)
        | _ => .bad) _ _ := z
      cases e2 : Ph f.name [j] with
      | ok d =>
        rw [e2] at z
        obtain ⟨d, d0⟩ := d
        exact ⟨d, d0, e2, z⟩
      | exc _ _ =>
        rw [e2] at z
        exact z.elim
      | bad =>
        rw [e2] at z
        exact z.elim
    | exc _ _ =>
      rw [e] at z
      exact z.elim
    | bad =>
      rw [e] at z
      exact z.elim
  refine ent_callF (E := E) hW hgb hgf hgn r h2 fun j env1 q H1 b H2 a1 n grow rb => ?_
  obtain ⟨d, d0, e, q⟩ := q
  obtain ⟨xs, there, _⟩ := rb.there
  refine ⟨fun a => Stb P0 env1 σ a ∧ a ≠ b, [j], by rw [hfn]; rfl, fun c nc => ?_, ?_, ?_⟩
  · have nc1 : H1 c = none := none_grow grow c nc
    refine ⟨a1.re.stbNew nc1, ?_⟩
    rintro rfl
    rw [there] at nc
    cases nc
  · rw [hfb]
    exact .own (fun z => z.2 rfl) rb .nil
  · rw [e]
    intro v H3 o
    rw [hfb, hff] at o
    have g3 : ∀ a u, H1 a = some u → H3 a = some u := fun a u z => o.keep a u (grow a u z) fun _ w => by
      cases w
      rw [n] at z
      cases z
    exact q v H3 (a1.trans (Aft.grow a1.re g3)) ((o.val rfl).mono fun _ z => z.1)
/-- f(jar, ..): the def's own first list is changed -/
theorem ent_callB {fn : Def} (hW : ∀ z P e σ H, ¬ W z P e σ H) (hb : fn.br = true) (hf : fn.fresh = false) (hn : exsLen es = fn.params) (h : tE Ph K W (.call fn.name true es) σ H Q) : tCall (spF Ph K fn) [] E (tOs Ph K W es) σ H Q := by
  obtain ⟨P0, env, r, h⟩ := h
  unfold ev at h
  refine tCall_nil (tOs_of r (post_ok (post_bind.mp h)) fun os env1 ⟨eo, q⟩ vs H1 a1 ra => ?_)
  have hl : vs.length = fn.params := by
    rw [ra.length, ← hn]
    exact evp_len eo
  unfold callE at q
  obtain ⟨ds, ed, q⟩ := post_opt.mp (post_bind.mp q)
  cases os with
  | nil => exact q.elim
  | cons o0 orr =>
    obtain ⟨v0, vr, rfl, r0, rr⟩ : ∃ v0 vr, vs = v0 :: vr ∧ ROp K H1 (Stb P0 env1 σ) σ v0 o0 ∧ ROps K H1 (Stb P0 env1 σ) σ vr orr := by
      cases ra with
      | cons r0 rr => exact ⟨_, _, rfl, r0, rr⟩
    cases o0 with
    | val d => exact q.elim
    | slot i =>
      have q2 : Post (if (decide (i = 0) && isOwn env1 0 && !anySlot orr) = true then (match Ph fn.name ds with
          | .ok (d, d0) => .ok (d, env1.set 0 (.own d0))
          | _ => .bad) else .bad) (fun p => ∀ v H', Aft K P0 env σ H p.2 H' → RP K H' (Stb P0 p.2 σ) v p.1 → Q v H') (XP K W P0 env σ H) := q
      by_cases hc : (decide (i = 0) && isOwn env1 0 && !anySlot orr) = true
      · rw [if_pos hc] at q2
        simp only [Bool.and_eq_true, decide_eq_true_eq, Bool.not_eq_true'] at hc
        obtain ⟨⟨rfl, ho⟩, hr⟩ := hc
        have rs : σ[0]? = some (some v0) := r0
        obtain ⟨d1, e1⟩ : ∃ d, env1[0]? = some (.own d) := by
          unfold isOwn at ho
          split at ho
          · rename_i d e
            exact ⟨d, e⟩
          · cases ho
        obtain ⟨a0, e2, ro⟩ := a1.re.own 0 d1 e1
        rw [rs] at e2
        cases e2
        -- the operands
        unfold derefs at ed
        have el : deref env1 (.slot 0) = some d1 := by
          show look env1 0 = some d1
          unfold look
          rw [e1]
        rw [el] at ed
        have ed' : ((derefs env1 orr).map (d1 :: ·)) = some ds := ed
        obtain ⟨dr, e3, rfl⟩ := Option.map_eq_some_iff.mp ed'
        have rest := rr.vals hr e3
        have na : ¬ Stb P0 env1 σ a0 := fun z => z.2 ⟨0, d1, e1, rs⟩
        refine ⟨Stb P0 env1 σ, d1 :: dr, hl, fun p n => a1.re.stbNew n, ?_, ?_⟩
        · rw [hb]
          exact .own na ro rest
        · cases e : Ph fn.name (d1 :: dr) with
          | ok p =>
            rw [e] at q2
            obtain ⟨d, d0⟩ := p
            intro v H' o
            rw [hb, hf] at o
            have q : ∀ v H', Aft K P0 env σ H (env1.set 0 (.own d0)) H' → RP K H' (Stb P0 (env1.set 0 (.own d0)) σ) v d → Q v H' := q2
            have a2 := a1.re.change2 (d' := d0) e1 rs (fun b u hb' z => o.keep b u z fun _ w => hb' (by
              cases w
              rfl)) o.tr (o.own rfl a0 rfl)
            exact q v H' (a1.trans a2) ((o.val rfl).mono a2.stb)
          | exc z e' =>
            rw [e] at q2
            exact q2.elim
          | bad =>
            rw [e] at q2
            exact q2.elim
      · rw [if_neg hc] at q2
        exact q2.elim
end
end PV
set_option Elab.async false
set_option linter.all false
set_option maxRecDepth 100000
set_option maxHeartbeats 2000000
/-! PV, part H: targets, what is walked, comprehensions. -/
namespace PV
open PySem PySem.Spec PyProof.Rows L2
variable [Wd]
mutual
def tgSlots : Tg → List Nat
  | .name i => [i]
  | .tup ts => tgsSlots ts
def tgsSlots : List Tg → List Nat
  | [] => []
  | t :: ts => tgSlots t ++ tgsSlots ts
end
/-- a store of values: the frame behind it -/
structure Sto (K : PySem.W.Frag) (P0 : Pa) (env : Fram) (σ : L2.St) (H : Hp) (is : List Nat) (env' : Fram) (σ' : L2.St) : Prop where
  re : RE K P0 env' σ' H
  own : ∀ a, OwnA env' σ' a ↔ OwnA env σ a
  same : ∀ i, i ∉ is → σ'[i]? = σ[i]?
  len : σ'.length = σ.length
section
variable {K : PySem.W.Frag} {H H' : Hp} {P0 P : Pa} {env env1 env2 : Fram} {σ σ1 σ2 : L2.St} {is js : List Nat}
theorem Sto.refl (r : RE K P0 env σ H) : Sto K P0 env σ H [] env σ := ⟨r, fun _ => Iff.rfl, fun _ _ => rfl, rfl⟩
theorem Sto.trans (a : Sto K P0 env σ H is env1 σ1) (b : Sto K P0 env1 σ1 H js env2 σ2) : Sto K P0 env σ H (is ++ js) env2 σ2 :=
  ⟨b.re, fun c => (b.own c).trans (a.own c), fun i h => (b.same i fun z => h (List.mem_append_right _ z)).trans (a.same i fun z => h (List.mem_append_left _ z)), b.len.trans a.len⟩
theorem Sto.stb (a : Sto K P0 env σ H is env1 σ1) : ∀ c, Stb P0 env σ c → Stb P0 env1 σ1 c := fun c h => ⟨h.1, fun w => h.2 ((a.own c).mp w)⟩
theorem isOwn_iff {env : Fram} {i : Nat} : isOwn env i = true ↔ ∃ d, env[i]? = some (.own d) := by
  unfold isOwn
  constructor
  · intro h
    split at h
    · rename_i d e
      exact ⟨d, e⟩
    · cases h
  · rintro ⟨d, e⟩
    rw [e]
theorem Sto.name (r : RE K P0 env σ H) {i : Nat} {v : V} {d : D} (hi : i < env.length) (ho : isOwn env i = false) (q : RP K H (Stb P0 env σ) v d) : Sto K P0 env σ H [i] (env.set i (.val d)) (σ.set i (some v)) := by
  refine ⟨r.setVal q, fun a => ⟨fun w => w.val, ?_⟩, fun j h => ?_, by simp⟩
  · rintro ⟨j, e, h1, h2⟩
    have hj : i ≠ j := by
      rintro rfl
      rw [isOwn_iff.mpr ⟨e, h1⟩] at ho
      cases ho
    exact ⟨j, e, by rw [List.getElem?_set_ne hj]; exact h1, by rw [List.getElem?_set_ne hj]; exact h2⟩
  · exact List.getElem?_set_ne fun z => h (by simp [z])
end
def tTg (K : PySem.W.Frag) (tg : Tg) : TG := fun v σ H Q => ∃ (P0 : Pa) (env : Fram) (d : D) (env1 : Fram), RE K P0 env σ H ∧ RP K H (Stb P0 env σ) v d ∧ store tg d env = some env1 ∧
  ∀ σ', Sto K P0 env σ H (tgSlots tg) env1 σ' → Q σ' H
def tTgs (K : PySem.W.Frag) (ts : List Tg) : TGs := fun vs σ H Q => ∃ (P0 : Pa) (env : Fram) (ds : List D) (env1 : Fram), RE K P0 env σ H ∧ RPs K H (Stb P0 env σ) vs ds ∧ stores ts ds env = some env1 ∧
  ∀ σ', Sto K P0 env σ H (tgsSlots ts) env1 σ' → Q σ' H
section
variable {K : PySem.W.Frag} {H : Hp} {σ : L2.St} {v : V} {vs : List V} {Q : L2.St → Hp → Prop}
theorem ent_gname {i : Nat} (h : tTg K (.name i) v σ H Q) : gName i v σ H Q := by
  obtain ⟨P0, env, d, env1, r, q, e, k⟩ := h
  unfold store at e
  split at e
  · rename_i hc
    cases e
    simp only [Bool.and_eq_true, decide_eq_true_eq, Bool.not_eq_true'] at hc
    exact k _ (Sto.name r hc.1 hc.2 q)
  · cases e
theorem ent_gnil (h : tTgs K [] vs σ H Q) : gNil vs σ H Q := by
  obtain ⟨P0, env, ds, env1, r, q, e, k⟩ := h
  cases q with
  | nil =>
    unfold stores at e
    cases e
    exact ⟨rfl, k _ (Sto.refl r)⟩
  | cons _ _ => simp [stores] at e
theorem ent_gcons {t : Tg} {ts : List Tg} (h : tTgs K (t :: ts) vs σ H Q) : gCons (tTg K t) (tTgs K ts) vs σ H Q := by
  obtain ⟨P0, env, ds, env1, r, q, e, k⟩ := h
  cases q with
  | nil => simp [stores] at e
  | cons q1 q2 =>
    unfold stores at e
    obtain ⟨e1, s1, s2⟩ := Option.bind_eq_some_iff.mp e
    refine ⟨_, _, rfl, P0, env, _, e1, r, q1, s1, fun σ' a => ?_⟩
    exact ⟨P0, e1, _, env1, a.re, q2.mono a.stb, s2, fun σ2 b => k σ2 (by
      have c := a.trans b
      unfold tgsSlots
      exact c)⟩
theorem stores_len : ∀ {ts : List Tg} {ds : List D} {env env1 : Fram}, stores ts ds env = some env1 → ds.length = ts.length
  | [], [], _, _, _ => rfl
  | [], _ :: _, _, _, h => by simp [stores] at h
  | _ :: _, [], _, _, h => by simp [stores] at h
  | t :: ts, d :: ds, env, env1, h => by
    unfold stores at h
    obtain ⟨e1, _, s2⟩ := Option.bind_eq_some_iff.mp h
    simp [stores_len s2]
theorem ent_gtup {ts : List Tg} {n : Nat} (hn : ts.length = n) (h : tTg K (.tup ts) v σ H Q) : gTup K n (tTgs K ts) v σ H Q := by
  obtain ⟨P0, env, d, env1, r, q, e, k⟩ := h
  cases q with
  | tup s q =>
    unfold store at e
    refine ⟨_, _, rfl, s, ?_, P0, env, _, env1, r, q, e, fun σ' a => k σ' (by
      unfold tgSlots
      exact a)⟩
    rw [q.length, stores_len e, hn]
  | _ => simp [store] at e
end
theorem PG.imp {X : Cx} {e : Expr} {t t' : TG} (h : PG X e t) (m : ∀ v σ H Q, t' v σ H Q → t v σ H Q) : PG X e t' := ⟨fun pins s σ H v u Q I r q => h.run pins s σ H v u Q I r (m v σ H Q q)⟩
theorem PGs.imp {X : Cx} {e : List Expr} {t t' : TGs} (h : PGs X e t) (m : ∀ v σ H Q, t' v σ H Q → t v σ H Q) : PGs X e t' := ⟨fun pins s σ H v u Q I r q => h.run pins s σ H v u Q I r (m v σ H Q q)⟩
theorem PI.imp {X : Cx} {tg e : Expr} {t t' : TI} (h : PI X tg e t) (m : ∀ σ H Q, t' σ H Q → t σ H Q) : PI X tg e t' := ⟨fun pins s σ H Q I q => h.run pins s σ H Q I (m σ H Q q)⟩
/-! ### what is walked -/
mutual
/-- the lists in a value are old -/
theorem RP.old {K : PySem.W.Frag} {H : Hp} {P : Pa} : ∀ {v : V} {d : D}, RP K H P v d → RP K H (fun a => P a ∧ H a ≠ none) v d
  | _, _, .non => .non
  | _, _, .bl b => .bl b
  | _, _, .int i => .int i
  | _, _, .str x => .str x
  | _, _, .lst q s r => .lst ⟨q, fun n => by
      rcases s with h | ⟨o, h⟩ <;> (rw [n] at h; cases h)⟩ s (RPs.old r)
  | _, _, .lit s r => .lit s (RPs.old r)
  | _, _, .tup s r => .tup s (RPs.old r)
  | _, _, .dct q s r => .dct ⟨q, fun n => by
      rcases s with h | ⟨o, h⟩ <;> (rw [n] at h; cases h)⟩ s (REs.old r)
theorem REs.old {K : PySem.W.Frag} {H : Hp} {P : Pa} : ∀ {xs : List (NestedKey × Addr × Value)} {ds : List (D × D)}, REs K H P xs ds → REs K H (fun a => P a ∧ H a ≠ none) xs ds
  | _, _, .nil => .nil
  | _, _, .cons m h1 h2 h3 r => .cons m (RP.old h1) h2 (RP.old h3) (REs.old r)
theorem RPs.old {K : PySem.W.Frag} {H : Hp} {P : Pa} : ∀ {vs : List V} {ds : List D}, RPs K H P vs ds → RPs K H (fun a => P a ∧ H a ≠ none) vs ds
  | _, _, .nil => .nil
  | _, _, .cons h r => .cons (RP.old h) (RPs.old r)
end
/-- the walk yields these, while what may not be changed stands -/
structure ItOk (K : PySem.W.Frag) (P : Pa) (H : Hp) (J : L2.It) (ds : List D) : Prop where
  go : ∀ i H1, Keep P H H1 → i < ds.length → J.go i H1
  yld : ∀ i H1 x H2 d, Keep P H H1 → ds[i]? = some d → J.yld i H1 x H2 → (∀ a o, H1 a = some o → H2 a = some o) ∧ RP K H2 (fun a => P a ∧ H a ≠ none) x d
  stop : ∀ H1, Keep P H H1 → J.stop ds.length H1
/-- a list (true) or a tuple -/
def SqK (K : PySem.W.Frag) (k : Bool) (H : Hp) (a : Addr) (xs : List V) : Prop := match k with
  | true => SqL K H a xs
  | false => SqT K H a xs
def seqAt (k : Bool) (h : Heap) (a : Addr) (its : Array Value) : Prop := match k with
  | true => h.IsList a its
  | false => h.IsTuple a its
def itrAt (k : Bool) (h : Heap) (it a : Addr) (i : Nat) : Prop := match k with
  | true => h.IsListIter it a i
  | false => h.IsTupleIter it a i
def itrO (k : Bool) (a : Addr) : Obj := match k with
  | true => { cls := .type "list_iterator", data := .fields #[.ref a, .int 0 0] }
  | false => { cls := .type "tuple_iterator", data := .fields #[.ref a, .int 0 0] }
theorem begK (k : Bool) (a : Addr) (its : Array Value) : Begins (.ref a) (itrO k a) fun h => seqAt k h a its := by
  cases k with
  | true => exact begins_list a its
  | false => exact begins_tuple a its
theorem itrAt_new {k : Bool} {h : Heap} {it a : Addr} (e : h.get? it = some (itrO k a)) : itrAt k h it a 0 := by
  cases k with
  | true => exact ⟨_, e, rfl, rfl⟩
  | false => exact ⟨_, e, rfl, rfl⟩
theorem drawK {prog : Program} {w : World} {A : Around} (hh : A.handled = none) (k : Bool) (it a : Addr) (hne : a ≠ it) (its : Array Value) :
    Draws prog w A it [it, a] its.size (fun i v => its[i]? = some v) (fun i h => itrAt k h it a i ∧ seqAt k h a its) := by
  cases k with
  | true => exact Draws.list hh it a hne its
  | false => exact Draws.tuple hh it a hne its
theorem itrAt.obj {k : Bool} {h : Heap} {it a : Addr} {i : Nat} (st : itrAt k h it a i) : ∃ o, h.get? it = some o ∧ ∀ v, o.data ≠ .cell v := by
  cases k with
  | true =>
    obtain ⟨o, e, _, d⟩ := st
    exact ⟨o, e, fun v z => by rw [d] at z; cases z⟩
  | false =>
    obtain ⟨o, e, _, d⟩ := st
    exact ⟨o, e, fun v z => by rw [d] at z; cases z⟩
theorem itrAt.at {k : Bool} {h h' : Heap} {it a : Addr} {i : Nat} (st : itrAt k h it a i) (q : ∀ o, h.get? it = some o → h'.get? it = some o) : itrAt k h' it a i := by
  cases k with
  | true => exact Heap.IsListIter.at st q
  | false => exact Heap.IsTupleIter.at st q
section
variable {X : Cx} {pins : List (Addr × Obj)} {σ : L2.St} {H : Hp} {s : Shared}
theorem inv_sqK (I : Inv X pins σ H s) {k : Bool} {a : Addr} {xs : List V} (q : SqK X.K k H a xs) : ∃ its : List Value, Vals xs its ∧ seqAt k s.heap a its.toArray ∧ a < s.heap.objs.size := by
  cases k with
  | true =>
    obtain ⟨its, rv, p, _⟩ := I.list q
    exact ⟨its, rv, p.isList, p.lt⟩
  | false =>
    obtain ⟨its, rv, p, _⟩ := I.tuple q
    have p' : s.heap.IsTuple a its.toArray := p
    obtain ⟨o, e, _⟩ := id p'
    exact ⟨its, rv, p', Heap.lt_size e⟩
theorem inv_injK (I : Inv X pins σ H s) {k : Bool} {a : Addr} {xs ys : List V} (q : SqK X.K k H a xs) (q' : SqK X.K k H a ys) : xs = ys := by
  cases k with
  | true => exact I.list_inj q q'
  | false => exact I.tuple_inj q q'
end
/-- what stands at a in turn i -/
def ItK (K : PySem.W.Frag) (k : Bool) (a : Addr) : L2.It :=
  ⟨fun i H => ∃ (xs : List V) (x : V), SqK K k H a xs ∧ xs[i]? = some x, fun i H v H' => ∃ T x, v = .ref T ∧ H T = none ∧ H' = upd H T (.tup [.int (i : Nat), x]) ∧ ∀ xs, SqK K k H a xs → xs[i]? = some x, fun i H => ∃ xs : List V, SqK K k H a xs ∧ xs.length = i⟩
def ItZ (K : PySem.W.Frag) (k l : Bool) (a b : Addr) : L2.It :=
  ⟨fun i H => ∃ (xs ys : List V) (x y : V), SqK K k H a xs ∧ SqK K l H b ys ∧ xs[i]? = some x ∧ ys[i]? = some y,
    fun i H v H' => ∃ T x y, v = .ref T ∧ H T = none ∧ H' = upd H T (.tup [x, y]) ∧ (∀ xs, SqK K k H a xs → xs[i]? = some x) ∧ ∀ ys, SqK K l H b ys → ys[i]? = some y,
    fun i H => ∃ xs ys : List V, SqK K k H a xs ∧ SqK K l H b ys ∧ min xs.length ys.length = i⟩
theorem turnK {P : Program} {w : World} {K : PySem.W.Frag} {elts : List Expr} {kk : Nat} {tpos : Pos} (k : Bool) (a e it : Addr) :
    Turn P w K (.Tuple elts kk tpos) (ItK K k a) [e, it] e (fun i h => (∃ old, IsEnum h e it ((i : Nat) : Int) old) ∧ itrAt k h it a i ∧ e ≠ it ∧ a ≠ e ∧ a ≠ it) where
  mem := by simp
  obj := fun i h st b hb => by
    obtain ⟨⟨old, he⟩, hi, _⟩ := st
    rcases (by simpa using hb : b = e ∨ b = it) with rfl | rfl
    · exact ⟨_, he, fun v q => nomatch q⟩
    · exact hi.obj
  keep := fun i h h' st q => let ⟨⟨old, he⟩, hi, hne⟩ := st; ⟨⟨old, q e (by simp) _ he⟩, hi.at fun o z => q it (by simp) o z, hne⟩
  item := by
    intro X hP hw hK hc i pins s σ H E I hf st hg
    subst hP hw hK
    obtain ⟨⟨old, he⟩, hit, hne, hae, hai⟩ := st
    obtain ⟨xs, x, hq, hx⟩ := hg
    obtain ⟨its, rv, p, hz⟩ := inv_sqK I hq
    obtain ⟨u, hu, ru⟩ := rv.get hx
    have lt : i < its.toArray.size := by
      have := (List.getElem?_eq_some_iff.mp hu).1
      simpa using this
    have G := GoesN.enumFrom (prog := X.prog) (w := X.w) (A := X.A) (elts := elts) (x1 := kk) (pos := tpos) 0 (drawK (A := X.A.in1) (I.ok.hd hc) k it a hai its.toArray) e hne (by simp only [List.mem_cons, List.not_mem_nil, or_false, not_or]; exact ⟨hne, fun z => hae z.symm⟩) (by simp)
    refine G.goes i s _ E lt ⟨⟨old, by simpa using he⟩, hit, p⟩ fun v h' tk hy st' kp htk => ?_
    obtain ⟨T, t, y, rfl, hT, hy, ht⟩ := hy
    have hyu : y = u := by
      have : its[i]? = some y := by simpa using hy
      rw [hu] at this
      cases this
      rfl
    subst hyu
    obtain ⟨⟨old', he'⟩, hit', _⟩ := st'
    have new : ObjOk X.prog X.w (upd H T (.tup [.int (i : Nat), x])) h' T (.tup [.int (i : Nat), x]) :=
      ⟨by show 2 ≤ sizeLine; decide, [.int i t, y], .cons ⟨_, rfl⟩ (.cons ru .nil), by
        have w : h'.IsTuple T #[.int (i : Nat) t, y] := by simpa using ht
        exact w⟩
    have I1 : Inv X pins σ (upd H T (.tup [.int (i : Nat), x])) { s with heap := h', toks := tk } :=
      I.turnedNew (ch := [e, it]) (fun b ob hb q => kp b ob hb q) hf hT new
    refine ⟨.ref T, _, I1, rfl, ⟨T, x, rfl, I.hok.fresh hT, rfl, fun ys hy => by rw [inv_injK I hy hq]; exact hx⟩, ⟨⟨old', by simpa using he'⟩, hit', hne, hae, hai⟩, fun b hb => ?_⟩
    have hb' : b < s.heap.objs.size := by
      rcases (by simpa using hb : b = e ∨ b = it) with rfl | rfl
      · exact Heap.lt_size he
      · obtain ⟨_, z, _⟩ := hit.obj
        exact Heap.lt_size z
    rw [upd_ne (Nat.ne_of_lt (Nat.lt_of_lt_of_le hb' hT))]
    exact (hf b hb).1
  done := by
    intro X hP hw hK hc i pins s σ H E I hf st hg
    subst hP hw hK
    obtain ⟨⟨old, he⟩, hit, hne, hae, hai⟩ := st
    obtain ⟨xs, hq, hx⟩ := hg
    obtain ⟨its, rv, p, hz⟩ := inv_sqK I hq
    have l1 := rv.length
    have G := GoesN.enumFrom (prog := X.prog) (w := X.w) (A := X.A) (elts := elts) (x1 := kk) (pos := tpos) 0 (drawK (A := X.A.in1) (I.ok.hd hc) k it a hai its.toArray) e hne (by simp only [List.mem_cons, List.not_mem_nil, or_false, not_or]; exact ⟨hne, fun z => hae z.symm⟩) (by simp)
    have e2 : i = its.toArray.size := by simp; omega
    subst e2
    exact G.stops s _ E ⟨⟨old, by simpa using he⟩, hit, p⟩ fun h' tk kp htk => I.turnedL (ch := [e, it]) (fun c o hb q => kp c o hb q) hf
  self := fun A i s Q E st h => let ⟨⟨_, he⟩, _⟩ := st; wpAny_pyIter_enum he h
theorem sep_of {z TI TO i1 i2 a b : Addr} (D : ZipApart z TI TO i1 i2 a b) : ZipSep2 z TI TO i1 i2 [i1, a] [i2, b] where
  TIz := D.TIz
  TOz := D.TOz
  TITO := D.TITO
  TIi1 := D.TIi1
  mem1 := by simp
  zf1 := by simp only [List.mem_cons, List.not_mem_nil, or_false, not_or]; exact ⟨D.i1z.symm, D.l1z.symm⟩
  Tf1 := by simp only [List.mem_cons, List.not_mem_nil, or_false, not_or]; exact ⟨D.TOi1, D.l1TO.symm⟩
  TIi2 := D.TIi2
  mem2 := by simp
  zf2 := by simp only [List.mem_cons, List.not_mem_nil, or_false, not_or]; exact ⟨D.i2z.symm, D.l2z.symm⟩
  Tf2 := by simp only [List.mem_cons, List.not_mem_nil, or_false, not_or]; exact ⟨D.TOi2, D.l2TO.symm⟩
  sep1_2 := by simp only [List.mem_cons, List.not_mem_nil, or_false, not_or]; exact ⟨D.i12, D.l2i1.symm⟩
  sep2_1 := by simp only [List.mem_cons, List.not_mem_nil, or_false, not_or]; exact ⟨D.i12.symm, D.l1i2.symm⟩
theorem turnZ {P : Program} {w : World} {K : PySem.W.Frag} {elts : List Expr} {kk : Nat} {tpos : Pos} (k l : Bool) {a b z TI TO i1 i2 : Addr} (D : ZipApart z TI TO i1 i2 a b) :
    Turn P w K (.Tuple elts kk tpos) (ItZ K k l a b) [z, TI, TO, i1, i2] z (fun i h => IsZip h z TI TO .none ∧ IsTupOf2 h TI (.ref i1) (.ref i2) ∧ (∃ x y, IsTupOf2 h TO x y) ∧ itrAt k h i1 a i ∧ itrAt l h i2 b i) where
  mem := by simp
  obj := fun i h st c hm => by
    obtain ⟨hz, hTI, ⟨x, y, hTO⟩, h1, h2⟩ := st
    rcases (by simpa using hm : c = z ∨ c = TI ∨ c = TO ∨ c = i1 ∨ c = i2) with rfl | rfl | rfl | rfl | rfl
    · exact ⟨_, hz, fun v q => nomatch q⟩
    · exact ⟨_, hTI, fun v q => nomatch q⟩
    · exact ⟨_, hTO, fun v q => nomatch q⟩
    · exact h1.obj
    · exact h2.obj
  keep := fun i h h' st q => by
    obtain ⟨hz, hTI, ⟨x, y, hTO⟩, h1, h2⟩ := st
    exact ⟨q z (by simp) _ hz, q TI (by simp) _ hTI, ⟨x, y, q TO (by simp) _ hTO⟩, h1.at fun o r => q i1 (by simp) o r, h2.at fun o r => q i2 (by simp) o r⟩
  item := by
    intro X hP hw hK hc i pins s σ H E I hf st hg
    subst hP hw hK
    obtain ⟨hz, hTI, hTO, h1, h2⟩ := st
    obtain ⟨xs, ys, x, y, qx, qy, ex, ey⟩ := hg
    obtain ⟨is, rx, px, _⟩ := inv_sqK I qx
    obtain ⟨js, ry, py, _⟩ := inv_sqK I qy
    obtain ⟨u, hu, ru⟩ := rx.get ex
    obtain ⟨v, hv, rv⟩ := ry.get ey
    have lt1 := (List.getElem?_eq_some_iff.mp hu).1
    have lt2 := (List.getElem?_eq_some_iff.mp hv).1
    have G := GoesN.zip2 (prog := X.prog) (w := X.w) (A := X.A) (elts := elts) (x1 := kk) (pos := tpos) (sep_of D) (drawK (A := X.A.in1) (I.ok.hd hc) k i1 a D.l1i1 is.toArray) (drawK (A := X.A.in1) (I.ok.hd hc) l i2 b D.l2i2 js.toArray)
    refine G.goes i s _ E (by simp; omega) ⟨hz, hTI, hTO, ⟨h1, px⟩, ⟨h2, py⟩⟩ fun r h' tk hy st' kp htk => ?_
    obtain ⟨T, m, n, rfl, hT, h3, h4, ht⟩ := hy
    have e3 : m = u := by
      have : is[i]? = some m := by simpa using h3
      rw [hu] at this
      cases this
      rfl
    have e4 : n = v := by
      have : js[i]? = some n := by simpa using h4
      rw [hv] at this
      cases this
      rfl
    subst e3 e4
    obtain ⟨s1, s2, s3, ⟨s4, _⟩, s5, _⟩ := st'
    have new : ObjOk X.prog X.w (upd H T (.tup [x, y])) h' T (.tup [x, y]) :=
      ⟨by show 2 ≤ sizeLine; decide, [m, n], .cons ru (.cons rv .nil), by
        have w : h'.IsTuple T #[m, n] := by simpa using ht
        exact w⟩
    have I1 : Inv X pins σ (upd H T (.tup [x, y])) { s with heap := h', toks := tk } :=
      I.turnedNew (ch := [z, TI, TO, i1, i2]) (fun c ob hb q => kp c ob (fun w => hb (by
        rcases (by simpa using w : c = z ∨ c = TO ∨ c = i1 ∨ c = i2) with rfl | rfl | rfl | rfl <;> simp)) q) hf hT new
    refine ⟨.ref T, _, I1, rfl, ⟨T, x, y, rfl, I.hok.fresh hT, rfl, fun zs hy => by rw [inv_injK I hy qx]; exact ex, fun zs hy => by rw [inv_injK I hy qy]; exact ey⟩, ⟨s1, s2, s3, s4, s5⟩, fun c hm => ?_⟩
    have lt : c < s.heap.objs.size := by
      obtain ⟨_, _, hTO⟩ := hTO
      rcases (by simpa using hm : c = z ∨ c = TI ∨ c = TO ∨ c = i1 ∨ c = i2) with rfl | rfl | rfl | rfl | rfl
      · exact Heap.lt_size hz
      · exact Heap.lt_size hTI
      · exact Heap.lt_size hTO
      · obtain ⟨_, q, _⟩ := h1.obj
        exact Heap.lt_size q
      · obtain ⟨_, q, _⟩ := h2.obj
        exact Heap.lt_size q
    rw [upd_ne (Nat.ne_of_lt (Nat.lt_of_lt_of_le lt hT))]
    exact (hf c hm).1
  done := by
    intro X hP hw hK hc i pins s σ H E I hf st hg
    subst hP hw hK
    obtain ⟨hz, hTI, hTO, h1, h2⟩ := st
    obtain ⟨xs, ys, qx, qy, en⟩ := hg
    obtain ⟨is, rx, px, _⟩ := inv_sqK I qx
    obtain ⟨js, ry, py, _⟩ := inv_sqK I qy
    have l1 := rx.length
    have l2 := ry.length
    have G := GoesN.zip2 (prog := X.prog) (w := X.w) (A := X.A) (elts := elts) (x1 := kk) (pos := tpos) (sep_of D) (drawK (A := X.A.in1) (I.ok.hd hc) k i1 a D.l1i1 is.toArray) (drawK (A := X.A.in1) (I.ok.hd hc) l i2 b D.l2i2 js.toArray)
    have e2 : i = min is.toArray.size js.toArray.size := by simp; omega
    subst e2
    exact G.stops s _ E ⟨hz, hTI, hTO, ⟨h1, px⟩, ⟨h2, py⟩⟩ fun h' tk kp htk => I.turnedL (ch := [z, TI, TO, i1, i2]) (fun c o hb q => kp c o (fun w => hb (by
        rcases (by simpa using w : c = z ∨ c = TO ∨ c = i1 ∨ c = i2) with rfl | rfl | rfl | rfl <;> simp)) q) hf
  self := fun A i s Q E st h => wpAny_pyIter_zip st.1 h
/-- enumerate's own object -/
abbrev enumO (it : Addr) : Obj := { cls := .type "enumerate", data := .fields #[.none, .bool false, .ref it, rawInt 0, .none, .none] }
theorem meetsEnum {v : Value} {o : Obj} {G : Heap → Prop} (B : Begins v o G) :
    Meets (Builtin.«enumerate.__new__» ⟨[.type "enumerate", v], []⟩) (fun _ R s => G s.heap ∧
      R (.ok (.ret (.ref (s.heap.push o).objs.size))) { s with heap := (s.heap.push o).push (enumO s.heap.objs.size) }) :=
  .of_wp fun prog w A R s h => by
    obtain ⟨hp, gl, dd, tk, os⟩ := s
    obtain ⟨g1, h⟩ := h
    have hsub := sub_enumerate
    have q1 : ∀ {B' : Around} {E Q : Value → Shared → Prop}, Q (.ref hp.objs.size) ⟨hp.push o, gl, dd, tk, os⟩ → wpAny (model prog w) B' (pyIter v) Q E ⟨hp, gl, dd, tk, os⟩ :=
      fun q => B.iter prog w _ _ ⟨hp, gl, dd, tk, os⟩ _ g1 q
    wp_walk using q1
    refine wpAny_stack_any fun st => wpAny_pure ?_
    split
    · rename_i c _ _ _ _ _
      cases (c == Value.type "enumerate")
      · wp_walk using q1
        exact ⟨_, rfl, h⟩
      · wp_walk using q1
        exact ⟨_, rfl, h⟩
    · wp_walk using q1
      exact ⟨_, rfl, h⟩
theorem callEnum {prog : Program} {w : World} {A : Around} {E : Value → Shared → Prop} {s : Shared} {v : Value} {o : Obj} {G : Heap → Prop} {Q : Value → Shared → Prop} (B : Begins v o G) (g : G s.heap)
    (h : ∀ h', IsEnum h' (s.heap.objs.size + 1) s.heap.objs.size 0 .none → h'.get? s.heap.objs.size = some o → h'.objs.size = s.heap.objs.size + 2 →
      (∀ b u, s.heap.get? b = some u → h'.get? b = some u) → Q (.ref (s.heap.objs.size + 1)) { s with heap := h' }) :
    wpAny (model prog w) A (call (.type "enumerate") [v]) Q E s := by
  refine callType_new F.called_enumerate (by decide) (F.typeCall_enumerate_1 _) (F.newCall_enumerate_1 _) (fun ob => F.args_object_init_2 ob _) F.entry_enumerate_new (meetsEnum B) ⟨g, ?_⟩
  have sz : (s.heap.push o).objs.size = s.heap.objs.size + 1 := Heap.size_push ..
  show _ ∧ _
  rw [sz]
  have en : IsEnum ((s.heap.push o).push (enumO s.heap.objs.size)) (s.heap.objs.size + 1) s.heap.objs.size 0 .none := by
    have z := Heap.get?_push_size (s.heap.push o) (o := enumO s.heap.objs.size) rfl
    rw [sz] at z
    exact z
  exact ⟨⟨_, en, rfl⟩, h _ en (Heap.get?_push_of_some _ (Heap.get?_push_size _ B.free)) (by rw [Heap.size_push, sz]) fun b u x => Heap.get?_push_of_some _ (Heap.get?_push_of_some _ x)⟩
/-- the keys of a dict -/
def ItD (d : Addr) (ep : Nat) (xs : List (NestedKey × Addr × Value)) : L2.It :=
  ⟨fun i H => Rd H d (.ext (rawD d ep xs)) ∧ i < xs.length, fun i H x H' => H' = H ∧ ∃ (k : NestedKey) (b : Addr) (u : Value), xs[i]? = some (k, b, u) ∧ x = .ref b, fun i H => Rd H d (.ext (rawD d ep xs)) ∧ xs.length ≤ i⟩
theorem turnD {P : Program} {w : World} {K : PySem.W.Frag} {tg : Expr} {d : Addr} {ep : Nat} {xs : List (NestedKey × Addr × Value)} (it : Addr) : Turn P w K tg (ItD d ep xs) [it] it (fun i h => h.IsKeyIter it d i xs.length ep) where
  mem := by simp
  obj := fun i h st b hb => by
    have e : b = it := by simpa using hb
    subst e
    obtain ⟨oi, e, c, dd⟩ := st
    exact ⟨oi, e, fun v z => by rw [dd] at z; cases z⟩
  keep := fun i h h' st k => st.at fun oi e => k it (by simp) oi e
  item := by
    intro X hP hw hK hc i pins s σ H E I hf st hg
    subst hP hw hK
    obtain ⟨hd, hi⟩ := hg
    obtain ⟨f0, f1, f2, f3, f4, f5⟩ := hf it (by simp)
    obtain ⟨⟨h1, h2, o, es, e1, e2, e3, e4, e5⟩, _⟩ := Rd.ok hd I.hok
    obtain ⟨⟨k, b, u⟩, hx⟩ : ∃ p, xs[i]? = some p := ⟨xs[i], List.getElem?_eq_getElem hi⟩
    refine next_key_item st e1 e3 (size_of_entries e4) ((entry_at e4 i).trans (by rw [hx]; rfl)) fun h' st' sb => ?_
    have I1 : Inv X pins σ H { s with heap := h' } := I.turned (t' := s.toks) (fun b ob hb e => (sb.2 b hb).trans e) f0 f1 f3 f4 f5
    obtain ⟨oi, e, c, dd⟩ := id st'
    exact ⟨.ref b, rfl, go_of (s := { s with heap := h' }) e c dd (by decide) ⟨.ref b, H, I1, rfl, ⟨rfl, k, b, u, hx, rfl⟩, st', fun b hb => (hf b hb).1⟩⟩
  done := by
    intro X hP hw hK hc i pins s σ H E I hf st hg
    subst hP hw hK
    obtain ⟨hd, hi⟩ := hg
    obtain ⟨f0, f1, f2, f3, f4, f5⟩ := hf it (by simp)
    obtain ⟨⟨h1, h2, o, es, e1, e2, e3, e4, e5⟩, _⟩ := Rd.ok hd I.hok
    exact next_key_end (I.ok.hd hc) st e1 e3 (size_of_entries e4) hi fun h' eb => ⟨rfl, I.turned (t' := s.toks) (fun b ob hb e => eb b ob hb e) f0 f1 f3 f4 f5⟩
  self := fun A i s Q E st h => by
    refine wpAny_pyIter_slot st.typeIs PySem.F.slot_dict_keyiterator_iter (wpAny_call_entry PySem.F.slot_dict_keyiterator_iter st.typeIs PySem.F.entry_dict_keyiterator_iter ?_ (PySem.F.args_dict_keyiterator_iter_1 _))
    show wpAny _ _ (ret (.ref it)) _ _ s
    exact wpAny_pure ⟨_, rfl, "dict_keyiterator", _, st.typeIs, PySem.F.slot_dict_keyiterator_next.lookup, h⟩
def iSeqK (K : PySem.W.Frag) (te : TE) : TI := fun σ H R => te σ H fun x H1 => ∃ a, x = .ref a ∧ ((∃ xs, SqL K H1 a xs) ∧ R (Itl K a) H1 ∨ (∃ xs, SqT K H1 a xs) ∧ R (Itt K a) H1 ∨ ∃ ep xs, Rd H1 a (.ext (rawD a ep xs)) ∧ R (ItD a ep xs) H1)
def iEnumK (K : PySem.W.Frag) (ta : TA) : TI := fun σ H R => ta σ H fun vs H1 => ∃ a xs k, vs = [.ref a] ∧ SqK K k H1 a xs ∧ R (ItK K k a) H1
def iZipK (K : PySem.W.Frag) (ta : TA) : TI := fun σ H R => ta σ H fun vs H1 => ∃ a b xs ys k l, vs = [.ref a, .ref b] ∧ SqK K k H1 a xs ∧ SqK K l H1 b ys ∧ R (ItZ K k l a b) H1
section
variable {X : Cx} {tg : Expr}
theorem pi_seqK {e : Expr} {te : TE} (he : PE X e te) : PI X tg e (iSeqK X.K te) := by
  refine ⟨fun pins s σ H R I h => thn (he.run pins s σ H _ I h) fun v s1 ⟨x, H1, I1, r1, a, e, q⟩ => ?_⟩
  subst e
  cases r1
  have ok : FpOk X pins H1 s1.heap.objs.size := I1.fpOk (Nat.le_refl _) (I1.hok.fresh (Nat.le_refl _))
  rcases q with ⟨⟨xs, hq⟩, q⟩ | ⟨⟨xs, hq⟩, q⟩ | ⟨ep, xs, hq, q⟩
  · obtain ⟨its, rv, p, _⟩ := I1.list hq
    refine wpAny_pyIter_list p.isList ⟨_, [s1.heap.objs.size], _, _, H1, rfl, ?_, turn_list a _, ⟨_, Heap.get?_push_size _ rfl, rfl, rfl⟩, fun b hb => ?_, q⟩
    · exact I1.kept (t' := s1.toks) fun b u z => Heap.get?_push_of_some _ z
    · rw [List.mem_singleton.mp hb]
      exact ok
  · obtain ⟨its, rv, p, _⟩ := I1.tuple hq
    have p' : s1.heap.IsTuple a its.toArray := p
    refine wpAny_pyIter_tuple p' ⟨_, [s1.heap.objs.size], _, _, H1, rfl, ?_, turn_tuple a _, ⟨_, Heap.get?_push_size _ rfl, rfl, rfl⟩, fun b hb => ?_, q⟩
    · exact I1.kept (t' := s1.toks) fun b u z => Heap.get?_push_of_some _ z
    · rw [List.mem_singleton.mp hb]
      exact ok
  · obtain ⟨⟨h1, h2, o, es, e1, e2, e3, e4, e5⟩, _⟩ := Rd.ok hq I1.hok
    refine iter_keys h1 e1 e2 e3 (pi_one (tk := s1.toks) I1 _ (turnD _) ⟨_, Heap.get?_push_size _ rfl, rfl, ?_⟩ q)
    rw [size_of_entries e4] <;> rfl
theorem pi_enumK {e : Expr} {ta : TA} {p pos tpos : Pos} {elts : List Expr} {kk : Nat} (hg : Gl X "enumerate") (hm : X.mg "enumerate" = none) (ha : PA X [e] ta) (hs : starEach [e] X.env = [(false, eval e X.env)]) :
    PI X (.Tuple elts kk tpos) (.Call (.Name "enumerate" p) [e] [] pos) (iEnumK X.K ta) := by
  refine ⟨fun pins s σ H R I h => Call_ (ld_blt I hg hm boot_enumerate (PyProof.Rows.callWith_type1 (thn (ha.run pos pins s σ H _ I h) fun us s1 ⟨vs, H1, I1, r1, a, xs, k, ex, hq, q⟩ => ?_) hs rfl))⟩
  subst ex
  cases r1 with
  | cons r rr =>
    cases rr
    cases r
    obtain ⟨its, rv, p', la⟩ := inv_sqK I1 hq
    refine callEnum (begK k a its.toArray) p' fun h' he hit hsz hk => wpAny_pyIter_enum he ?_
    have I2 : Inv X pins σ H1 { s1 with heap := h' } := I1.kept (t' := s1.toks) hk
    refine ⟨s1.heap.objs.size + 1, [s1.heap.objs.size + 1, s1.heap.objs.size], _, _, H1, rfl, I2, turnK k a (s1.heap.objs.size + 1) s1.heap.objs.size, ⟨⟨.none, he⟩, itrAt_new hit, Nat.succ_ne_self _, Nat.ne_of_lt (Nat.lt_succ_of_lt la), Nat.ne_of_lt la⟩, fun b hb => ?_, q⟩
    have hle : s1.heap.objs.size ≤ b := by
      rcases (by simpa using hb : b = s1.heap.objs.size + 1 ∨ b = s1.heap.objs.size) with z | z <;> (rw [z]; simp)
    exact I1.fpOk hle (I1.hok.fresh hle)
theorem pi_zipK {e e2 : Expr} {ta : TA} {p pos tpos : Pos} {elts : List Expr} {kk : Nat} (hg : Gl X "zip") (hm : X.mg "zip" = none) (ha : PA X [e, e2] ta)
    (hs : starEach [e, e2] X.env = (false, eval e X.env) :: starEach [e2] X.env) (hpl : (backTo pos (starEach [e2] X.env)).any (·.1) = false) :
    PI X (.Tuple elts kk tpos) (.Call (.Name "zip" p) [e, e2] [] pos) (iZipK X.K ta) := by
  refine ⟨fun pins s σ H R I h => Call_ (ld_blt I hg hm PyProof.Rows.boot_zip (PyProof.Rows.callWith_type1 (thn (ha.run pos pins s σ H _ I h) fun us s1 ⟨vs, H1, I1, r1, a, b, xs, ys, k, l, ex, hq, hq2, q⟩ => ?_) hs hpl))⟩
  subst ex
  cases r1 with
  | cons r rr =>
    cases rr with
    | cons r' rr =>
      cases rr
      cases r
      cases r'
      obtain ⟨its, rv, p1, la⟩ := inv_sqK I1 hq
      obtain ⟨jts, rv2, p2, lb⟩ := inv_sqK I1 hq2
      refine zip_begins2 (begK k a its.toArray) (begK l b jts.toArray) p1 p2 fun h' hz hTI hTO h1 h2 hsz hk => wpAny_pyIter_zip hz ?_
      have I2 : Inv X pins σ H1 { s1 with heap := h' } := I1.kept (t' := s1.toks) hk
      refine ⟨s1.heap.objs.size + 4, [s1.heap.objs.size + 4, s1.heap.objs.size + 2, s1.heap.objs.size + 3, s1.heap.objs.size, s1.heap.objs.size + 1], _, _, H1, rfl, I2, turnZ k l (PySem.W.ktu_apart s1.heap.objs.size a b la lb), ⟨hz, hTI, ⟨_, _, hTO⟩, itrAt_new h1, itrAt_new h2⟩, fun c hm => ?_, q⟩
      have hle : s1.heap.objs.size ≤ c := by
        rcases (by simpa using hm : c = s1.heap.objs.size + 4 ∨ c = s1.heap.objs.size + 2 ∨ c = s1.heap.objs.size + 3 ∨ c = s1.heap.objs.size ∨ c = s1.heap.objs.size + 1) with z | z | z | z | z <;> (rw [z]; simp)
      exact I1.fpOk hle (I1.hok.fresh hle)
end
end PV
set_option Elab.async false
set_option linter.all false
set_option maxRecDepth 100000
set_option maxHeartbeats 2000000
/-! PV, part I: what walks yield. -/
namespace PV
open PySem PySem.Spec PyProof.Rows L2
variable [Wd]
/-! ### what the walks yield -/
section
variable {K : PySem.W.Frag} {P : Pa} {H : Hp}
theorem SqL.keepP {H1 : Hp} {a : Addr} {xs : List V} (hp : P a ∨ SqL K (fun _ => none) a xs) (s : SqL K H a xs) (k : Keep P H H1) : SqL K H1 a xs := by
  rcases hp with hp | hp
  · rcases s with h | h
    · rcases h with h | ⟨o, h⟩
      · exact .inl (.inl (k _ _ h (.inl hp)))
      · exact .inl (.inr ⟨o, k _ _ h (.inl hp)⟩)
    · exact .inr h
  · exact none_lit hp
theorem SqT.keepP {H1 : Hp} {a : Addr} {xs : List V} (s : SqT K H a xs) (k : Keep P H H1) : SqT K H1 a xs := by
  rcases s with h | h
  · rcases h with h | ⟨o, h⟩
    · exact .inl (.inl (k _ _ h (.inr rfl)))
    · exact .inl (.inr ⟨o, k _ _ h (.inr rfl)⟩)
  · exact .inr h
/-- a value that can be walked: a list that stands, or a tuple -/
structure Wk (K : PySem.W.Frag) (P : Pa) (H : Hp) (k : Bool) (a : Addr) (xs : List V) (ds : List D) : Prop where
  sq : SqK K k H a xs
  rp : RPs K H P xs ds
  kp : ∀ H1, Keep P H H1 → SqK K k H1 a xs
theorem RP.walk {v : V} {d : D} {ds : List D} (r : RP K H P v d) (h : items? d = some ds) : ∃ k a xs, v = .ref a ∧ Wk K P H k a xs ds := by
  cases r with
  | lst p s r =>
    cases h
    exact ⟨true, _, _, rfl, .inl s, r, fun H1 k => SqL.keepP (K := K) (.inl p) (.inl s) k⟩
  | lit s r =>
    cases h
    exact ⟨true, _, _, rfl, none_lit s, r, fun H1 k => none_lit s⟩
  | tup s r =>
    cases h
    exact ⟨false, _, _, rfl, s, r, fun H1 k => SqT.keepP s k⟩
  | _ => cases h
theorem Wk.keep {P' : Pa} {H1 : Hp} {k : Bool} {a : Addr} {xs : List V} {ds : List D} (w : Wk K P H k a xs ds) (q : Keep P H H1) (m : ∀ b, P b → P' b) (m2 : ∀ H2, Keep P' H1 H2 → Keep P H H2) : Wk K P' H1 k a xs ds :=
  ⟨w.kp _ q, w.rp.keep q m, fun H2 r => w.kp _ (m2 H2 r)⟩
theorem itOk_seq {k : Bool} {a : Addr} {xs : List V} {ds : List D} (w : Wk K P H k a xs ds) : ItOk K P H (match k with
    | true => Itl K a
    | false => Itt K a) ds := by
  have l := w.rp.length
  cases k with
  | true =>
    refine ⟨fun i H1 q hi => ⟨xs, xs[i]'(by omega), w.kp H1 q, by simp⟩, fun i H1 x H2 d q hd hy => ?_, fun H1 q => ⟨xs, w.kp H1 q, by omega⟩⟩
    obtain ⟨rfl, hx⟩ := hy
    obtain ⟨v, e1, e2⟩ := w.rp.old.get hd
    have e3 := hx xs (w.kp _ q)
    rw [e1] at e3
    cases e3
    exact ⟨fun _ _ e => e, e2.keep (q.mono fun _ z => z.1) fun _ z => z⟩
  | false =>
    refine ⟨fun i H1 q hi => ⟨xs, xs[i]'(by omega), w.kp H1 q, by simp⟩, fun i H1 x H2 d q hd hy => ?_, fun H1 q => ⟨xs, w.kp H1 q, by omega⟩⟩
    obtain ⟨rfl, hx⟩ := hy
    obtain ⟨v, e1, e2⟩ := w.rp.old.get hd
    have e3 := hx xs (w.kp _ q)
    rw [e1] at e3
    cases e3
    exact ⟨fun _ _ e => e, e2.keep (q.mono fun _ z => z.1) fun _ z => z⟩
theorem rangeD_len (i j : Int) : (rangeD i j).length = (j - i).toNat := by simp [rangeD]
theorem itOk_range {i j : Int} : ItOk K P H (Itr i (j - i).toNat) (rangeD i j) := by
  refine ⟨fun k H1 _ hk => by rw [rangeD_len] at hk; exact hk, fun k H1 x H2 d _ hd hy => ?_, fun H1 _ => by
    rw [rangeD_len]
    exact Nat.le_refl _⟩
  obtain ⟨rfl, rfl⟩ := hy
  refine ⟨fun _ _ e => e, ?_⟩
  unfold rangeD at hd
  rw [List.getElem?_map] at hd
  obtain ⟨m, e1, rfl⟩ := Option.map_eq_some_iff.mp hd
  have hm : m = k := by
    have := List.getElem?_eq_some_iff.mp e1
    obtain ⟨h1, h2⟩ := this
    simpa using h2.symm
  subst hm
  exact .int _
theorem enumD_get : ∀ (ds : List D) (k i : Nat) (d : D), (enumD k ds)[i]? = some d → ∃ x, ds[i]? = some x ∧ d = .tuple [.int ((k + i : Nat) : Int), x]
  | [], _, _, _, h => by simp [enumD] at h
  | x :: xs, k, 0, d, h => by
    simp [enumD] at h
    exact ⟨x, rfl, by simpa using h.symm⟩
  | x :: xs, k, i + 1, d, h => by
    obtain ⟨y, h1, h2⟩ := enumD_get xs (k + 1) i d (by simpa [enumD] using h)
    refine ⟨y, by simpa using h1, ?_⟩
    rw [h2]
    congr 3
    omega
theorem enumD_len : ∀ (ds : List D) (k : Nat), (enumD k ds).length = ds.length
  | [], _ => rfl
  | x :: xs, k => by simp [enumD, enumD_len xs (k + 1)]
theorem zipD_get : ∀ (as bs : List D) (i : Nat) (d : D), (zipD as bs)[i]? = some d → ∃ x y, as[i]? = some x ∧ bs[i]? = some y ∧ d = .tuple [x, y]
  | [], bs, _, _, h => by simp [zipD] at h
  | x :: xs, [], _, _, h => by simp [zipD] at h
  | x :: xs, y :: ys, 0, d, h => by
    simp [zipD] at h
    exact ⟨x, y, rfl, rfl, h.symm⟩
  | x :: xs, y :: ys, i + 1, d, h => by
    obtain ⟨a, b, h1, h2, h3⟩ := zipD_get xs ys i d (by simpa [zipD] using h)
    exact ⟨a, b, by simpa using h1, by simpa using h2, h3⟩
theorem zipD_len : ∀ (as bs : List D), (zipD as bs).length = min as.length bs.length
  | [], bs => by simp [zipD]
  | x :: xs, [] => by simp [zipD]
  | x :: xs, y :: ys => by simp [zipD, zipD_len xs ys]
theorem itOk_enum {k : Bool} {a : Addr} {xs : List V} {ds : List D} (w : Wk K P H k a xs ds) : ItOk K P H (ItK K k a) (enumD 0 ds) := by
  have l := w.rp.length
  refine ⟨fun i H1 q hi => ?_, fun i H1 x H2 d q hd hy => ?_, fun H1 q => ⟨xs, w.kp H1 q, by rw [enumD_len]; omega⟩⟩
  · rw [enumD_len] at hi
    exact ⟨xs, xs[i]'(by omega), w.kp H1 q, by simp⟩
  · obtain ⟨T, y, rfl, n, rfl, hx⟩ := hy
    obtain ⟨dx, e1, rfl⟩ := enumD_get _ _ _ _ hd
    obtain ⟨v, e3, e2⟩ := w.rp.old.get e1
    have e4 := hx xs (w.kp _ q)
    rw [e3] at e4
    cases e4
    refine ⟨upd_all n, .tup (.inl (.inl upd_same)) ?_⟩
    rw [Nat.zero_add]
    exact .cons (.int _) (.cons ((e2.keep (q.mono fun _ z => z.1) fun _ z => z).keep (Keep.all (upd_all n)) fun _ z => z) .nil)
theorem itOk_zip {k l : Bool} {a b : Addr} {xs ys : List V} {ds es : List D} (w : Wk K P H k a xs ds) (w' : Wk K P H l b ys es) : ItOk K P H (ItZ K k l a b) (zipD ds es) := by
  have l1 := w.rp.length
  have l2 := w'.rp.length
  refine ⟨fun i H1 q hi => ?_, fun i H1 x H2 d q hd hy => ?_, fun H1 q => ⟨xs, ys, w.kp H1 q, w'.kp H1 q, by rw [zipD_len]; omega⟩⟩
  · rw [zipD_len] at hi
    exact ⟨xs, ys, xs[i]'(by omega), ys[i]'(by omega), w.kp H1 q, w'.kp H1 q, by simp, by simp⟩
  · obtain ⟨T, y, z, rfl, n, rfl, hx, hz⟩ := hy
    obtain ⟨dx, dy, e1, e1', rfl⟩ := zipD_get _ _ _ _ hd
    obtain ⟨v, e3, e2⟩ := w.rp.old.get e1
    obtain ⟨v', e3', e2'⟩ := w'.rp.old.get e1'
    have e4 := hx xs (w.kp _ q)
    have e5 := hz ys (w'.kp _ q)
    rw [e3] at e4
    rw [e3'] at e5
    cases e4
    cases e5
    exact ⟨upd_all n, .tup (.inl (.inl upd_same)) (.cons ((e2.keep (q.mono fun _ z => z.1) fun _ z => z).keep (Keep.all (upd_all n)) fun _ z => z) (.cons ((e2'.keep (q.mono fun _ z => z.1) fun _ z => z).keep (Keep.all (upd_all n)) fun _ z => z) .nil))⟩
end
def tI (Ph : CallF) (K : PySem.W.Frag) (W : WZ) (it : Itx) : TI := fun σ H R => ∃ (P0 : Pa) (env : Fram), RE K P0 env σ H ∧
  Post (evIt Ph it env) (fun p => ∀ J H', Aft K P0 env σ H p.2 H' → ItOk K (Stb P0 p.2 σ) H' J p.1 → R J H') (XP K W P0 env σ H)
section
variable {K : PySem.W.Frag} {W : WZ} {Ph : CallF} {σ : L2.St} {H : Hp} {R : L2.It → Hp → Prop} {a b : Exp}
theorem REs.keys {K : PySem.W.Frag} {P : Pa} {H : Hp} : ∀ {xs : List (NestedKey × Addr × Value)} {ds : List (D × D)}, REs K H P xs ds → RPs K H P (xs.map fun x => .ref x.2.1) (ds.map (·.1))
  | _, _, .nil => .nil
  | _, _, .cons n k1 k2 k3 r => .cons k1 (REs.keys r)
theorem itOk_dict {P : Pa} {a : Addr} {ep : Nat} {xs : List (NestedKey × Addr × Value)} {ds : List (D × D)} (p : P a) (h : Rd H a (.ext (rawD a ep xs))) (r : REs K H P xs ds) : ItOk K P H (ItD a ep xs) (ds.map (·.1)) := by
  have l : xs.length = ds.length := r.length
  have kp : ∀ H1, Keep P H H1 → Rd H1 a (.ext (rawD a ep xs)) := fun H1 k => by
    rcases h with h | ⟨o, h⟩
    · exact .inl (k _ _ h (.inl p))
    · exact .inr ⟨o, k _ _ h (.inl p)⟩
  refine ⟨fun i H1 q hi => ⟨kp H1 q, by simpa [l] using hi⟩, fun i H1 x H2 d q hd hy => ?_, fun H1 q => ⟨kp H1 q, by simp [l]⟩⟩
  obtain ⟨rfl, k, b, u, hx, rfl⟩ := hy
  obtain ⟨v, e1, e2⟩ := r.keys.old.get hd
  rw [List.getElem?_map, hx] at e1
  cases e1
  exact ⟨fun _ _ e => e, e2.keep (q.mono fun _ z => z.1) fun _ z => z⟩
theorem ent_seq (h : tI Ph K W (.seq a) σ H R) : iSeqK K (tE Ph K W a) σ H R := by
  obtain ⟨P0, env, r, h⟩ := h
  unfold evIt at h
  refine tE_of r (post_bind.mp h) fun d env1 q v H1 a1 ra => ?_
  obtain ⟨ds, e, q⟩ := post_opt.mp (post_bind.mp q)
  have seq : items? d = some ds → (∃ a, v = .ref a ∧ ((∃ xs, SqL K H1 a xs) ∧ R (Itl K a) H1 ∨ (∃ xs, SqT K H1 a xs) ∧ R (Itt K a) H1 ∨ ∃ ep xs, Rd H1 a (.ext (rawD a ep xs)) ∧ R (ItD a ep xs) H1)) := fun e => by
    obtain ⟨k, c, xs, rfl, w⟩ := ra.walk e
    have z := q _ H1 a1 (itOk_seq w)
    cases k with
    | true => exact ⟨c, rfl, .inl ⟨⟨xs, w.sq⟩, z⟩⟩
    | false => exact ⟨c, rfl, .inr (.inl ⟨⟨xs, w.sq⟩, z⟩)⟩
  have e : walk? d = some ds := e
  cases ra with
  | dct p s r =>
    cases e
    exact ⟨_, rfl, .inr (.inr ⟨_, _, s, q _ H1 a1 (itOk_dict p s r)⟩)⟩
  | _ => exact seq e
theorem evs1 {p : Exp} {env : Fram} : evs Ph (.cons p .nil) env = (ev Ph p env).bind fun q => .ok ([q.1], q.2) := by
  unfold evs
  cases ev Ph p env with
  | ok q =>
    simp only [bind_ok]
    unfold evs
    rfl
  | _ => rfl
theorem evs2 {p p' : Exp} {env : Fram} : evs Ph (.cons p (.cons p' .nil)) env = (ev Ph p env).bind fun q => (ev Ph p' q.2).bind fun q' => .ok ([q.1, q'.1], q'.2) := by
  unfold evs
  cases ev Ph p env with
  | ok q =>
    simp only [bind_ok]
    rw [evs1]
    cases ev Ph p' q.2 with
    | ok q' => rfl
    | _ => rfl
  | _ => rfl
theorem post_evs1 {p : Exp} {env : Fram} {k : D × Fram → Prop} {x : Exc → Fram → Prop} (h : Post (ev Ph p env) k x) : Post (evs Ph (.cons p .nil) env) (fun q => ∃ d, q.1 = [d] ∧ k (d, q.2)) x := by
  rw [evs1]
  exact post_bind.mpr (h.imp (fun q z => (⟨q.1, rfl, z⟩ : ∃ d, [q.1] = [d] ∧ k (d, q.2))) fun _ _ z => z)
theorem post_evs2 {p p' : Exp} {env : Fram} {j : D → D × Fram → Prop} {x : Exc → Fram → Prop} (h : Post (ev Ph p env) (fun q => Post (ev Ph p' q.2) (j q.1) x) x) :
    Post (evs Ph (.cons p (.cons p' .nil)) env) (fun q => ∃ d e, q.1 = [d, e] ∧ j d (e, q.2)) x := by
  rw [evs2]
  refine post_bind.mpr (h.imp (fun q z => post_bind.mpr (z.imp (fun q' w => ?_) fun _ _ w => w)) fun _ _ z => z)
  exact (⟨q.1, q'.1, rfl, w⟩ : ∃ d e, [q.1, q'.1] = [d, e] ∧ j d (e, q'.2))
theorem ent_range1 (h : tI Ph K W (.range1 a) σ H R) : iRng1 (tEs Ph K W (.cons a .nil)) σ H R := by
  obtain ⟨P0, env, r, h⟩ := h
  unfold evIt at h
  refine tEs_of r (post_evs1 (post_bind.mp h)) fun ds env1 q vs H1 a1 rs => ?_
  obtain ⟨d, e, q⟩ := q
  have e : ds = [d] := e
  subst e
  cases rs with
  | cons r1 r2 =>
    cases r2
    cases r1 with
    | int j =>
      have q : Post (if -(2 ^ 62) ≤ j ∧ j ≤ LINE then Res.ok (rangeD 0 j, env1) else .bad) (fun p => ∀ J H', Aft K P0 env σ H p.2 H' → ItOk K (Stb P0 p.2 σ) H' J p.1 → R J H') (XP K W P0 env σ H) := q
      split at q
      · rename_i hj
        have q : ∀ J H', Aft K P0 env σ H env1 H' → ItOk K (Stb P0 env1 σ) H' J (rangeD 0 j) → R J H' := q
        obtain ⟨hn, hj⟩ := hj
        have hj' : j ≤ 16777216 := hj
        refine ⟨j, rfl, hn, by omega, q _ H1 a1 ?_⟩
        have := itOk_range (K := K) (P := Stb P0 env1 σ) (H := H1) (i := 0) (j := j)
        simpa using this
      · exact q.elim
    | _ => exact q.elim
theorem ent_range2 (h : tI Ph K W (.range2 a b) σ H R) : iRng2 (tEs Ph K W (.cons a (.cons b .nil))) σ H R := by
  obtain ⟨P0, env, r, h⟩ := h
  unfold evIt at h
  refine tEs_of r (post_evs2 (j := fun d p => Post (match d, p.1 with
    | .int i, .int j => if (-(2 ^ 62) ≤ i ∧ i < 2 ^ 62 ∧ -(2 ^ 62) ≤ j ∧ j < 2 ^ 62) ∧ j - i ≤ LINE then Res.ok (rangeD i j, p.2) else .bad
    | _, _ => .bad) (fun p => ∀ J H', Aft K P0 env σ H p.2 H' → ItOk K (Stb P0 p.2 σ) H' J p.1 → R J H') (XP K W P0 env σ H)) ((post_bind.mp h).imp (fun p z => post_bind.mp z) fun _ _ z => z)) fun ds env1 q vs H1 a1 rs => ?_
  obtain ⟨d, e, ee, q⟩ := q
  have ee : ds = [d, e] := ee
  subst ee
  cases rs with
  | cons r1 r2 =>
    cases r2 with
    | cons r2 r3 =>
      cases r3
      cases r1 with
      | int i =>
        cases r2 with
        | int j =>
          have q : Post (if (-(2 ^ 62) ≤ i ∧ i < 2 ^ 62 ∧ -(2 ^ 62) ≤ j ∧ j < 2 ^ 62) ∧ j - i ≤ LINE then Res.ok (rangeD i j, env1) else .bad) (fun p => ∀ J H', Aft K P0 env σ H p.2 H' → ItOk K (Stb P0 p.2 σ) H' J p.1 → R J H') (XP K W P0 env σ H) := q
          split at q
          · rename_i hj
            have q : ∀ J H', Aft K P0 env σ H env1 H' → ItOk K (Stb P0 env1 σ) H' J (rangeD i j) → R J H' := q
            exact ⟨i, j, rfl, hj.1, q _ H1 a1 itOk_range⟩
          · exact q.elim
        | _ => exact q.elim
      | _ => exact q.elim
theorem ent_enum (h : tI Ph K W (.enum a) σ H R) : iEnumK K (tEs Ph K W (.cons a .nil)) σ H R := by
  obtain ⟨P0, env, r, h⟩ := h
  unfold evIt at h
  refine tEs_of r (post_evs1 (post_bind.mp h)) fun ds env1 q vs H1 a1 rs => ?_
  obtain ⟨d, e, q⟩ := q
  have e : ds = [d] := e
  subst e
  cases rs with
  | cons r1 r2 =>
    cases r2
    obtain ⟨xs, e, q⟩ := post_opt.mp (post_bind.mp q)
    obtain ⟨k, c, xs, rfl, w⟩ := r1.walk e
    exact ⟨c, xs, k, rfl, w.sq, q _ H1 a1 (itOk_enum w)⟩
theorem ent_zip (h : tI Ph K W (.zip a b) σ H R) : iZipK K (tEs Ph K W (.cons a (.cons b .nil))) σ H R := by
  obtain ⟨P0, env, r, h⟩ := h
  unfold evIt at h
  refine tEs_of r (post_evs2 (j := fun d p => Post ((opt (items? d)).bind fun xs => (opt (items? p.1)).bind fun ys => Res.ok (zipD xs ys, p.2)) (fun p => ∀ J H', Aft K P0 env σ H p.2 H' → ItOk K (Stb P0 p.2 σ) H' J p.1 → R J H') (XP K W P0 env σ H)) ((post_bind.mp h).imp (fun p z => post_bind.mp z) fun _ _ z => z)) fun ds env1 q vs H1 a1 rs => ?_
  obtain ⟨d, e, ee, q⟩ := q
  have ee : ds = [d, e] := ee
  subst ee
  cases rs with
  | cons r1 r2 =>
    cases r2 with
    | cons r2 r3 =>
      cases r3
      obtain ⟨xs, e, q⟩ := post_opt.mp (post_bind.mp q)
      obtain ⟨ys, e', q⟩ := post_opt.mp (post_bind.mp q)
      obtain ⟨k, c, xs, rfl, w⟩ := r1.walk e
      obtain ⟨l, c', ys, rfl, w'⟩ := r2.walk e'
      exact ⟨c, c', xs, ys, k, l, rfl, w.sq, w'.sq, q _ H1 a1 (itOk_zip w w')⟩
end
end PV
set_option Elab.async false
set_option linter.all false
set_option maxRecDepth 100000
set_option maxHeartbeats 2000000
/-! PV, part J: comprehensions. -/
namespace PV
open PySem PySem.Spec PyProof.Rows L2
variable [Wd]
section
theorem wipeF_len (env : Fram) : ∀ vs : List Nat, (wipeF env vs).length = env.length
  | [] => rfl
  | v :: vs => by unfold wipeF; rw [List.length_set, wipeF_len env vs]
theorem wipeF_get (env : Fram) (i : Nat) : ∀ vs : List Nat, (wipeF env vs)[i]? = if i ∈ vs ∧ i < env.length then some .non else env[i]?
  | [] => by simp [wipeF]
  | v :: vs => by
    unfold wipeF
    by_cases h : v = i
    · subst h
      by_cases hl : v < env.length
      · rw [List.getElem?_set_self (by rw [wipeF_len]; exact hl), if_pos ⟨List.mem_cons_self, hl⟩]
      · rw [List.getElem?_eq_none (by rw [List.length_set, wipeF_len]; omega), if_neg (fun z => hl z.2), List.getElem?_eq_none (by omega)]
    · rw [List.getElem?_set_ne h, wipeF_get env i vs]
      by_cases q : i ∈ vs ∧ i < env.length
      · rw [if_pos q, if_pos ⟨List.mem_cons_of_mem _ q.1, q.2⟩]
      · rw [if_neg q, if_neg (fun z => q ⟨(List.mem_cons.mp z.1).resolve_left (fun e => h e.symm), z.2⟩)]
theorem wipe_get (σ : L2.St) (i : Nat) : ∀ vs : List Nat, (wipe σ vs)[i]? = if i ∈ vs ∧ i < σ.length then some none else σ[i]?
  | [] => by simp [wipe]
  | v :: vs => by
    unfold wipe
    by_cases h : v = i
    · subst h
      by_cases hl : v < σ.length
      · rw [List.getElem?_set_self (by rw [wipe_length]; exact hl), if_pos ⟨List.mem_cons_self, hl⟩]
      · rw [List.getElem?_eq_none (by rw [List.length_set, wipe_length]; omega), if_neg (fun z => hl z.2), List.getElem?_eq_none (by omega)]
    · rw [List.getElem?_set_ne h, wipe_get σ i vs]
      by_cases q : i ∈ vs ∧ i < σ.length
      · rw [if_pos q, if_pos ⟨List.mem_cons_of_mem _ q.1, q.2⟩]
      · rw [if_neg q, if_neg (fun z => q ⟨(List.mem_cons.mp z.1).resolve_left (fun e => h e.symm), z.2⟩)]
theorem restore_len (env old : Fram) : ∀ vs : List Nat, (restore env old vs).length = env.length
  | [] => rfl
  | v :: vs => by unfold restore; rw [List.length_set, restore_len env old vs]
theorem restore_get (env old : Fram) (i : Nat) : ∀ vs : List Nat, (restore env old vs)[i]? = if i ∈ vs ∧ i < env.length then some (old[i]?.getD .non) else env[i]?
  | [] => by simp [restore]
  | v :: vs => by
    unfold restore
    by_cases h : v = i
    · subst h
      by_cases hl : v < env.length
      · rw [List.getElem?_set_self (by rw [restore_len]; exact hl), if_pos ⟨List.mem_cons_self, hl⟩]
      · rw [List.getElem?_eq_none (by rw [List.length_set, restore_len]; omega), if_neg (fun z => hl z.2), List.getElem?_eq_none (by omega)]
    · rw [List.getElem?_set_ne h, restore_get env old i vs]
      by_cases q : i ∈ vs ∧ i < env.length
      · rw [if_pos q, if_pos ⟨List.mem_cons_of_mem _ q.1, q.2⟩]
      · rw [if_neg q, if_neg (fun z => q ⟨(List.mem_cons.mp z.1).resolve_left (fun e => h e.symm), z.2⟩)]
theorem wipe_same {σ σ2 : L2.St} {vs is : List Nat} (hl : σ2.length = σ.length) (h : ∀ i, i ∉ is → σ2[i]? = (wipe σ vs)[i]?) (hs : ∀ i ∈ is, i ∈ vs) : wipe σ2 vs = wipe σ vs := by
  refine List.ext_getElem? fun i => ?_
  rw [wipe_get, wipe_get]
  by_cases q : i ∈ vs
  · rw [hl]
    by_cases ql : i < σ.length
    · rw [if_pos ⟨q, ql⟩, if_pos ⟨q, ql⟩]
    · rw [if_neg (fun z => ql z.2), if_neg (fun z => ql z.2), List.getElem?_eq_none (by omega), List.getElem?_eq_none (by omega)]
  · rw [if_neg (fun z => q z.1), if_neg (fun z => q z.1), h i (fun z => q (hs i z)), wipe_get, if_neg (fun z => q z.1)]
variable {K : PySem.W.Frag} {H H' H1 : Hp} {P0 P1 P : Pa} {env env' env1 envi : Fram} {σ : L2.St} {vs : List Nat}
theorem OwnA.wiped {a : Addr} (h : OwnA (wipeF env vs) (wipe σ vs) a) : OwnA env σ a := by
  obtain ⟨i, d, h1, h2⟩ := h
  rw [wipeF_get] at h1
  rw [wipe_get] at h2
  by_cases q : i ∈ vs
  · by_cases ql : i < env.length
    · rw [if_pos ⟨q, ql⟩] at h1
      cases h1
    · rw [if_neg (fun z => ql z.2), List.getElem?_eq_none (by omega)] at h1
      cases h1
  · rw [if_neg (fun z => q z.1)] at h1 h2
    exact ⟨i, d, h1, h2⟩
theorem RE.wipe (r : RE K P0 env σ H) (vs : List Nat) : RE K P0 (wipeF env vs) (L2.wipe σ vs) H := by
  have m : ∀ a, Stb P0 env σ a → Stb P0 (wipeF env vs) (L2.wipe σ vs) a := fun a z => ⟨z.1, fun w => z.2 w.wiped⟩
  have at_ : ∀ {i : Nat} {s : Slot}, s ≠ .non → (wipeF env vs)[i]? = some s → env[i]? = some s ∧ (L2.wipe σ vs)[i]? = σ[i]? := fun {i s} hs h => by
    rw [wipeF_get] at h
    by_cases q : i ∈ vs
    · by_cases ql : i < env.length
      · rw [if_pos ⟨q, ql⟩] at h
        cases h
        exact absurd rfl hs
      · rw [if_neg (fun z => ql z.2), List.getElem?_eq_none (by omega)] at h
        cases h
    · rw [if_neg (fun z => q z.1)] at h
      refine ⟨h, ?_⟩
      rw [wipe_get, if_neg (fun z => q z.1)]
  refine ⟨by rw [wipe_length, wipeF_len, r.len], fun i d h => ?_, fun i d h => ?_, fun i j d e a h1 h2 h3 h4 => ?_, r.new, fun i d a h0 h1 h2 => ?_⟩
  · obtain ⟨h1, h2⟩ := at_ (by intro z; cases z) h
    obtain ⟨v, h3, h4⟩ := r.val i d h1
    exact ⟨v, by rw [h2]; exact h3, h4.mono m⟩
  · obtain ⟨h1, h2⟩ := at_ (by intro z; cases z) h
    obtain ⟨v, h3, h4⟩ := r.own i d h1
    exact ⟨v, by rw [h2]; exact h3, h4.mono m⟩
  · obtain ⟨h1, e1⟩ := at_ (by intro z; cases z) h1
    obtain ⟨h2, e2⟩ := at_ (by intro z; cases z) h2
    rw [e1] at h3
    rw [e2] at h4
    exact r.inj i j d e a h1 h2 h3 h4
  · obtain ⟨h1, e1⟩ := at_ (by intro z; cases z) h1
    rw [e1] at h2
    exact r.pos i d a h0 h1 h2
theorem wipeF_not (env : Fram) (vs : List Nat) : ∀ v ∈ vs, isOwn (wipeF env vs) v = false := fun v hv => by
  unfold isOwn
  rw [wipeF_get]
  by_cases hl : v < env.length
  · rw [if_pos ⟨hv, hl⟩]
  · rw [if_neg (fun z => hl z.2), List.getElem?_eq_none (by omega)]
/-- P1 is less -/
theorem RE.weaken (r : RE K P1 env σ H) (m : ∀ a, P1 a → P0 a) : RE K P0 env σ H :=
  have m' : ∀ a, Stb P1 env σ a → Stb P0 env σ a := fun a z => ⟨m a z.1, z.2⟩
  ⟨r.len, fun i d h => let ⟨v, h1, h2⟩ := r.val i d h; ⟨v, h1, h2.mono m'⟩, fun i d h => let ⟨v, h1, h2⟩ := r.own i d h; ⟨v, h1, h2.mono m'⟩, r.inj, fun b h => m b (r.new b h), fun i d a h0 h1 h2 => m a (r.pos i d a h0 h1 h2)⟩
/-- a list that is not the frame's is changed -/
theorem RE.touch {b : Addr} {o o' : HO} (r : RE K P0 env σ H) (hp : ¬ P0 b) (hb : H b = some o) (ht : tupO o = false) (ho : ¬ OwnA env σ b) : RE K P0 env σ (upd H b o') := by
  have k : Keep (Stb P0 env σ) H (upd H b o') := fun a u e h => by
    rw [upd_ne]
    · exact e
    · rintro rfl
      rcases h with h | h
      · exact hp h.1
      · rw [hb] at e
        cases e
        rw [ht] at h
        cases h
  refine ⟨r.len, fun i d h => let ⟨v, h1, h2⟩ := r.val i d h; ⟨v, h1, h2.keep k fun _ z => z⟩, fun i d h => ?_, r.inj, fun c h => ?_, r.pos⟩
  · obtain ⟨a, h1, h2⟩ := r.own i d h
    refine ⟨a, h1, h2.keep (fun xs z _ => ?_) k fun _ z => z⟩
    rw [upd_ne]
    · exact z
    · rintro rfl
      exact ho ⟨i, d, h, h1⟩
  · by_cases e : c = b
    · subst e
      rw [upd_same] at h
      cases h
    · rw [upd_ne e] at h
      exact r.new c h
theorem own_restore (hv : ∀ v ∈ vs, isOwn env1 v = false) {a : Addr} (h : OwnA (restore envi env1 vs) σ a) : OwnA envi (L2.wipe σ vs) a := by
  obtain ⟨i, d, h1, h2⟩ := h
  rw [restore_get] at h1
  by_cases q : i ∈ vs
  · by_cases ql : i < envi.length
    · rw [if_pos ⟨q, ql⟩] at h1
      exfalso
      have := hv i q
      unfold isOwn at this
      cases e : env1[i]? with
      | none =>
        rw [e] at h1
        cases h1
      | some s =>
        rw [e] at h1 this
        cases s with
        | own d' => cases this
        | _ => cases h1
    · rw [if_neg (fun z => ql z.2), List.getElem?_eq_none (by omega)] at h1
      cases h1
  · rw [if_neg (fun z => q z.1)] at h1
    exact ⟨i, d, h1, by rw [wipe_get, if_neg (fun z => q z.1)]; exact h2⟩
/-- the slots as they were -/
theorem RE.restore (ri : RE K P0 envi (L2.wipe σ vs) H) (hv : ∀ v ∈ vs, isOwn env1 v = false) (hw : ∀ v ∈ vs, isOwn envi v = false) (hl : σ.length = env1.length)
    (old : ∀ (i : Nat) (d : D), env1[i]? = some (.val d) → ∃ v, σ[i]? = some (some v) ∧ RP K H (Stb P0 (PV.restore envi env1 vs) σ) v d) : RE K P0 (PV.restore envi env1 vs) σ H := by
  have lenI : envi.length = σ.length := by rw [← ri.len, wipe_length]
  have m : ∀ a, Stb P0 envi (L2.wipe σ vs) a → Stb P0 (PV.restore envi env1 vs) σ a := fun a z => ⟨z.1, fun w => z.2 (own_restore hv w)⟩
  have notv : ∀ {i : Nat} {d : D}, (PV.restore envi env1 vs)[i]? = some (.own d) → envi[i]? = some (.own d) ∧ (L2.wipe σ vs)[i]? = σ[i]? := fun {i d} h => by
    rw [restore_get] at h
    by_cases q : i ∈ vs
    · by_cases ql : i < envi.length
      · rw [if_pos ⟨q, ql⟩] at h
        exfalso
        have := hv i q
        unfold isOwn at this
        cases e : env1[i]? with
        | none =>
          rw [e] at h
          cases h
        | some s =>
          rw [e] at h this
          cases s with
          | own d' => cases this
          | _ => cases h
      · rw [if_neg (fun z => ql z.2), List.getElem?_eq_none (by omega)] at h
        cases h
    · rw [if_neg (fun z => q z.1)] at h
      exact ⟨h, by rw [wipe_get, if_neg (fun z => q z.1)]⟩
  refine ⟨by rw [restore_len, lenI], fun i d h => ?_, fun i d h => ?_, fun i j d e a h1 h2 h3 h4 => ?_, ri.new, fun i d a h0 h1 h2 => ?_⟩
  · rw [restore_get] at h
    by_cases q : i ∈ vs
    · by_cases ql : i < envi.length
      · rw [if_pos ⟨q, ql⟩] at h
        cases e : env1[i]? with
        | none =>
          rw [e] at h
          cases h
        | some s =>
          rw [e] at h
          cases h
          exact old i d e
      · rw [if_neg (fun z => ql z.2), List.getElem?_eq_none (by omega)] at h
        cases h
    · rw [if_neg (fun z => q z.1)] at h
      obtain ⟨v, h1, h2⟩ := ri.val i d h
      rw [wipe_get, if_neg (fun z => q z.1)] at h1
      exact ⟨v, h1, h2.mono m⟩
  · obtain ⟨h1, e1⟩ := notv h
    obtain ⟨a, h2, h3⟩ := ri.own i d h1
    exact ⟨a, by rw [← e1]; exact h2, h3.mono m⟩
  · obtain ⟨h1, e1⟩ := notv h1
    obtain ⟨h2, e2⟩ := notv h2
    rw [← e1] at h3
    rw [← e2] at h4
    exact ri.inj i j d e a h1 h2 h3 h4
  · obtain ⟨h1, e1⟩ := notv h1
    rw [← e1] at h2
    exact ri.pos i d a h0 h1 h2
theorem post_noExc {A : Type} {r : Res A} {k : A → Prop} {x x' : Exc → Fram → Prop} (h : Post (noExc r) k x) : Post r k x' := by
  cases r with
  | ok a => exact h
  | _ => exact h.elim
end
def tTs (Ph : CallF) (K : PySem.W.Frag) (W : WZ) (cs : Exs) : TT := fun σ H Q => ∃ (P0 : Pa) (env : Fram), RE K P0 env σ H ∧
  Post (evTests Ph cs env) (fun p => ∀ H', Aft K P0 env σ H p.2 H' → Q p.1 H') (XP K W P0 env σ H)
section
variable {K : PySem.W.Frag} {W : WZ} {Ph : CallF} {σ : L2.St} {H : Hp} {Q : VK}
theorem ent_tests0 {Q : Bool → Hp → Prop} (h : tTs Ph K W .nil σ H Q) : tYes σ H Q := by
  obtain ⟨P0, env, r, h⟩ := h
  unfold evTests at h
  exact h H (Aft.refl r)
theorem ent_tests1 {c : Exp} {Q : Bool → Hp → Prop} (h : tTs Ph K W (.cons c .nil) σ H Q) : tT Ph K W c σ H Q := by
  obtain ⟨P0, env, r, h⟩ := h
  unfold evTests at h
  refine tT_of r (post_bind.mp h) fun d env1 q => ?_
  cases d with
  | bool b =>
    refine ⟨b, rfl, fun H1 a1 => ?_⟩
    cases b with
    | true =>
      have q : Post (evTests Ph .nil env1) (fun p => ∀ H', Aft K P0 env σ H p.2 H' → Q p.1 H') (XP K W P0 env σ H) := q
      unfold evTests at q
      exact q H1 a1
    | false => exact q H1 a1
  | _ => exact q.elim
theorem PTs.imp {X : Cx} {ifs : List Expr} {t t' : TT} (h : PTs X ifs t) (m : ∀ σ H Q, t' σ H Q → t σ H Q) : PTs X ifs t' := ⟨fun pins s σ H Q I q => h.run pins s σ H Q I (m σ H Q q)⟩
/-- a turn of the comprehension -/
def compTurn (Ph : CallF) (elt : Exp) (tg : Tg) (cs : Exs) (vs : List Nat) : D → Fram → Res (Option D × Fram) := fun x e => noExc ((opt (store tg x e)).bind fun e1 => (evTests Ph cs e1).bind fun q => match q.1 with
      | true => (ev Ph elt q.2).bind fun r => .ok (some r.1, wipeF r.2 vs)
      | false => .ok (none, wipeF q.2 vs))
theorem ent_lc {elt : Exp} {tg : Tg} {it : Itx} {cs : Exs} {own : List (Str × Nat)} (ht : ∀ i ∈ tgSlots tg, i ∈ own.map (·.2)) (h : tG Ph K W (.comp elt tg it cs own) σ H Q) :
    tLc (tI Ph K W it) (tTg K tg) (tTs Ph K W cs) (tE Ph K W elt) (own.map (·.2)) σ H Q := by
  obtain ⟨P0, env, r, h⟩ := h
  unfold ev at h
  refine ⟨P0, env, r, (post_bind.mp h).imp (fun p q J H1 a1 io D nD => ?_) fun _ _ x => x⟩
  clear h
  obtain ⟨xs, env1⟩ := p
  generalize hvs : own.map (·.2) = vs at *
  have q : Post (if ((vs.all fun v => !isOwn env1 v) && decide (xs.length ≤ LINE)) = true then (compLoop (compTurn Ph elt tg cs vs) xs [] (wipeF env1 vs)).bind fun r => Res.ok (PyData.list r.1, restore r.2 env1 vs) else .bad)
    (fun p => ∀ v H', Aft K P0 env σ H p.2 H' → RP K H' (Stb P0 p.2 σ) v p.1 → Frs K P0 p.2 σ H H' v p.1 → Q v H') (XP K W P0 env σ H) := q
  have hc : ((vs.all fun v => !isOwn env1 v) && decide (xs.length ≤ LINE)) = true := by
    cases e : ((vs.all fun v => !isOwn env1 v) && decide (xs.length ≤ LINE)) with
    | true => rfl
    | false =>
      rw [e, if_neg Bool.false_ne_true] at q
      exact q.elim
  rw [if_pos hc] at q
  have q := post_bind.mp q
  simp only [Bool.and_eq_true, List.all_eq_true, Bool.not_eq_true', decide_eq_true_eq] at hc
  obtain ⟨hown, hlen⟩ := hc
  have io : ItOk K (Stb P0 env1 σ) H1 J xs := io
  have a1 : Aft K P0 env σ H env1 H1 := a1
  have noD : ∀ {e : Fram} {s : L2.St}, (∀ a, OwnA e s a → OwnA env1 σ a) → ¬ OwnA e s D := fun {e s} m z => by
    obtain ⟨ys, e', _⟩ := a1.re.ownAt (m D z)
    rw [nD] at e'
    cases e'
  -- the invariant
  let P1 : Pa := fun a => P0 a ∧ a ≠ D
  let Pv : Nat → Hp → Prop := fun i Hc => ∃ (acc : List PyData) (ws : List V) (envi : Fram), Hc D = some (.lst ws) ∧ acc.length ≤ i ∧ RPs K Hc (Stb P1 envi (wipe σ vs)) ws acc ∧ RE K P1 envi (wipe σ vs) Hc ∧ (∀ v ∈ vs, isOwn envi v = false) ∧
    (∀ a, OwnA envi (wipe σ vs) a → OwnA env1 σ a) ∧ KeepO env1 σ H1 Hc ∧ (∀ a, Hc a = none → H1 a = none) ∧
    Post (compLoop (compTurn Ph elt tg cs vs) (xs.drop i) acc envi) (fun r => ∀ v H', Aft K P0 env σ H (restore r.2 env1 vs) H' → RP K H' (Stb P0 (restore r.2 env1 vs) σ) v (.list r.1) → Frs K P0 (restore r.2 env1 vs) σ H H' v (.list r.1) → Q v H') (XP K W P0 env σ H)
  refine ⟨fun i m Hc => m = xs.length - i ∧ i ≤ xs.length ∧ Pv i Hc, ⟨_, rfl, Nat.zero_le _, [], [], wipeF env1 vs, upd_same, Nat.le_refl _, .nil, (a1.re.fresh nD).wipe vs, wipeF_not _ _, fun a z => z.wiped, fun a o e _ => upd_all nD a o e, fun a e => none_grow (upd_all nD) a e, ?_⟩, ?_⟩
  · rw [List.drop_zero]
    exact q
  · rintro i m Hc ⟨rfl, hi, acc, ws, envi, hD, hacc, rs, ri, hw, less, ko, tr, q⟩
    have kp : Keep (Stb P0 env1 σ) H1 Hc := ko.keep a1.re
    by_cases hlt : i < xs.length
    · refine .inr ⟨io.go i Hc kp hlt, Pv (i + 1), fun H' p' => ⟨_, by omega, rfl, hlt, p'⟩, fun x H' hy => ?_⟩
      obtain ⟨grow, rx⟩ := io.yld i Hc x H' xs[i] kp (by simp) hy
      rw [List.drop_eq_getElem_cons hlt] at q
      unfold compLoop at q
      have q := post_bind.mp q
      unfold compTurn at q
      have q := post_noExc (x' := fun _ _ => False) q
      obtain ⟨env2, es, q⟩ := post_opt.mp (post_bind.mp q)
      have rx2 : RP K H' (Stb P1 envi (wipe σ vs)) x xs[i] := rx.mono fun a z => ⟨⟨z.1.1, fun e => z.2 (by rw [e]; exact nD)⟩, fun w => z.1.2 (less a w)⟩
      refine ⟨P1, envi, xs[i], env2, ri.grow grow, rx2, es, fun σ2 sto => ⟨?_, ?_⟩⟩
      · exact wipe_same (by rw [sto.len, wipe_length]) sto.same ht
      have ws2 : wipe σ2 vs = wipe σ vs := wipe_same (by rw [sto.len, wipe_length]) sto.same ht
      have less2 : ∀ a, OwnA env2 σ2 a → OwnA env1 σ a := fun a z => less a ((sto.own a).mp z)
      have kb : Keep (Stb P1 envi (wipe σ vs)) Hc H' := Keep.all grow
      have mb : ∀ a, Stb P1 envi (wipe σ vs) a → Stb P1 env2 σ2 a := fun a z => ⟨z.1, fun w => z.2 ((sto.own a).mp w)⟩
      refine ⟨P1, env2, sto.re, (post_bind.mp q).imp (fun p q => ?_) fun z e x H4 a4 => ?_⟩
      · obtain ⟨b, env3⟩ := p
        intro H3 a3
        have a3 : Aft K P1 env2 σ2 H' env3 H3 := a3
        have less3 : ∀ a, OwnA env3 σ2 a → OwnA env1 σ a := fun a z => less2 a (a3.less a z)
        have hD3 : H3 D = some (.lst ws) := a3.ko D _ (grow D _ hD) (noD less2)
        have rs3 : RPs K H3 (Stb P1 env3 σ2) ws acc := a3.rps sto.re (rs.keep kb mb)
        have ko3 : KeepO env1 σ H1 H3 := fun a o e n => a3.ko a o (grow a o (ko a o e n)) fun z => n (less2 a z)
        have tr3 : ∀ a, H3 a = none → H1 a = none := fun a e => tr a (none_grow grow a (a3.tr a e))
        cases b with
        | false =>
          have q : Post (compLoop (compTurn Ph elt tg cs vs) (xs.drop (i + 1)) acc (wipeF env3 vs)) _ _ := q
          refine ⟨acc, ws, wipeF env3 vs, hD3, by omega, ?_, ?_, wipeF_not _ _, fun a z => ?_, ko3, tr3, q⟩
          · rw [← ws2]
            exact rs3.mono fun a z => ⟨z.1, fun w => z.2 w.wiped⟩
          · rw [← ws2]
            exact a3.re.wipe vs
          · rw [← ws2] at z
            exact less3 a z.wiped
        | true =>
          have q : Post ((ev Ph elt env3).bind fun r => Res.ok (some r.1, wipeF r.2 vs)) _ _ := q
          refine ⟨P1, env3, a3.re, (post_bind.mp q).imp (fun p q => ?_) fun z e x H4 a4 => ?_⟩
          · obtain ⟨dy, env4⟩ := p
            intro y H4 a4 ry
            have a4 : Aft K P1 env3 σ2 H3 env4 H4 := a4
            have less4 : ∀ a, OwnA env4 σ2 a → OwnA env1 σ a := fun a z => less3 a (a4.less a z)
            have hD4 : H4 D = some (.lst ws) := a4.ko D _ hD3 (noD less3)
            have rs4 : RPs K H4 (Stb P1 env4 σ2) ws acc := a4.rps a3.re rs3
            have q : Post (compLoop (compTurn Ph elt tg cs vs) (xs.drop (i + 1)) (acc ++ [dy]) (wipeF env4 vs)) _ _ := q
            have lw := rs.length
            have kd : Keep (Stb P1 env4 σ2) H4 (upd H4 D (.lst (ws ++ [y]))) := fun a u e h => by
              rw [upd_ne]
              · exact e
              · rintro rfl
                rcases h with h | h
                · exact h.1.2 rfl
                · rw [hD4] at e
                  cases e
                  cases h
            have keepD : ∀ a o, a ≠ D → H4 a = some o → upd H4 D (.lst (ws ++ [y])) a = some o := fun a o n e => by
              rw [upd_ne n]
              exact e
            refine ⟨ws, hD4, by rw [sizeLine_eq]; have : LINE = 16777216 := rfl; omega, acc ++ [dy], ws ++ [y], wipeF env4 vs, upd_same, by simp; omega, ?_, ?_, wipeF_not _ _, fun a z => ?_, fun a o e n => ?_, fun a e => ?_, q⟩
            · rw [← ws2]
              exact ((rs4.append (.cons ry .nil)).keep kd fun _ z => z).mono fun a z => ⟨z.1, fun w => z.2 w.wiped⟩
            · rw [← ws2]
              exact (a4.re.touch (fun z => z.2 rfl) hD4 rfl (noD less4)).wipe vs
            · rw [← ws2] at z
              exact less4 a z.wiped
            · refine keepD a o ?_ (a4.ko a o (ko3 a o e n) fun z => n (less3 a z))
              rintro rfl
              rw [nD] at e
              cases e
            · refine tr3 a (a4.tr a ?_)
              by_cases n : a = D
              · subst n
                rw [upd_same] at e
                cases e
              · rw [upd_ne n] at e
                exact e
          · exact x.elim
      · exact x.elim
    · have e : i = xs.length := by omega
      subst e
      refine .inl ⟨io.stop Hc kp, ?_⟩
      rw [List.drop_length] at q
      unfold compLoop at q
      have q : ∀ v H', Aft K P0 env σ H (restore envi env1 vs) H' → RP K H' (Stb P0 (restore envi env1 vs) σ) v (.list acc) → Frs K P0 (restore envi env1 vs) σ H H' v (.list acc) → Q v H' := q
      have lr : ∀ a, OwnA (restore envi env1 vs) σ a → OwnA env1 σ a := fun a z => less a (own_restore hown z)
      have re1 : RE K P1 (restore envi env1 vs) σ Hc := by
        refine ri.restore hown hw a1.re.len fun i d e => ?_
        obtain ⟨v, h1, h2⟩ := a1.re.val i d e
        refine ⟨v, h1, (h2.avoid nD).keep (fun a o e h => ?_) fun a z => ?_⟩
        · exact kp a o e (h.imp_left fun z => z.1)
        · exact ⟨⟨z.1.1, z.2⟩, fun w => z.1.2 (lr a w)⟩
      have re0 : RE K P0 (restore envi env1 vs) σ Hc := re1.weaken fun a z => z.1
      have aft : Aft K P0 env σ H (restore envi env1 vs) Hc := ⟨re0, a1.ko.trans ko a1.less, fun a z => a1.less a (lr a z), fun a e => a1.tr a (tr a e)⟩
      have rs' : RPs K Hc (Stb P1 (restore envi env1 vs) σ) ws acc := rs.mono fun a z => ⟨z.1, fun w => z.2 (own_restore hown w)⟩
      refine q (.ref D) Hc aft (.lst ⟨a1.re.new D nD, noD lr⟩ (.inl hD) (rs'.mono fun a z => ⟨z.1.1, z.2⟩)) fun _ => ⟨D, rfl, a1.tr D nD, re1, .lst hD rs'⟩
end
end PV
set_option Elab.async false
set_option linter.all false
set_option maxRecDepth 100000
set_option maxHeartbeats 2000000
/-! PV, part K: which text an expression stands for; soundness. -/
namespace PV
open PySem PySem.Spec PyProof.Rows L2
variable [Wd]
/-- what is known of a text ahead of its run: the slots' names, the defs by the names they are called by, constants, builtins that are left as they are -/
structure Mt where
  N : List Str
  fns : List (Str × Def)
  con : List (Str × D)
  blt : List Str
  gcd : Bool
  kw : List (Str × Nat × List Str × List Nat)
mutual
def dEq : D → D → Bool
  | .none, .none => true
  | .bool a, .bool b => a == b
  | .int a, .int b => a == b
  | .str a, .str b => a == b
  | .list a, .list b => dEqs a b
  | .tuple a, .tuple b => dEqs a b
  | _, _ => false
def dEqs : List D → List D → Bool
  | [], [] => true
  | x :: xs, y :: ys => dEq x y && dEqs xs ys
  | _, _ => false
end
mutual
theorem dEq_eq : ∀ {a b : D}, dEq a b = true → a = b
  | .none, b, h => by cases b <;> simp_all [dEq]
  | .bool x, b, h => by cases b <;> simp_all [dEq]
  | .int x, b, h => by cases b <;> simp_all [dEq]
  | .str x, b, h => by cases b <;> simp_all [dEq]
  | .list x, b, h => by
    cases b <;> simp [dEq] at h
    rw [dEqs_eq h]
  | .tuple x, b, h => by
    cases b <;> simp [dEq] at h
    rw [dEqs_eq h]
  | .dict x, b, h => by cases b <;> simp_all [dEq]
theorem dEqs_eq : ∀ {a b : List D}, dEqs a b = true → a = b
  | [], b, h => by cases b <;> simp_all [dEqs]
  | x :: xs, b, h => by
    cases b with
    | nil => simp [dEqs] at h
    | cons y ys =>
      simp only [dEqs, Bool.and_eq_true] at h
      rw [dEq_eq h.1, dEqs_eq h.2]
end
def visB (sc : Scope) (x : Str) : Bool := match sc.names.lookup x with
  | some .local => true
  | some .cell => true
  | some .free => true
  | _ => false
def glB (sc : Scope) (x : Str) : Bool := match sc.names.lookup x with
  | some .globalImplicit => true
  | _ => false
def sayD (x : Str) : Bool := (x == ("__debug__" : Str)) || (x == ("__classdict__" : Str)) || decide (x = "__name__")
def bopO : Bop → Operator
  | .add => .Add
  | .sub => .Sub
  | .mul => .Mult
  | .fdiv => .FloorDiv
  | .mod => .Mod
  | .pow => .Pow
  | .shr => .RShift
  | .shl => .LShift
  | .band => .BitAnd
def copO : Cop → CmpOp
  | .eq => .Eq
  | .ne => .NotEq
  | .lt => .Lt
  | .le => .LtE
  | .gt => .Gt
  | .ge => .GtE
  | .isN => .Is
  | .notN => .IsNot
  | .inn => .In
  | .notin => .NotIn
def bltName : Blt → Option (Str × Value)
  | .len => some ("len", .builtin "len")
  | .abs => some ("abs", .builtin "abs")
  | .max2 => some ("max", .builtin "max")
  | .min2 => some ("min", .builtin "min")
  | .int1 => some ("int", .type "int")
  | .str1 => some ("str", .type "str")
  | .repr => some ("repr", .builtin "repr")
  | .all => some ("all", .builtin "all")
  | .any => some ("any", .builtin "any")
  | .sum => some ("sum", .builtin "sum")
  | .divmod => some ("divmod", .builtin "divmod")
  | .tuple => some ("tuple", .type "tuple")
  | .list => some ("list", .type "list")
  | .sorted => some ("sorted", .builtin "sorted")
  | _ => none
def tyStr : Ty → Str
  | .int => "int"
  | .bool => "bool"
  | .str => "str"
  | .tuple => "tuple"
  | .list => "list"
  | .dict => "dict"
def notStar : Expr → Bool
  | .Starred _ _ => false
  | _ => true
def notSet : Expr → Bool
  | .Set _ _ _ => false
  | _ => true
def notSlice : Expr → Bool
  | .Slice _ _ _ _ => false
  | _ => true
def isTup : Expr → Bool
  | .Tuple _ _ _ => true
  | _ => false
/-! views of a text -/
def vName : Expr → Option Str
  | .Name x _ => some x
  | _ => none
def vConst : Expr → Option Const
  | .Constant c _ _ => some c
  | _ => none
def vTup : Expr → Option (List Expr)
  | .Tuple xs _ _ => some xs
  | _ => none
def isDict0 : Expr → Bool
  | .Dict [] [] _ => true
  | _ => false
theorem isDict0_s {x : Expr} (h : isDict0 x = true) : ∃ p, x = .Dict [] [] p := by
  unfold isDict0 at h
  split at h
  · exact ⟨_, rfl⟩
  · cases h
def vLst : Expr → Option (List Expr)
  | .List xs _ => some xs
  | _ => none
def vBin : Expr → Option (Expr × Operator × Expr)
  | .BinOp x o y _ => some (x, o, y)
  | _ => none
def vUn : Expr → Option (UnaryOp × Expr)
  | .UnaryOp o x _ => some (o, x)
  | _ => none
def vBool : Expr → Option (BoolOp × List Expr)
  | .BoolOp o xs _ => some (o, xs)
  | _ => none
def vCmp1 : Expr → Option (Expr × CmpOp × Expr)
  | .Compare x [o] [y] _ => some (x, o, y)
  | _ => none
def vCmp2 : Expr → Option (Expr × CmpOp × Expr × CmpOp × Expr)
  | .Compare x [o, o'] [y, z] _ => some (x, o, y, o', z)
  | _ => none
def vIf : Expr → Option (Expr × Expr × Expr)
  | .IfExp c a b _ => some (c, a, b)
  | _ => none
def vIdx : Expr → Option (Expr × Expr)
  | .Subscript x y _ => some (x, y)
  | _ => none
def vSl : Expr → Option (Expr × Option Expr × Option Expr)
  | .Subscript x (.Slice l h none _) _ => some (x, l, h)
  | _ => none
def vRev : Expr → Option Expr
  | .Subscript x (.Slice none none (some (.UnaryOp .USub (.Constant (.int 1) _ _) _)) _) _ => some x
  | _ => none
def vCall : Expr → Option (Str × List Expr)
  | .Call (.Name x _) ys [] _ => some (x, ys)
  | _ => none
def vCallK : Expr → Option (Str × List Expr × List Keyword)
  | .Call (.Name x _) ys ks _ => some (x, ys, ks)
  | _ => none
def vComp : Expr → Option (Expr × Expr × Expr × List Expr × Scope)
  | .ListComp e [⟨t, i, ifs, 0⟩] scope _ => some (e, t, i, ifs, scope)
  | _ => none
theorem vName_s {x : Expr} {n : Str} (h : vName x = some n) : ∃ p, x = .Name n p := by
  cases x <;> simp_all [vName]
theorem vConst_s {x : Expr} {n : Const} (h : vConst x = some n) : ∃ k p, x = .Constant n k p := by
  cases x <;> simp_all [vConst]
theorem vTup_s {x : Expr} {n : List Expr} (h : vTup x = some n) : ∃ k p, x = .Tuple n k p := by
  cases x <;> simp_all [vTup]
theorem vLst_s {x : Expr} {n : List Expr} (h : vLst x = some n) : ∃ p, x = .List n p := by
  cases x <;> simp_all [vLst]
theorem vBin_s {x a b : Expr} {o : Operator} (h : vBin x = some (a, o, b)) : ∃ p, x = .BinOp a o b p := by
  cases x <;> simp_all [vBin]
theorem vUn_s {x a : Expr} {o : UnaryOp} (h : vUn x = some (o, a)) : ∃ p, x = .UnaryOp o a p := by
  cases x <;> simp_all [vUn]
theorem vBool_s {x : Expr} {o : BoolOp} {a : List Expr} (h : vBool x = some (o, a)) : ∃ p, x = .BoolOp o a p := by
  cases x <;> simp_all [vBool]
theorem vCmp1_s {x a b : Expr} {o : CmpOp} (h : vCmp1 x = some (a, o, b)) : ∃ p, x = .Compare a [o] [b] p := by
  unfold vCmp1 at h
  split at h
  · cases h
    exact ⟨_, rfl⟩
  · cases h
theorem vCmp2_s {x a b c : Expr} {o o' : CmpOp} (h : vCmp2 x = some (a, o, b, o', c)) : ∃ p, x = .Compare a [o, o'] [b, c] p := by
  unfold vCmp2 at h
  split at h
  · cases h
    exact ⟨_, rfl⟩
  · cases h
theorem vIf_s {x a b c : Expr} (h : vIf x = some (c, a, b)) : ∃ p, x = .IfExp c a b p := by
  cases x <;> simp_all [vIf]
theorem vIdx_s {x a b : Expr} (h : vIdx x = some (a, b)) : ∃ p, x = .Subscript a b p := by
  cases x <;> simp_all [vIdx]
theorem vSl_s {x a : Expr} {l u : Option Expr} (h : vSl x = some (a, l, u)) : ∃ p p', x = .Subscript a (.Slice l u none p) p' := by
  unfold vSl at h
  split at h
  · cases h
    exact ⟨_, _, rfl⟩
  · cases h
theorem vRev_s {x a : Expr} (h : vRev x = some a) : ∃ k p1 p2 p3 p, x = .Subscript a (.Slice none none (some (.UnaryOp .USub (.Constant (.int 1) k p1) p2)) p3) p := by
  unfold vRev at h
  split at h
  · cases h
    exact ⟨_, _, _, _, _, rfl⟩
  · cases h
theorem vCall_s {x : Expr} {n : Str} {ys : List Expr} (h : vCall x = some (n, ys)) : ∃ p p', x = .Call (.Name n p) ys [] p' := by
  unfold vCall at h
  split at h
  · cases h
    exact ⟨_, _, rfl⟩
  · cases h
theorem vCallK_s {x : Expr} {n : Str} {ys : List Expr} {ks : List Keyword} (h : vCallK x = some (n, ys, ks)) : ∃ p p', x = .Call (.Name n p) ys ks p' := by
  unfold vCallK at h
  split at h
  · cases h
    exact ⟨_, _, rfl⟩
  · cases h
theorem vComp_s {x e t i : Expr} {ifs : List Expr} {scope : Scope} (h : vComp x = some (e, t, i, ifs, scope)) : ∃ p, x = .ListComp e [⟨t, i, ifs, 0⟩] scope p := by
  unfold vComp at h
  split at h
  · cases h
    exact ⟨_, rfl⟩
  · cases h
/-- an option, looked at -/
def see {A : Type} (o : Option A) (f : A → Bool) : Bool := match o with
  | some a => f a
  | none => false
theorem see_t {A : Type} {o : Option A} {f : A → Bool} (h : see o f = true) : ∃ a, o = some a ∧ f a = true := by
  cases o with
  | none => cases h
  | some a => exact ⟨a, rfl, h⟩
variable (M : Mt)
/-- a target -/
def locB (sc fs : Scope) (x : Str) : Bool := match sc.names.lookup x with
  | some .local => true
  | some .cell => decide (fs.names.lookup x = some .cell)
  | _ => false
mutual
def mG (sc fs : Scope) : Tg → Expr → Bool
  | .name i, x => see (vName x) fun x => decide (M.N[i]? = some x) && locB sc fs x
  | .tup ts, x => see (vTup x) fun xs => mGs sc fs ts xs
def mGs (sc fs : Scope) : List Tg → List Expr → Bool
  | [], xs => xs.isEmpty
  | t :: ts, xs => see xs.head? fun x => notStar x && mG sc fs t x && mGs sc fs ts xs.tail
end
def tgTup : Tg → Bool
  | .tup _ => true
  | _ => false
/-- a name of the builtins, as it stands -/
def bltB (sc : Scope) (x y : Str) : Bool := decide (x = y) && glB sc x && M.blt.contains x && !sayD x
def plainC : Cop → Bool
  | .isN => false
  | .notN => false
  | .inn => false
  | .notin => false
  | _ => true
mutual
def mE (sc fs : Scope) : Exp → Expr → Bool
  | .var i, x => see (vName x) fun x => decide (M.N[i]? = some x) && visB sc x && !sayD x
  | .int i, x => see (vConst x) fun c => decide (c = .int i)
  | .str s, x => see (vConst x) fun c => decide (c = .str s)
  | .bl b, x => see (vConst x) fun c => decide (c = .bool b)
  | .non, x => see (vConst x) fun c => decide (c = .none)
  | .glob x d, y => see (vName y) fun y => decide (x = y) && glB sc y && !sayD y && M.con.any fun p => decide (p.1 = y) && dEq p.2 d
  | .tup es, x => see (vTup x) fun xs => mEs sc fs es xs && decide (exsLen es ≤ 1000)
  | .lst es, x => see (vLst x) fun xs => mEs sc fs es xs && decide (exsLen es ≤ 1000)
  | .dict0, x => isDict0 x
  | .bin o a b, x => see (vBin x) fun p => decide (p.2.1 = bopO o) && mE sc fs a p.1 && mE sc fs b p.2.2
  | .neg a, x => see (vUn x) fun p => decide (p.1 = .USub) && mE sc fs a p.2
  | .nott a, x => see (vUn x) fun p => decide (p.1 = .Not) && mE sc fs a p.2
  | .conj es, x => see (vBool x) fun p => decide (p.1 = .And) && mEs sc fs es p.2 && !p.2.isEmpty
  | .disj es, x => see (vBool x) fun p => decide (p.1 = .Or) && mEs sc fs es p.2 && !p.2.isEmpty
  | .cmp o a b, x => see (vCmp1 x) fun p => decide (p.2.1 = copO o) && mE sc fs a p.1 && (match o with
      | .isN => decide (vConst p.2.2 = some .none)
      | .notN => decide (vConst p.2.2 = some .none)
      | .inn => mE sc fs b p.2.2 && notSet p.2.2
      | .notin => mE sc fs b p.2.2 && notSet p.2.2
      | _ => mE sc fs b p.2.2)
  | .cmp2 o o' a b c, x => see (vCmp2 x) fun p => decide (p.2.1 = copO o) && decide (p.2.2.2.1 = copO o') && plainC o && plainC o' && mE sc fs a p.1 && mE sc fs b p.2.2.1 && mE sc fs c p.2.2.2.2
  | .ite c a b, x => see (vIf x) fun p => mE sc fs c p.1 && mE sc fs a p.2.1 && mE sc fs b p.2.2
  | .idx a i, x => see (vIdx x) fun p => mE sc fs a p.1 && mE sc fs i p.2 && notSlice p.2
  | .slice a lo hi, x => see (vSl x) fun p => mE sc fs a p.1 && mO sc fs lo p.2.1 && mO sc fs hi p.2.2
  | .rev a, x => see (vRev x) fun y => mE sc fs a y
  | .call f br es, x => see (vCall x) fun p => (see (M.fns.lookup p.1) fun fn => decide (fn.name = f) && decide (fn.br = br) && !fn.fresh && decide (exsLen es = fn.params)) && mEs sc fs es p.2 && !p.2.isEmpty && glB sc p.1 && !sayD p.1
  | .callK f _ es kes ks perm, x => see (vCallK x) fun p => (see (M.fns.lookup p.1) fun fn => decide (fn.name = f) && !fn.br && !fn.fresh && decide (exsLen es + perm.length = fn.params)) && mEs sc fs es p.2.1 && mEs sc fs kes (p.2.2.map (·.value)) && decide (p.2.2.map (·.arg) = ks.map some) &&
      (M.kw.any fun q => decide (q = (p.1, exsLen es, ks, perm))) && (perm.all fun i => decide (i < ks.length)) && glB sc p.1 && !sayD p.1
  | .callJ f g es, x => see (vCall x) fun p => see p.2.head? fun y => see (vCall y) fun q => p.2.tail.isEmpty && (see (M.fns.lookup p.1) fun fn => see (M.fns.lookup q.1) fun gn => decide (fn.name = f) && decide (gn.name = g) && fn.br && !fn.fresh && decide (fn.params = 1) && !gn.br && gn.fresh && decide (exsLen es = gn.params)) &&
      mEs sc fs es q.2 && !q.2.isEmpty && glB sc p.1 && !sayD p.1 && glB sc q.1 && !sayD q.1
  | .blt b es, x => (match b with
    | .sortset => see (vCall x) fun p => see p.2.head? fun y => see (vCall y) fun q => p.2.tail.isEmpty && bltB M sc p.1 "sorted" && bltB M sc q.1 "set" && decide (exsLen es = 1) && mEs sc fs es q.2
    | .rangel => see (vCall x) fun p => see p.2.head? fun y => see (vCall y) fun q => p.2.tail.isEmpty && bltB M sc p.1 "list" && bltB M sc q.1 "range" && decide (exsLen es = 1) && mEs sc fs es q.2
    | .ranget => see (vCall x) fun p => see p.2.head? fun y => see (vCall y) fun q => p.2.tail.isEmpty && bltB M sc p.1 "tuple" && bltB M sc q.1 "range" && decide (exsLen es = 1) && mEs sc fs es q.2
    | .lenset => see (vCall x) fun p => see p.2.head? fun y => see (vCall y) fun q => p.2.tail.isEmpty && bltB M sc p.1 "len" && bltB M sc q.1 "set" && decide (exsLen es = 1) && mEs sc fs es q.2
    | _ => see (vCall x) fun p => (match b with
      | .gcd => M.gcd && decide (p.1 = "gcd") && glB sc p.1
      | _ => see (bltName b) fun q => bltB M sc p.1 q.1) && mEs sc fs es p.2 && !p.2.isEmpty)
  | .isi a t, x => see (vCall x) fun p => see p.2.head? fun y => see p.2.tail.head? fun z => see (vName z) fun z => p.2.tail.tail.isEmpty && bltB M sc p.1 "isinstance" && bltB M sc z (tyStr t) && mE sc fs a y && notStar y
  | .meth _ _ _, _ => false
  | .pop _, _ => false
  | .popAt _ _, _ => false
  | .comp elt tg it cs own, x => see (vComp x) fun p => mI sc fs it p.2.2.1 && (match it with
      | .zip _ _ => isTup p.2.1
      | .enum _ => isTup p.2.1
      | _ => true) && notSet p.2.2.1 && blkC M.N sc p.2.2.2.2 own && mG M (relS p.2.2.2.2 sc) p.2.2.2.2 tg p.2.1 && mE (relS p.2.2.2.2 sc) p.2.2.2.2 elt p.1 &&
      mT (relS p.2.2.2.2 sc) p.2.2.2.2 cs p.2.2.2.1 && (tgSlots tg).all fun v => decide (v ∈ own.map (·.2))
def mEs (sc fs : Scope) : Exs → List Expr → Bool
  | .nil, xs => xs.isEmpty
  | .cons e es, xs => see xs.head? fun x => mE sc fs e x && notStar x && mEs sc fs es xs.tail
/-- tests of a comprehension: one at most -/
def mT (sc fs : Scope) : Exs → List Expr → Bool
  | .nil, xs => xs.isEmpty
  | .cons e es, xs => see xs.head? fun x => mE sc fs e x && xs.tail.isEmpty && decide (exsLen es = 0)
def mO (sc fs : Scope) : Exo → Option Expr → Bool
  | .non, x => x.isNone
  | .som e, x => see x fun x => mE sc fs e x
def mI (sc fs : Scope) : Itx → Expr → Bool
  | .seq e, x => mE sc fs e x
  | .range1 e, x => see (vCall x) fun p => see p.2.head? fun y => p.2.tail.isEmpty && bltB M sc p.1 "range" && mE sc fs e y && notStar y
  | .range2 a b, x => see (vCall x) fun p => see p.2.head? fun y => see p.2.tail.head? fun z => p.2.tail.tail.isEmpty && bltB M sc p.1 "range" && mE sc fs a y && notStar y && mE sc fs b z && notStar z
  | .enum a, x => see (vCall x) fun p => see p.2.head? fun y => p.2.tail.isEmpty && bltB M sc p.1 "enumerate" && mE sc fs a y && notStar y
  | .zip a b, x => see (vCall x) fun p => see p.2.head? fun y => see p.2.tail.head? fun z => p.2.tail.tail.isEmpty && bltB M sc p.1 "zip" && mE sc fs a y && notStar y && mE sc fs b z && notStar z
end
/-! ### soundness -/
structure GX (M : Mt) (Ph : CallF) (X : Cx) (sc fs : Scope) : Prop where
  nm : X.N = M.N
  nd : M.N.Nodup
  sc : X.env.scope = sc
  fn : ∀ x, fs.names.lookup x = some .cell → X.fn x = true
  calm : X.calm = true
  room : RoomX X
  con : ∀ p ∈ M.con, ∃ u v, X.mg p.1 = some u ∧ RelV v u ∧ ∀ H P, RP X.K H P v p.2
  blt : ∀ x ∈ M.blt, X.mg x = none
  gcd : M.gcd = true → X.mg "gcd" = some (.builtin "math.gcd")
  fns : ∀ x fn, M.fns.lookup x = some fn → ∃ k f fd ps, FnG X.prog X.w X.K X.mg X.base k f fd ps (spF Ph X.K fn) ∧ Room k X.A ∧ X.mg x = some (.ref f) ∧ PySem.W.keepIn X.K (.ref f) = true ∧ Binds X.K fd ps [] ∧ ∀ q ∈ M.kw, q.1 = x → KwB X.K fd ps q.2.1 q.2.2.1 q.2.2.2
structure SE (Ph : CallF) (W : WZ) (X : Cx) (ex : Exp) (x : Expr) : Prop where
  e : PE X x (tE Ph X.K W ex)
  g : makes ex = true → PE X x (tG Ph X.K W ex)
  o : PE X x (tO Ph X.K W ex)
  t : PT X x (tT Ph X.K W ex)
structure SEs (Ph : CallF) (W : WZ) (X : Cx) (e : Exs) (x : List Expr) : Prop where
  v : PA X x (tEs Ph X.K W e)
  o : PA X x (tOs Ph X.K W e)
section
variable {M : Mt} {Ph : CallF} {X : Cx} {sc fs : Scope}
theorem GX.gl (G : GX M Ph X sc fs) {x : Str} (h : glB sc x = true) : Gl X x := by
  unfold glB at h
  show X.env.scope.names.lookup x = _
  rw [G.sc]
  split at h
  · assumption
  · cases h
theorem GX.vis (G : GX M Ph X sc fs) {x : Str} (h : visB sc x = true) : Vis X.env.scope x := by
  unfold visB at h
  unfold Vis
  rw [G.sc]
  split at h
  · exact .inl (by assumption)
  · exact .inr (.inl (by assumption))
  · exact .inr (.inr (by assumption))
  · cases h
theorem GX.loc (G : GX M Ph X sc fs) {x : Str} (h : locB sc fs x = true) : L2.Loc X.env.scope x ∧ (X.fn x = true ∨ X.env.scope.names.lookup x = some .local) := by
  unfold locB at h
  unfold L2.Loc
  rw [G.sc]
  split at h
  · exact ⟨.inl (by assumption), .inr (by assumption)⟩
  · exact ⟨.inr (by assumption), .inl (G.fn _ (by simpa using h))⟩
  · cases h
theorem sayD_f {x : Str} (h : (!sayD x) = true) : (x == ("__debug__" : Str)) = false ∧ (x == ("__classdict__" : Str)) = false ∧ x ≠ "__name__" := by
  unfold sayD at h
  simpa [and_assoc] using h
theorem star_f {x : Expr} {xs : List Expr} {env : PySem.Env} (h : notStar x = true) : starEach (x :: xs) env = (false, eval x env) :: starEach xs env := by
  cases x <;> first | rfl | cases h
theorem GX.blk (G : GX M Ph X sc fs) {s : Shared} {H : Hp} {scope : Scope} {C : Addr} {cl : List (Str × Addr)} {fp : List Addr} : GX M Ph (X.blk s H scope (compEnvC scope cl C X.env) fp) (relS scope sc) scope where
  nm := G.nm
  nd := G.nd
  sc := by
    have e : (compEnvC scope cl C X.env).scope = relS scope X.env.scope := rfl
    show (compEnvC scope cl C X.env).scope = _
    rw [e, G.sc]
  fn := fun x h => by
    show (scope.names.lookup x == some .cell) = true
    rw [h]
    rfl
  calm := G.calm
  room := ⟨G.room.un, G.room.gd, G.room.pw⟩
  con := G.con
  blt := G.blt
  gcd := G.gcd
  fns := G.fns
end
end PV
set_option Elab.async false
set_option linter.all false
set_option maxRecDepth 100000
set_option maxHeartbeats 2000000
/-! PV, part L: soundness of the matcher. -/
namespace PV
open PySem PySem.Spec PyProof.Rows L2
variable [Wd]
section
variable {K : PySem.W.Frag} {W : WZ} {Ph : CallF} {X : Cx}
theorem opcAll (rm : RoomX X) {o : Cop} (h : o ≠ .isN ∧ o ≠ .notN) : OpR X (compareOp (copO o)) (rCmp X.K o) := by
  cases o with
  | eq => exact opc_eq rm
  | ne => exact opc_ne rm
  | lt => exact opc_lt rm
  | le => exact opc_le rm
  | gt => exact opc_gt rm
  | ge => exact opc_ge rm
  | isN => exact absurd rfl h.1
  | notN => exact absurd rfl h.2
  | inn => exact opc_in rm
  | notin => exact opc_notin rm
theorem opbAll (o : Bop) : OpR X (binaryOp (bopO o)) (rBin X.K o) := by
  cases o with
  | add => exact opb_add
  | sub => exact opb_sub
  | mul => exact opb_mul
  | fdiv => exact opb_fdiv
  | mod => exact opb_mod
  | pow => exact opb_pow
  | shr => exact opb_shr
  | shl => exact opb_shl
  | band => exact opb_band
theorem bltAll (rm : RoomX X) (hc : X.calm = true) {b : Blt} {p : Str × Value} (h : bltName b = some p) : CallR X p.2 (rBlt X.K b) ∧ bootBuiltins p.1 = some p.2 ∧ ((∃ i, p.2 = .builtin i) ∨ ∃ i, p.2 = .type i) := by
  cases b <;> cases h
  · exact ⟨cb_len, by rfl, .inl ⟨_, rfl⟩⟩
  · exact ⟨cb_abs, by rfl, .inl ⟨_, rfl⟩⟩
  · exact ⟨cb_max2 hc, by rfl, .inl ⟨_, rfl⟩⟩
  · exact ⟨cb_min2 hc, by rfl, .inl ⟨_, rfl⟩⟩
  · exact ⟨cb_int1, by rfl, .inr ⟨_, rfl⟩⟩
  · exact ⟨cb_str1, by rfl, .inr ⟨_, rfl⟩⟩
  · exact ⟨cb_repr rm, by rfl, .inl ⟨_, rfl⟩⟩
  · exact ⟨cb_all hc, by rfl, .inl ⟨_, rfl⟩⟩
  · exact ⟨cb_any hc, by rfl, .inl ⟨_, rfl⟩⟩
  · exact ⟨cb_sum hc, by rfl, .inl ⟨_, rfl⟩⟩
  · exact ⟨cb_divmod, by rfl, .inl ⟨_, rfl⟩⟩
  · exact ⟨cb_tuple, by rfl, .inr ⟨_, rfl⟩⟩
  · exact ⟨cb_list, by rfl, .inr ⟨_, rfl⟩⟩
  · exact ⟨cb_sorted rm, by rfl, .inl ⟨_, rfl⟩⟩
theorem pt_ifX {a b c : Expr} {pos : Pos} {tc ta tb : TT} (hc : PT X c tc) (ha : PT X a ta) (hb : PT X b tb) : PT X (.IfExp c a b pos) (fun σ H Q => tc σ H fun k H1 => if k = true then ta σ H1 Q else tb σ H1 Q) := by
  refine ⟨fun pins s σ H Q I h => ?_⟩
  rw [PySem.isTrue]
  refine wpAny_bind (thn (hc.run pins s σ H _ I h) fun k s1 ⟨H1, I1, q1⟩ => ?_)
  cases k with
  | true => exact ha.run pins s1 σ H1 _ I1 q1
  | false => exact hb.run pins s1 σ H1 _ I1 q1
theorem tO_mono {e : Exp} {σ : L2.St} {H : Hp} {Q Q' : VK} (h : tO Ph K W e σ H Q) (m : ∀ v H, Q v H → Q' v H) : tO Ph K W e σ H Q' := by
  obtain ⟨P0, env, r, h⟩ := h
  exact ⟨P0, env, r, h.imp (fun p q v H' a b => m v H' (q v H' a b)) fun _ _ x => x⟩
/-- a test that is a value's -/
theorem pt_ofE {e : Exp} {x : Expr} (g : PE X x (tE Ph X.K W e)) (he : ∀ whole, PySem.isTrue x X.env whole = (do let v ← whole; standAt x.pos; holding [v] (truthy v))) : PT X x (tT Ph X.K W e) :=
  PT.imp (pt_val g he) fun σ H Q h => ent_testE h
/-- not a slot -/
theorem seE {e : Exp} {x : Expr} (g : PE X x (tE Ph X.K W e)) (hm : makes e = false) (ho : ∀ i, e ≠ .var i) (ht : PT X x (tT Ph X.K W e)) : SE Ph W X e x := by
  refine ⟨g, fun z => ?_, PE.imp g fun σ H Q h => ?_, ht⟩
  · rw [hm] at z
    cases z
  · exact ent_opd (fun _ h => h) (fun i z => absurd z (ho i)) h
/-- a new list -/
theorem seG {e : Exp} {x : Expr} (g : PE X x (tG Ph X.K W e)) (ho : ∀ i, e ≠ .var i) (ht : PT X x (tT Ph X.K W e)) : SE Ph W X e x :=
  have g' : PE X x (tE Ph X.K W e) := PE.imp g fun _ _ _ h => tG_of h
  ⟨g', fun _ => g, PE.imp g' fun σ H Q h => ent_opd (fun _ h => h) (fun i z => absurd z (ho i)) h, ht⟩
theorem seEp {e : Exp} {x : Expr} (g : PE X x (tE Ph X.K W e)) (hm : makes e = false) (ho : ∀ i, e ≠ .var i) (he : ∀ whole, PySem.isTrue x X.env whole = (do let v ← whole; standAt x.pos; holding [v] (truthy v))) : SE Ph W X e x := seE g hm ho (pt_ofE g he)
theorem seGp {e : Exp} {x : Expr} (g : PE X x (tG Ph X.K W e)) (ho : ∀ i, e ≠ .var i) (he : ∀ whole, PySem.isTrue x X.env whole = (do let v ← whole; standAt x.pos; holding [v] (truthy v))) : SE Ph W X e x := seG g ho (pt_ofE (PE.imp g fun _ _ _ h => tG_of h) he)
end
section
variable {W : WZ} {M : Mt} {Ph : CallF} {X : Cx} {sc fs : Scope}
theorem se_var {i : Nat} {x : Expr} (G : GX M Ph X sc fs) (h : mE M sc fs (.var i) x = true) : SE Ph W X (.var i) x := by
  unfold mE at h
  obtain ⟨n, h1, h2⟩ := see_t h
  obtain ⟨p, rfl⟩ := vName_s h1
  simp only [Bool.and_eq_true, decide_eq_true_eq] at h2
  obtain ⟨⟨hn, hv⟩, hs⟩ := h2
  obtain ⟨s1, s2, s3⟩ := sayD_f hs
  have g : PE X (.Name n p) (tVar i) := pe_var (by rw [G.nm]; exact hn) (G.vis hv) s1 s2
  have ge : PE X (.Name n p) (tE Ph X.K W (.var i)) := PE.imp g fun _ _ _ h => ent_var h
  refine ⟨ge, nofun, PE.imp g fun σ H Q h => ?_, pt_ofE ge fun _ => by rfl⟩
  exact ent_opd (t := tVar i) (fun _ h => ent_var h) (fun j z => by cases z; rfl) h
theorem se_con {e : Exp} {c : Const} {x : Expr} {v : V} {d : D} (h1 : vConst x = some c) (hm : makes e = false) (ho : ∀ i, e ≠ .var i) (he : ∀ env, ev Ph e env = .ok (d, env)) (hv : ∀ H P, RP X.K H P v d) (g : ∀ k p, PE X (.Constant c k p) (tC v)) : SE Ph W X e x := by
  obtain ⟨k, p, rfl⟩ := vConst_s h1
  exact seEp (PE.imp (g k p) fun _ _ _ h => ent_con he hv h) hm ho fun _ => by rfl
theorem se_int {i : Int} {x : Expr} (h : mE M sc fs (.int i) x = true) : SE Ph W X (.int i) x := by
  unfold mE at h
  obtain ⟨c, h1, h2⟩ := see_t h
  have h2 : c = .int i := by simpa using h2
  subst h2
  exact se_con h1 rfl (fun _ z => by cases z) (fun _ => by unfold ev; rfl) (fun _ _ => .int i) fun _ _ => pe_int
theorem se_str {i : Str} {x : Expr} (h : mE M sc fs (.str i) x = true) : SE Ph W X (.str i) x := by
  unfold mE at h
  obtain ⟨c, h1, h2⟩ := see_t h
  have h2 : c = .str i := by simpa using h2
  subst h2
  exact se_con h1 rfl (fun _ z => by cases z) (fun _ => by unfold ev; rfl) (fun _ _ => .str i) fun _ _ => pe_str
theorem se_bl {i : Bool} {x : Expr} (h : mE M sc fs (.bl i) x = true) : SE Ph W X (.bl i) x := by
  unfold mE at h
  obtain ⟨c, h1, h2⟩ := see_t h
  have h2 : c = .bool i := by simpa using h2
  subst h2
  exact se_con h1 rfl (fun _ z => by cases z) (fun _ => by unfold ev; rfl) (fun _ _ => .bl i) fun _ _ => pe_bl
theorem se_non {x : Expr} (h : mE M sc fs .non x = true) : SE Ph W X .non x := by
  unfold mE at h
  obtain ⟨c, h1, h2⟩ := see_t h
  have h2 : c = .none := by simpa using h2
  subst h2
  exact se_con h1 rfl (fun _ z => by cases z) (fun _ => by unfold ev; rfl) (fun _ _ => .non) fun _ _ => pe_non
theorem se_glob {y : Str} {d : D} {x : Expr} (G : GX M Ph X sc fs) (h : mE M sc fs (.glob y d) x = true) : SE Ph W X (.glob y d) x := by
  unfold mE at h
  obtain ⟨n, h1, h2⟩ := see_t h
  obtain ⟨p, rfl⟩ := vName_s h1
  simp only [Bool.and_eq_true, decide_eq_true_eq, List.any_eq_true] at h2
  obtain ⟨⟨⟨rfl, hg⟩, hs⟩, q, hq, e1, e2⟩ := h2
  obtain ⟨u, v, m1, m2, m3⟩ := G.con q hq
  rw [e1] at m1
  rw [dEq_eq e2] at m3
  exact seEp (PE.imp (pe_glob (G.gl hg) m1 m2 (sayD_f hs).1) fun _ _ _ h => ent_con (fun _ => by unfold ev; rfl) m3 h) rfl (fun _ z => by cases z) fun _ => by rfl
theorem se_bin {o : Bop} {a b : Exp} {x : Expr} (h : mE M sc fs (.bin o a b) x = true) (ia : ∀ y, mE M sc fs a y = true → SE Ph W X a y) (ib : ∀ y, mE M sc fs b y = true → SE Ph W X b y) : SE Ph W X (.bin o a b) x := by
  unfold mE at h
  obtain ⟨⟨y, op, z⟩, h1, h2⟩ := see_t h
  obtain ⟨p, rfl⟩ := vBin_s h1
  simp only [Bool.and_eq_true, decide_eq_true_eq] at h2
  obtain ⟨⟨rfl, ha⟩, hb⟩ := h2
  exact seGp (PE.imp (pe_op (opbAll o) (ia _ ha).o (ib _ hb).o) fun _ _ _ h => ent_bin h) (fun _ z => by cases z) fun _ => by rfl
theorem se_neg {a : Exp} {x : Expr} (h : mE M sc fs (.neg a) x = true) (ia : ∀ y, mE M sc fs a y = true → SE Ph W X a y) : SE Ph W X (.neg a) x := by
  unfold mE at h
  obtain ⟨⟨op, y⟩, h1, h2⟩ := see_t h
  obtain ⟨p, rfl⟩ := vUn_s h1
  simp only [Bool.and_eq_true, decide_eq_true_eq] at h2
  obtain ⟨rfl, ha⟩ := h2
  exact seEp (PE.imp (pe_un un_neg (ia _ ha).e) fun _ _ _ h => ent_neg h) rfl (fun _ z => by cases z) fun _ => by rfl
theorem se_not {a : Exp} {x : Expr} (h : mE M sc fs (.nott a) x = true) (ia : ∀ y, mE M sc fs a y = true → SE Ph W X a y) : SE Ph W X (.nott a) x := by
  unfold mE at h
  obtain ⟨⟨op, y⟩, h1, h2⟩ := see_t h
  obtain ⟨p, rfl⟩ := vUn_s h1
  simp only [Bool.and_eq_true, decide_eq_true_eq] at h2
  obtain ⟨rfl, ha⟩ := h2
  exact seE (PE.imp (pe_not (ia _ ha).e) fun _ _ _ h => ent_nott h) rfl (fun _ z => by cases z) (PT.imp (pt_not (ia _ ha).t) fun _ _ _ h => ent_nottT h)
theorem se_ite {c a b : Exp} {x : Expr} (h : mE M sc fs (.ite c a b) x = true) (ic : ∀ y, mE M sc fs c y = true → SE Ph W X c y) (ia : ∀ y, mE M sc fs a y = true → SE Ph W X a y) (ib : ∀ y, mE M sc fs b y = true → SE Ph W X b y) : SE Ph W X (.ite c a b) x := by
  unfold mE at h
  obtain ⟨⟨u, y, z⟩, h1, h2⟩ := see_t h
  obtain ⟨p, rfl⟩ := vIf_s h1
  simp only [Bool.and_eq_true, decide_eq_true_eq] at h2
  obtain ⟨⟨hc, ha⟩, hb⟩ := h2
  refine seE (PE.imp (pe_ifExp (ic _ hc).t (ia _ ha).e (ib _ hb).e) fun _ _ _ h => ent_ite h) rfl (fun _ z => by cases z) (PT.imp (pt_ifX (ic _ hc).t (ia _ ha).t (ib _ hb).t) fun σ H Q h => ?_)
  obtain ⟨P0, env, r, h⟩ := h
  unfold ev at h
  refine tT_of r (post_bind.mp h) fun d env1 q => ?_
  cases d with
  | bool k =>
    cases k with
    | true =>
      refine ⟨_, rfl, fun H1 a1 => ?_⟩
      rw [if_pos rfl]
      refine tT_of a1.re (Post.imp q (fun _ z => z) fun _ _ z => z.after a1) fun d env2 q => ?_
      obtain ⟨b, e, q⟩ := q
      exact ⟨b, e, fun H2 a2 => q H2 (a1.trans a2)⟩
    | false =>
      refine ⟨_, rfl, fun H1 a1 => ?_⟩
      rw [if_neg Bool.false_ne_true]
      refine tT_of a1.re (Post.imp q (fun _ z => z) fun _ _ z => z.after a1) fun d env2 q => ?_
      obtain ⟨b, e, q⟩ := q
      exact ⟨b, e, fun H2 a2 => q H2 (a1.trans a2)⟩
  | _ => exact q.elim
theorem notSlice_f {y : Expr} (h : notSlice y = true) : PlainIx y := by
  intro o i
  cases y <;> first | rfl | cases h
theorem se_idx {a i : Exp} {x : Expr} (G : GX M Ph X sc fs) (h : mE M sc fs (.idx a i) x = true) (ia : ∀ y, mE M sc fs a y = true → SE Ph W X a y) (ib : ∀ y, mE M sc fs i y = true → SE Ph W X i y) : SE Ph W X (.idx a i) x := by
  unfold mE at h
  obtain ⟨⟨y, z⟩, h1, h2⟩ := see_t h
  obtain ⟨p, rfl⟩ := vIdx_s h1
  simp only [Bool.and_eq_true, decide_eq_true_eq] at h2
  obtain ⟨⟨ha, hb⟩, hs⟩ := h2
  exact seEp (PE.imp (pe_ix (ixr G.room) (ia _ ha).o (ib _ hb).e (notSlice_f hs)) fun _ _ _ h => ent_idx h) rfl (fun _ z => by cases z) fun _ => by rfl
theorem se_rev {a : Exp} {x : Expr} (h : mE M sc fs (.rev a) x = true) (ia : ∀ y, mE M sc fs a y = true → SE Ph W X a y) : SE Ph W X (.rev a) x := by
  unfold mE at h
  obtain ⟨y, h1, h2⟩ := see_t h
  obtain ⟨k, p1, p2, p3, p, rfl⟩ := vRev_s h1
  exact seGp (PE.imp (pe_revA (ia _ h2).o) fun _ _ _ h => ent_rev h) (fun _ z => by cases z) fun _ => by rfl
theorem behind_f {o : Cop} {y : Expr} (h : (o = .inn ∨ o = .notin) → notSet y = true) : behindInMarks (copO o) y = false := by
  cases o with
  | inn => cases y <;> first | rfl | cases h (.inl rfl)
  | notin => cases y <;> first | rfl | cases h (.inr rfl)
  | _ => exact nomark _ (by decide) (by decide)
theorem se_cmp {o : Cop} {a b : Exp} {x : Expr} (G : GX M Ph X sc fs) (h : mE M sc fs (.cmp o a b) x = true) (ia : ∀ y, mE M sc fs a y = true → SE Ph W X a y) (ib : ∀ y, mE M sc fs b y = true → SE Ph W X b y) : SE Ph W X (.cmp o a b) x := by
  unfold mE at h
  obtain ⟨⟨y, op, z⟩, h1, h2⟩ := see_t h
  obtain ⟨p, rfl⟩ := vCmp1_s h1
  simp only [Bool.and_eq_true, decide_eq_true_eq] at h2
  obtain ⟨⟨rfl, ha⟩, hb⟩ := h2
  have gen : o ≠ .isN ∧ o ≠ .notN → mE M sc fs b z = true → ((o = .inn ∨ o = .notin) → notSet z = true) → SE Ph W X (.cmp o a b) (.Compare y [copO o] [z] p) := fun ho hz hs => by
    refine seE (PE.imp (pe_cmpR (opcAll G.room ho) (ia _ ha).o (ib _ hz).o (behind_f hs)) fun _ _ _ h => ent_cmp ho h) rfl (fun _ z => by cases z) ?_
    refine PT.imp (pt_cmpR (opcAll G.room ho) (ia _ ha).o (ib _ hz).o (behind_f hs)) fun σ H Q h => ?_
    exact ent_cmp ho (ent_testE h)
  cases o with
  | isN =>
    have hb : vConst z = some .none := by simpa using hb
    obtain ⟨k, p', rfl⟩ := vConst_s hb
    refine seE (PE.imp (pe_cmp (pc_isN (ia _ ha).o) (nobehind _ (by decide) (by decide))) fun _ _ _ h => ent_isN h) rfl (fun _ z => by cases z) ?_
    exact PT.imp (pt_cmp (pc_isN (ia _ ha).o) (nobehind _ (by decide) (by decide))) fun σ H Q h => ent_isN (ent_testE h)
  | notN =>
    have hb : vConst z = some .none := by simpa using hb
    obtain ⟨k, p', rfl⟩ := vConst_s hb
    refine seE (PE.imp (pe_cmp (pc_notN (ia _ ha).o) (nobehind _ (by decide) (by decide))) fun _ _ _ h => ent_notN h) rfl (fun _ z => by cases z) ?_
    exact PT.imp (pt_cmp (pc_notN (ia _ ha).o) (nobehind _ (by decide) (by decide))) fun σ H Q h => ent_notN (ent_testE h)
  | inn =>
    simp only [Bool.and_eq_true] at hb
    exact gen ⟨nofun, nofun⟩ hb.1 fun _ => hb.2
  | notin =>
    simp only [Bool.and_eq_true] at hb
    exact gen ⟨nofun, nofun⟩ hb.1 fun _ => hb.2
  | _ => exact gen ⟨nofun, nofun⟩ hb fun z => by rcases z with z | z <;> cases z
theorem plainC_f {o : Cop} (h : plainC o = true) : (o ≠ .isN ∧ o ≠ .notN) ∧ copO o ≠ .In ∧ copO o ≠ .NotIn := by
  cases o <;> first | (cases h; done) | exact ⟨⟨nofun, nofun⟩, nofun, nofun⟩
theorem se_cmp2 {o o' : Cop} {a b c : Exp} {x : Expr} (G : GX M Ph X sc fs) (h : mE M sc fs (.cmp2 o o' a b c) x = true) (ia : ∀ y, mE M sc fs a y = true → SE Ph W X a y) (ib : ∀ y, mE M sc fs b y = true → SE Ph W X b y) (ic : ∀ y, mE M sc fs c y = true → SE Ph W X c y) : SE Ph W X (.cmp2 o o' a b c) x := by
  unfold mE at h
  obtain ⟨⟨y, op, z, op', w⟩, h1, h2⟩ := see_t h
  obtain ⟨p, rfl⟩ := vCmp2_s h1
  simp only [Bool.and_eq_true, decide_eq_true_eq] at h2
  obtain ⟨⟨⟨⟨⟨⟨rfl, rfl⟩, q1⟩, q2⟩, ha⟩, hb⟩, hc⟩ := h2
  obtain ⟨q1, _, _⟩ := plainC_f q1
  obtain ⟨q2, n1, n2⟩ := plainC_f q2
  have hm : lastMarks [copO o, copO o'] [z, w] = false := by
    have : behindInMarks (copO o') w = false := nomark _ n1 n2
    simpa [lastMarks] using this
  refine seE (PE.imp (pe_chain (opcAll G.room q1) (opcAll G.room q2) (ia _ ha).e (ib _ hb).e (ic _ hc).e hm) fun _ _ _ h => ent_cmp2 h) rfl (fun _ z => by cases z) ?_
  exact PT.imp (pt_chain (opcAll G.room q1) (opcAll G.room q2) (ia _ ha).e (ib _ hb).e (ic _ hc).e hm) fun σ H Q h => ent_cmp2 (ent_testE h)
/-- each with its text -/
inductive SEL (Ph : CallF) (W : WZ) (X : Cx) : Exs → List Expr → Prop
  | nil : SEL Ph W X .nil []
  | cons {e : Exp} {es : Exs} {x : Expr} {xs : List Expr} : SE Ph W X e x → notStar x = true → SEL Ph W X es xs → SEL Ph W X (.cons e es) (x :: xs)
theorem SEL.v : ∀ {es : Exs} {xs : List Expr}, SEL Ph W X es xs → PA X xs (tEs Ph X.K W es)
  | _, _, .nil => PA.imp pa_nil fun _ _ _ h => ent_es_nil h
  | _, _, .cons s n r => PA.imp (pa_cons s.e (SEL.v r) (star_f n)) fun _ _ _ h => ent_es_cons h
theorem SEL.o : ∀ {es : Exs} {xs : List Expr}, SEL Ph W X es xs → PA X xs (tOs Ph X.K W es)
  | _, _, .nil => PA.imp pa_nil fun _ _ _ h => ent_os_nil h
  | _, _, .cons s n r => PA.imp (pa_cons s.o (SEL.o r) (star_f n)) fun _ _ _ h => ent_os_cons h
theorem SEL.stars {env : PySem.Env} {pos : Pos} : ∀ {es : Exs} {xs : List Expr}, SEL Ph W X es xs → (backTo pos (starEach xs env)).any (·.1) = false
  | _, _, .nil => rfl
  | _, _, .cons s n r => by
    rw [star_f n]
    have := SEL.stars (env := env) (pos := pos) r
    simpa [backTo] using this
theorem SEL.length : ∀ {es : Exs} {xs : List Expr}, SEL Ph W X es xs → xs.length = exsLen es
  | _, _, .nil => rfl
  | _, _, .cons _ _ r => by simp [exsLen, SEL.length r]
theorem SEL.andE : ∀ {es : Exs} {xs : List Expr} {p : Pos}, SEL Ph W X es xs → xs ≠ [] → PE X (.BoolOp .And xs p) (tAndE Ph X.K W es) ∧ PW X (.BoolOp .And xs p) (tAndB Ph X.K W es)
  | _, _, _, .nil, h => absurd rfl h
  | _, _, _, .cons s _ .nil, _ => ⟨PE.imp (pe_one s.e) fun _ _ _ h => ent_and1 h, ⟨fun wh pins s' σ H Q I h => (pw_and1 s.t).run wh pins s' σ H Q I (ent_and1T h)⟩⟩
  | _, _, p, .cons s _ (.cons s' n' r), _ => by
    obtain ⟨h1, h2⟩ := SEL.andE (p := p) (.cons s' n' r) (by simp)
    exact ⟨PE.imp (pe_and s.e h1) fun _ _ _ h => ent_and2 h, ⟨fun wh pins s' σ H Q I h => (pw_and s.t h2).run wh pins s' σ H Q I (ent_and2T h)⟩⟩
theorem SEL.orE : ∀ {es : Exs} {xs : List Expr} {p : Pos}, SEL Ph W X es xs → xs ≠ [] → PE X (.BoolOp .Or xs p) (tOrE Ph X.K W es) ∧ PW X (.BoolOp .Or xs p) (tOrB Ph X.K W es)
  | _, _, _, .nil, h => absurd rfl h
  | _, _, _, .cons s _ .nil, _ => ⟨PE.imp (pe_one s.e) fun _ _ _ h => ent_or1 h, ⟨fun wh pins s' σ H Q I h => (pw_or1 s.t).run wh pins s' σ H Q I (ent_or1T h)⟩⟩
  | _, _, p, .cons s _ (.cons s' n' r), _ => by
    obtain ⟨h1, h2⟩ := SEL.orE (p := p) (.cons s' n' r) (by simp)
    exact ⟨PE.imp (pe_or s.e h1) fun _ _ _ h => ent_or2 h, ⟨fun wh pins s' σ H Q I h => (pw_or s.t h2).run wh pins s' σ H Q I (ent_or2T h)⟩⟩
theorem isEmpty_f {A : Type} {xs : List A} (h : (!xs.isEmpty) = true) : xs ≠ [] := by
  rintro rfl
  cases h
theorem se_conj {es : Exs} {x : Expr} (h : mE M sc fs (.conj es) x = true) (ia : ∀ y, mEs M sc fs es y = true → SEL Ph W X es y) : SE Ph W X (.conj es) x := by
  unfold mE at h
  obtain ⟨⟨op, y⟩, h1, h2⟩ := see_t h
  obtain ⟨p, rfl⟩ := vBool_s h1
  simp only [Bool.and_eq_true, decide_eq_true_eq] at h2
  obtain ⟨⟨rfl, ha⟩, hn⟩ := h2
  obtain ⟨q1, q2⟩ := (ia _ ha).andE (p := p) (isEmpty_f hn)
  exact seE (PE.imp q1 fun _ _ _ h => ent_conj h) rfl (fun _ z => by cases z) (PT.imp q2.pt fun _ _ _ h => ent_conjT h)
theorem se_disj {es : Exs} {x : Expr} (h : mE M sc fs (.disj es) x = true) (ia : ∀ y, mEs M sc fs es y = true → SEL Ph W X es y) : SE Ph W X (.disj es) x := by
  unfold mE at h
  obtain ⟨⟨op, y⟩, h1, h2⟩ := see_t h
  obtain ⟨p, rfl⟩ := vBool_s h1
  simp only [Bool.and_eq_true, decide_eq_true_eq] at h2
  obtain ⟨⟨rfl, ha⟩, hn⟩ := h2
  obtain ⟨q1, q2⟩ := (ia _ ha).orE (p := p) (isEmpty_f hn)
  exact seE (PE.imp q1 fun _ _ _ h => ent_disj h) rfl (fun _ z => by cases z) (PT.imp q2.pt fun _ _ _ h => ent_disjT h)
theorem se_tup {es : Exs} {x : Expr} (h : mE M sc fs (.tup es) x = true) (ia : ∀ y, mEs M sc fs es y = true → SEL Ph W X es y) : SE Ph W X (.tup es) x := by
  unfold mE at h
  obtain ⟨y, h1, h2⟩ := see_t h
  obtain ⟨k, p, rfl⟩ := vTup_s h1
  simp only [Bool.and_eq_true, decide_eq_true_eq] at h2
  exact seEp (PE.imp (pe_tup (ia _ h2.1).v) fun _ _ _ h => ent_tup h2.2 h) rfl (fun _ z => by cases z) fun _ => by rfl
theorem se_lst {es : Exs} {x : Expr} (h : mE M sc fs (.lst es) x = true) (ia : ∀ y, mEs M sc fs es y = true → SEL Ph W X es y) : SE Ph W X (.lst es) x := by
  unfold mE at h
  obtain ⟨y, h1, h2⟩ := see_t h
  obtain ⟨p, rfl⟩ := vLst_s h1
  simp only [Bool.and_eq_true, decide_eq_true_eq] at h2
  exact seGp (PE.imp (pe_lst (ia _ h2.1).v) fun _ _ _ h => ent_lst h2.2 h) (fun _ z => by cases z) fun _ => by rfl
theorem PO.imp {e : Option Expr} {t t' : TO} (h : PO X e t) (m : ∀ σ H Q, t' σ H Q → t σ H Q) : PO X e t' := ⟨fun pins s σ H Q I q => h.run pins s σ H Q I (m σ H Q q)⟩
theorem se_slice {a : Exp} {lo hi : Exo} {x : Expr} (h : mE M sc fs (.slice a lo hi) x = true) (ia : ∀ y, mE M sc fs a y = true → SE Ph W X a y) (il : ∀ y, mO M sc fs lo y = true → PO X y (tOpt Ph X.K W lo)) (ih : ∀ y, mO M sc fs hi y = true → PO X y (tOpt Ph X.K W hi)) : SE Ph W X (.slice a lo hi) x := by
  unfold mE at h
  obtain ⟨⟨y, l, u⟩, h1, h2⟩ := see_t h
  obtain ⟨p, p', rfl⟩ := vSl_s h1
  simp only [Bool.and_eq_true] at h2
  obtain ⟨⟨ha, hl⟩, hh⟩ := h2
  exact seGp (PE.imp (pe_slice slr (ia _ ha).o (il _ hl) (ih _ hh)) fun _ _ _ h => ent_slice h) (fun _ z => by cases z) fun _ => by rfl
theorem bltB_f (G : GX M Ph X sc fs) {x y : Str} (h : bltB M sc x y = true) : x = y ∧ Gl X x ∧ X.mg x = none ∧ x ≠ "__name__" ∧ (x == ("__debug__" : Str)) = false := by
  unfold bltB at h
  simp only [Bool.and_eq_true, decide_eq_true_eq] at h
  obtain ⟨⟨⟨rfl, hg⟩, hb⟩, hs⟩ := h
  obtain ⟨s1, s2, s3⟩ := sayD_f hs
  exact ⟨rfl, G.gl hg, G.blt _ (by simpa using hb), s3, s1⟩
theorem se_lenset {es : Exs} {x : Expr} (G : GX M Ph X sc fs) (h : mE M sc fs (.blt .lenset es) x = true) (ia : ∀ y, mEs M sc fs es y = true → SEL Ph W X es y) : SE Ph W X (.blt .lenset es) x := by
  unfold mE at h
  obtain ⟨⟨n, ys⟩, h1, h2⟩ := see_t h
  obtain ⟨p, p', rfl⟩ := vCall_s h1
  obtain ⟨y, h3, i2⟩ := see_t h2
  obtain ⟨⟨n', zs⟩, h4, i3⟩ := see_t i2
  obtain ⟨q, q', rfl⟩ := vCall_s h4
  simp only [Bool.and_eq_true, decide_eq_true_eq] at i3
  obtain ⟨⟨⟨⟨ht, hb⟩, hb'⟩, hl⟩, ha⟩ := i3
  have ey : ys = [.Call (.Name n' q) zs [] q'] := by
    cases ys with
    | nil => cases h3
    | cons a l => cases l with
      | nil =>
        cases h3
        rfl
      | cons _ _ => cases ht
  subst ey
  obtain ⟨rfl, hg, hm, _, _⟩ := bltB_f G hb
  obtain ⟨rfl, hg', hm', _, _⟩ := bltB_f G hb'
  have sl := ia _ ha
  cases sl with
  | nil => cases hl
  | cons s ns r => cases r with
    | nil => exact seGp (PE.imp (pe_lenset G.room G.calm hg hm hg' hm' (SEL.cons s ns .nil).o (star_f ns)) fun _ _ _ h => ent_blt h) (fun _ z => by cases z) fun _ => by rfl
    | cons _ _ _ => simp [exsLen] at hl
theorem se_sortset {es : Exs} {x : Expr} (G : GX M Ph X sc fs) (h : mE M sc fs (.blt .sortset es) x = true) (ia : ∀ y, mEs M sc fs es y = true → SEL Ph W X es y) : SE Ph W X (.blt .sortset es) x := by
  unfold mE at h
  obtain ⟨⟨n, ys⟩, h1, h2⟩ := see_t h
  obtain ⟨p, p', rfl⟩ := vCall_s h1
  obtain ⟨y, h3, i2⟩ := see_t h2
  obtain ⟨⟨n', zs⟩, h4, i3⟩ := see_t i2
  obtain ⟨q, q', rfl⟩ := vCall_s h4
  simp only [Bool.and_eq_true, decide_eq_true_eq] at i3
  obtain ⟨⟨⟨⟨ht, hb⟩, hb'⟩, hl⟩, ha⟩ := i3
  have ey : ys = [.Call (.Name n' q) zs [] q'] := by
    cases ys with
    | nil => cases h3
    | cons a l => cases l with
      | nil =>
        cases h3
        rfl
      | cons _ _ => cases ht
  subst ey
  obtain ⟨rfl, hg, hm, _, _⟩ := bltB_f G hb
  obtain ⟨rfl, hg', hm', _, _⟩ := bltB_f G hb'
  have sl := ia _ ha
  cases sl with
  | nil => cases hl
  | cons s ns r => cases r with
    | nil => exact seGp (PE.imp (pe_sortset G.calm hg hm hg' hm' (SEL.cons s ns .nil).o (star_f ns)) fun _ _ _ h => ent_blt h) (fun _ z => by cases z) fun _ => by rfl
    | cons _ _ _ => simp [exsLen] at hl
theorem se_rangel {es : Exs} {x : Expr} (G : GX M Ph X sc fs) (h : mE M sc fs (.blt .rangel es) x = true) (ia : ∀ y, mEs M sc fs es y = true → SEL Ph W X es y) : SE Ph W X (.blt .rangel es) x := by
  unfold mE at h
  obtain ⟨⟨n, ys⟩, h1, h2⟩ := see_t h
  obtain ⟨p, p', rfl⟩ := vCall_s h1
  obtain ⟨y, h3, i2⟩ := see_t h2
  obtain ⟨⟨n', zs⟩, h4, i3⟩ := see_t i2
  obtain ⟨q, q', rfl⟩ := vCall_s h4
  simp only [Bool.and_eq_true, decide_eq_true_eq] at i3
  obtain ⟨⟨⟨⟨ht, hb⟩, hb'⟩, hl⟩, ha⟩ := i3
  have ey : ys = [.Call (.Name n' q) zs [] q'] := by
    cases ys with
    | nil => cases h3
    | cons a l => cases l with
      | nil =>
        cases h3
        rfl
      | cons _ _ => cases ht
  subst ey
  obtain ⟨rfl, hg, hm, _, _⟩ := bltB_f G hb
  obtain ⟨rfl, hg', hm', _, _⟩ := bltB_f G hb'
  have sl := ia _ ha
  cases sl with
  | nil => cases hl
  | cons s ns r => cases r with
    | nil => exact seGp (PE.imp (pe_rangel G.calm hg hm hg' hm' (SEL.cons s ns .nil).o (star_f ns)) fun _ _ _ h => ent_blt h) (fun _ z => by cases z) fun _ => by rfl
    | cons _ _ _ => simp [exsLen] at hl
theorem se_ranget {es : Exs} {x : Expr} (G : GX M Ph X sc fs) (h : mE M sc fs (.blt .ranget es) x = true) (ia : ∀ y, mEs M sc fs es y = true → SEL Ph W X es y) : SE Ph W X (.blt .ranget es) x := by
  unfold mE at h
  obtain ⟨⟨n, ys⟩, h1, h2⟩ := see_t h
  obtain ⟨p, p', rfl⟩ := vCall_s h1
  obtain ⟨y, h3, i2⟩ := see_t h2
  obtain ⟨⟨n', zs⟩, h4, i3⟩ := see_t i2
  obtain ⟨q, q', rfl⟩ := vCall_s h4
  simp only [Bool.and_eq_true, decide_eq_true_eq] at i3
  obtain ⟨⟨⟨⟨ht, hb⟩, hb'⟩, hl⟩, ha⟩ := i3
  have ey : ys = [.Call (.Name n' q) zs [] q'] := by
    cases ys with
    | nil => cases h3
    | cons a l => cases l with
      | nil =>
        cases h3
        rfl
      | cons _ _ => cases ht
  subst ey
  obtain ⟨rfl, hg, hm, _, _⟩ := bltB_f G hb
  obtain ⟨rfl, hg', hm', _, _⟩ := bltB_f G hb'
  have sl := ia _ ha
  cases sl with
  | nil => cases hl
  | cons s ns r => cases r with
    | nil => exact seGp (PE.imp (pe_ranget G.calm hg hm hg' hm' (SEL.cons s ns .nil).o (star_f ns)) fun _ _ _ h => ent_blt h) (fun _ z => by cases z) fun _ => by rfl
    | cons _ _ _ => simp [exsLen] at hl
theorem mE_blt {b : Blt} {es : Exs} {x : Expr} (hb : b ≠ .lenset) (hb2 : b ≠ .sortset) (hb3 : b ≠ .rangel) (hb4 : b ≠ .ranget) : mE M sc fs (.blt b es) x = see (vCall x) fun p => (match b with
      | .gcd => M.gcd && decide (p.1 = "gcd") && glB sc p.1
      | _ => see (bltName b) fun q => bltB M sc p.1 q.1) && mEs M sc fs es p.2 && !p.2.isEmpty := by
  conv => lhs; unfold mE
  cases b <;> first | rfl | exact absurd rfl hb | exact absurd rfl hb2 | exact absurd rfl hb3 | exact absurd rfl hb4
theorem se_blt {b : Blt} {es : Exs} {x : Expr} (nl : b ≠ .lenset) (nl2 : b ≠ .sortset) (nl3 : b ≠ .rangel) (nl4 : b ≠ .ranget) (G : GX M Ph X sc fs) (h : mE M sc fs (.blt b es) x = true) (ia : ∀ y, mEs M sc fs es y = true → SEL Ph W X es y) : SE Ph W X (.blt b es) x := by
  rw [mE_blt nl nl2 nl3 nl4] at h
  obtain ⟨⟨n, ys⟩, h1, h2⟩ := see_t h
  obtain ⟨p, p', rfl⟩ := vCall_s h1
  simp only [Bool.and_eq_true] at h2
  obtain ⟨⟨hb, ha⟩, hn⟩ := h2
  have sl := ia _ ha
  cases sl with
  | nil => cases hn
  | cons s n' r =>
    have sl : SEL Ph W X _ _ := .cons s n' r
    have fin : ∀ {c : Value}, CallR X c (rBlt X.K b) → bootBuiltins n = some c → ((∃ i, c = .builtin i) ∨ ∃ i, c = .type i) → Gl X n → X.mg n = none → n ≠ "__name__" → (n == ("__debug__" : Str)) = false → SE Ph W X (.blt b _) (.Call (.Name n p) _ [] p') := fun {c} hc hv hk hg hm hn hd => by
      refine seGp ?_ (fun _ z => by cases z) fun _ => by rfl
      rcases hk with ⟨i, rfl⟩ | ⟨i, rfl⟩
      · exact PE.imp (pe_callB hc hg hm hv sl.o hn hd (star_f n') r.stars) fun _ _ _ h => ent_blt h
      · exact PE.imp (pe_callTy hc hg hm hv sl.o hn hd (star_f n') r.stars) fun _ _ _ h => ent_blt h
    have gen : (see (bltName b) fun q => bltB M sc n q.1) = true → SE Ph W X (.blt b _) (.Call (.Name n p) _ [] p') := fun hb => by
      obtain ⟨q, q1, q2⟩ := see_t hb
      obtain ⟨e, hg, hm, hn, hd⟩ := bltB_f G q2
      obtain ⟨c1, c2, c3⟩ := bltAll G.room G.calm q1
      exact fin c1 (by rw [e]; exact c2) c3 hg hm hn hd
    cases b with
    | gcd =>
      have hb : (M.gcd && decide (n = "gcd") && glB sc n) = true := hb
      simp only [Bool.and_eq_true, decide_eq_true_eq] at hb
      obtain ⟨⟨g1, rfl⟩, g3⟩ := hb
      exact seGp (PE.imp (pe_callBfun cb_gcd (G.gl g3) (G.gcd g1) sl.o (by decide) (star_f n') r.stars) fun _ _ _ h => ent_blt h) (fun _ z => by cases z) fun _ => by rfl
    | _ => exact gen hb
theorem se_call {f : Str} {br : Bool} {es : Exs} {x : Expr} (hW : ∀ z P e σ H, ¬ W z P e σ H) (G : GX M Ph X sc fs) (h : mE M sc fs (.call f br es) x = true) (ia : ∀ y, mEs M sc fs es y = true → SEL Ph W X es y) : SE Ph W X (.call f br es) x := by
  unfold mE at h
  obtain ⟨⟨n, ys⟩, h1, h2⟩ := see_t h
  obtain ⟨p, p', rfl⟩ := vCall_s h1
  simp only [Bool.and_eq_true] at h2
  obtain ⟨⟨⟨⟨hf, ha⟩, hn⟩, hg⟩, hs⟩ := h2
  obtain ⟨fn, f1, f2⟩ := see_t hf
  simp only [Bool.and_eq_true, decide_eq_true_eq, Bool.not_eq_true'] at f2
  obtain ⟨⟨⟨rfl, rfl⟩, hfr⟩, hl⟩ := f2
  obtain ⟨k, fa, fd, ps, F, hr, hm, hk, hb, _⟩ := G.fns n fn f1
  have sl := ia _ ha
  cases sl with
  | nil => cases hn
  | cons s n' r =>
    have sl : SEL Ph W X _ _ := .cons s n' r
    have base : PE X (.Call (.Name n p) _ [] p') (tCall (spF Ph X.K fn) [] (fun _ _ _ => False) _) := pe_callG (E := fun _ _ _ => False) F hr G.room.gd (G.gl hg) hm hk hb sl.o (sayD_f hs).1 (star_f n') r.stars
    refine seEp (PE.imp base fun σ H Q h => ?_) rfl (fun _ z => by cases z) fun _ => by rfl
    cases hbr : fn.br with
    | false =>
      rw [hbr] at h
      exact ent_call hW hbr hfr hl h
    | true =>
      rw [hbr] at h
      exact ent_callB hW hbr hfr hl h
theorem se_callJ {f g : Str} {es : Exs} {x : Expr} (hW : ∀ z P e σ H, ¬ W z P e σ H) (G : GX M Ph X sc fs) (h : mE M sc fs (.callJ f g es) x = true) (ia : ∀ y, mEs M sc fs es y = true → SEL Ph W X es y) : SE Ph W X (.callJ f g es) x := by
  unfold mE at h
  obtain ⟨⟨n, ys⟩, h1, h2⟩ := see_t h
  obtain ⟨p, p', rfl⟩ := vCall_s h1
  obtain ⟨y, h3, h4⟩ := see_t h2
  obtain ⟨⟨m, zs⟩, h5, h6⟩ := see_t h4
  obtain ⟨q, q', rfl⟩ := vCall_s h5
  simp only [Bool.and_eq_true] at h6
  obtain ⟨⟨⟨⟨⟨⟨⟨ht, hf⟩, ha⟩, hn⟩, hg⟩, hs⟩, hg2⟩, hs2⟩ := h6
  obtain ⟨fn, f1, hf⟩ := see_t hf
  obtain ⟨gn, f2, hf⟩ := see_t hf
  simp only [Bool.and_eq_true, decide_eq_true_eq, Bool.not_eq_true'] at hf
  obtain ⟨⟨⟨⟨⟨⟨⟨rfl, rfl⟩, b1⟩, b2⟩, b3⟩, b4⟩, b5⟩, b6⟩ := hf
  obtain ⟨k, fa, fd, ps, F, hr, hm, hk, hb, _⟩ := G.fns n fn f1
  obtain ⟨k2, fa2, fd2, ps2, F2, hr2, hm2, hk2, hb2, _⟩ := G.fns m gn f2
  have sl := ia _ ha
  cases ys with
  | nil => cases h3
  | cons y0 ys =>
    cases h3
    cases ys with
    | cons _ _ => cases ht
    | nil =>
      cases sl with
      | nil => cases hn
      | cons s n' r =>
        have sl : SEL Ph W X _ _ := .cons s n' r
        have inner : PE X (.Call (.Name m q) _ [] q') (tCall (spF Ph X.K gn) [] (fun _ _ _ => False) _) := pe_callG (E := fun _ _ _ => False) F2 hr2 G.room.gd (G.gl hg2) hm2 hk2 hb2 sl.v (sayD_f hs2).1 (star_f n') r.stars
        have outer : PE X (.Call (.Name n p) [_] [] p') (tCall (spF Ph X.K fn) [] (fun _ _ _ => False) _) := pe_callG (E := fun _ _ _ => False) F hr G.room.gd (G.gl hg) hm hk hb (pa_cons inner pa_nil (by rfl)) (sayD_f hs).1 (by rfl) (by rfl)
        exact seEp (PE.imp outer fun σ H Q h => ent_callJ hW b4 b5 b6 b1 b2 b3 h) rfl (fun _ z => by cases z) fun _ => by rfl
/-! keywords -/
theorem kws_in {pos : Pos} {env : PySem.Env} : ∀ {kws : List Keyword} {ks : List Str}, kws.map (·.arg) = ks.map some → (backToKw pos (keywordEach kws env)).all (·.1.isSome) = true ∧ (backToKw pos (keywordEach kws env)).filterMap (·.1) = ks ∧ (backToKw pos (keywordEach kws env)).any (·.1.isNone) = false
  | [], ks, h => by
    have e : ks = [] := by
      cases ks with
      | nil => rfl
      | cons _ _ => cases h
    subst e
    exact ⟨rfl, rfl, rfl⟩
  | ⟨a, v, p⟩ :: kws, ks, h => by
    cases ks with
    | nil => cases h
    | cons k ks =>
      rw [List.map_cons, List.map_cons] at h
      injection h with h1 h2
      have h1 : a = some k := h1
      subst h1
      obtain ⟨a1, a2, a3⟩ := kws_in (pos := pos) (env := env) h2
      refine ⟨?_, ?_, ?_⟩
      · show (true && (backToKw pos (keywordEach kws env)).all (·.1.isSome)) = true
        rw [a1]
        rfl
      · show k :: (backToKw pos (keywordEach kws env)).filterMap (·.1) = k :: ks
        rw [a2]
      · show (false || (backToKw pos (keywordEach kws env)).any (·.1.isNone)) = false
        rw [a3]
        rfl
theorem PK.imp {kws : List Keyword} {t t' : TA} (h : PK X kws t) (m : ∀ σ H Q, t' σ H Q → t σ H Q) : PK X kws t' := ⟨fun pos pins s σ H Q I q => h.run pos pins s σ H Q I (m σ H Q q)⟩
theorem SEL.kw : ∀ {es : Exs} {kws : List Keyword}, SEL Ph W X es (kws.map (·.value)) → PK X kws (tOs Ph X.K W es)
  | es, [], s => by
    cases s
    exact PK.imp pk_nil fun _ _ _ h => ent_os_nil h
  | es, ⟨a, v, p⟩ :: kws, s => by
    rw [List.map_cons] at s
    cases s with
    | cons s n r => exact PK.imp (pk_cons s.o (SEL.kw r)) fun _ _ _ h => ent_os_cons h
theorem pe_callX {k n : Nat} {f : Addr} {fd : FuncData} {ps ks : List Str} {perm : List Nat} {sp : Sp} {E : XK} {x : Str} {p pos : Pos} {es : Exs} {ys : List Expr} {kws : List Keyword} {tk : TA} (F : FnG X.prog X.w X.K X.mg X.base k f fd ps sp) (hr : Room k X.A) (hgd : X.A.guards = some []) (hg : Gl X x) (hm : X.mg x = some (.ref f))
    (hk : PySem.W.keepIn X.K (.ref f) = true) (hb : KwB X.K fd ps n ks perm) (sl : SEL Ph W X es ys) (hkw : PK X kws tk) (ha : kws.map (·.arg) = ks.map some) (hdb : (x == ("__debug__" : Str)) = false) : PE X (.Call (.Name x p) ys kws pos) (tCallX sp n ks.length perm E (tOs Ph X.K W es) tk) := by
  have call : ∀ {pins : List (Addr × Obj)} {σ : L2.St} {H : Hp} {s : Shared} {Q : VK} {us ws : List Value} {vs zs : List V}, Inv X pins σ H s → Vals vs us → Vals zs ws → vs.length = n → zs.length = ks.length → sp (vs ++ permV perm zs) H Q E → wpAny (model X.prog X.w) X.A (call (.ref f) us (ks.zip ws)) (EP X pins σ Q) X.xe s := fun {pins σ H s Q us ws vs zs} I r rz l1 l2 h => by
    refine wpAny_call (codeAny_mono (F.run X.A X.stack s H ⟨us, ks.zip ws⟩ (us ++ permV perm ws) (vs ++ permV perm zs) Q E hr hgd I.env0 (hb s us ws I.kIn (r.length.symm.trans l1) (rz.length.symm.trans l2)) (r.append (vals_perm rz perm)) h) fun r s' hq => ?_)
    cases r with
    | error e => exact hq.elim
    | ok fl => cases fl with
      | ret u => exact I.after hq
      | _ => exact hq.elim
  refine ⟨fun pins s σ H Q I h => wpAny_Call_Name_kw (ld_glob I hg hm ?_ hdb)⟩
  obtain ⟨a1, a2, a3⟩ := kws_in (pos := pos) (env := X.env) ha
  cases sl with
  | nil =>
    have h0 : tOs Ph X.K W .nil σ H _ := h
    refine PySem.W.callWith_KW0 (h₀ := X.base) I.ok.mod.kin hk a1 (thn (hkw.run pos pins s σ H _ I (ent_os_nil h0)) fun ws s2 ⟨zs, H2, I2, rz, l1, l2, q2⟩ => ⟨I2.kIn, ?_⟩) (by rw [a3]; rfl)
    rw [a2]
    exact call (vs := []) I2 .nil rz l1 l2 q2
  | cons s' n' r' =>
    have sl : SEL Ph W X _ _ := .cons s' n' r'
    have st : ∀ {xs : List Expr} {es : Exs}, SEL Ph W X es xs → (backTo pos (starEach xs X.env)).any (·.1) = false := fun q => q.stars
    refine PySem.W.callWith_KW (h₀ := X.base) I.ok.mod.kin hk a1 (thn (sl.o.run pos pins s σ H _ I h) fun us s1 ⟨vs, H1, I1, r, q⟩ => ?_) (by rw [st sl, a3]; rfl) (star_f n')
    refine thn (hkw.run pos pins s1 σ H1 _ I1 q) fun ws s2 ⟨zs, H2, I2, rz, l1, l2, q2⟩ => ⟨I2.kIn, ?_⟩
    rw [a2]
    exact call I2 r rz l1 l2 q2
theorem se_callK {f : Str} {br : Bool} {es kes : Exs} {ks : List Str} {perm : List Nat} {x : Expr} (hW : ∀ z P e σ H, ¬ W z P e σ H) (G : GX M Ph X sc fs) (h : mE M sc fs (.callK f br es kes ks perm) x = true) (ia : ∀ y, mEs M sc fs es y = true → SEL Ph W X es y) (ik : ∀ y, mEs M sc fs kes y = true → SEL Ph W X kes y) : SE Ph W X (.callK f br es kes ks perm) x := by
  unfold mE at h
  obtain ⟨⟨n, ys, kws⟩, h1, h2⟩ := see_t h
  obtain ⟨p, p', rfl⟩ := vCallK_s h1
  simp only [Bool.and_eq_true, decide_eq_true_eq, List.any_eq_true, List.all_eq_true] at h2
  obtain ⟨⟨⟨⟨⟨⟨⟨hf, ha⟩, hk'⟩, har⟩, q, hq, he⟩, hpi⟩, hg⟩, hs⟩ := h2
  obtain ⟨fn, f1, f2⟩ := see_t hf
  simp only [Bool.and_eq_true, decide_eq_true_eq, Bool.not_eq_true'] at f2
  obtain ⟨⟨⟨rfl, hbr⟩, hfr⟩, hl⟩ := f2
  obtain ⟨k, fa, fd, ps, F, hr, hm, hk, hb, hkw⟩ := G.fns n fn f1
  have bind := hkw q hq (by rw [he])
  rw [he] at bind
  have sl := ia _ ha
  have kl := ik _ hk'
  have lk : exsLen kes = ks.length := by
    have e1 := kl.length
    rw [List.length_map] at e1
    have e2 := congrArg List.length har
    rw [List.length_map, List.length_map] at e2
    omega
  exact seEp (PE.imp (pe_callX (E := fun _ _ _ => False) F hr G.room.gd (G.gl hg) hm hk bind sl kl.kw har (sayD_f hs).1) fun _ _ _ h => ent_callK hW hbr hfr rfl lk hl hpi h) rfl (fun _ z => by cases z) fun _ => by rfl
theorem se_isi {a : Exp} {t : Ty} {x : Expr} (G : GX M Ph X sc fs) (h : mE M sc fs (.isi a t) x = true) (ia : ∀ y, mE M sc fs a y = true → SE Ph W X a y) : SE Ph W X (.isi a t) x := by
  unfold mE at h
  obtain ⟨⟨n, ys⟩, h1, h2⟩ := see_t h
  obtain ⟨p, p', rfl⟩ := vCall_s h1
  obtain ⟨y, h3, h2⟩ := see_t h2
  obtain ⟨z, h4, h2⟩ := see_t h2
  obtain ⟨w, h5, h2⟩ := see_t h2
  simp only [Bool.and_eq_true] at h2
  obtain ⟨⟨⟨⟨he, hb⟩, hb2⟩, ha⟩, hs⟩ := h2
  obtain ⟨p2, rfl⟩ := vName_s h5
  have e : ys = [y, .Name w p2] := by
    cases ys with
    | nil => cases h3
    | cons y0 ys =>
      cases ys with
      | nil => cases h4
      | cons y1 ys =>
        cases ys with
        | cons _ _ => cases he
        | nil =>
          cases h3
          cases h4
          rfl
  subst e
  obtain ⟨rfl, hg, hm, hn, hd⟩ := bltB_f G hb
  obtain ⟨rfl, hg2, hm2, hn2, hd2⟩ := bltB_f G hb2
  have ty : PE X (.Name (tyStr t) p2) (tC (.ty (tyName t))) := by
    cases t
    · exact pe_bltn hg2 hm2 (by rfl) rfl hn2 hd2
    · exact pe_bltn hg2 hm2 (by rfl) rfl hn2 hd2
    · exact pe_bltn hg2 hm2 (by rfl) rfl hn2 hd2
    · exact pe_bltn hg2 hm2 (by rfl) rfl hn2 hd2
    · exact pe_bltn hg2 hm2 (by rfl) rfl hn2 hd2
    · exact pe_bltn hg2 hm2 (by rfl) rfl hn2 hd2
  refine seEp (PE.imp (pe_callB (cb_isi t) hg hm (by rfl) (pa_cons (ia _ ha).o (pa_cons ty pa_nil (by rfl)) (star_f hs)) hn hd (star_f hs) (by rfl)) fun σ H Q h => ?_) rfl (fun _ z => by cases z) fun _ => by rfl
  refine tO_mono (ent_isi h) fun v H1 q => ?_
  obtain ⟨P, d, q1, q2⟩ := q
  exact ⟨P, v, d, rfl, q1, q2⟩
mutual
theorem mG_s (G : GX M Ph X sc fs) : ∀ {t : Tg} {x : Expr}, mG M sc fs t x = true → PG X x (tTg X.K t)
  | .name i, x, h => by
    unfold mG at h
    obtain ⟨n, h1, h2⟩ := see_t h
    obtain ⟨p, rfl⟩ := vName_s h1
    simp only [Bool.and_eq_true, decide_eq_true_eq] at h2
    obtain ⟨l1, l2⟩ := G.loc h2.2
    exact PG.imp (pg_name (by rw [G.nm]; exact G.nd) (by rw [G.nm]; exact h2.1) l1 l2) fun _ _ _ _ h => ent_gname h
  | .tup ts, x, h => by
    unfold mG at h
    obtain ⟨n, h1, h2⟩ := see_t h
    obtain ⟨k, p, rfl⟩ := vTup_s h1
    obtain ⟨g, e1, e2⟩ := mGs_s G h2
    exact PG.imp (pg_tup G.calm g e1 e2) fun _ _ _ _ h => ent_gtup rfl h
theorem mGs_s (G : GX M Ph X sc fs) : ∀ {ts : List Tg} {xs : List Expr}, mGs M sc fs ts xs = true → PGs X xs (tTgs X.K ts) ∧ (assignEach xs X.env).length = ts.length ∧ (assignEach xs X.env).findIdx? (·.1) = none
  | [], xs, h => by
    unfold mGs at h
    have e : xs = [] := by simpa using h
    subst e
    exact ⟨PGs.imp pgs_nil fun _ _ _ _ h => ent_gnil h, rfl, rfl⟩
  | t :: ts, xs, h => by
    unfold mGs at h
    obtain ⟨x, h1, h2⟩ := see_t h
    cases xs with
    | nil => cases h1
    | cons y ys =>
      cases h1
      simp only [Bool.and_eq_true, List.tail_cons] at h2
      obtain ⟨⟨hn, hx⟩, hr⟩ := h2
      obtain ⟨g, e1, e2⟩ := mGs_s G hr
      have e : assignEach (x :: ys) X.env = (false, assign x X.env) :: assignEach ys X.env := by
        cases x <;> first | rfl | cases hn
      refine ⟨PGs.imp (pgs_cons (mG_s G hx) g (by rw [e]; rfl)) fun _ _ _ _ h => ent_gcons h, ?_, ?_⟩
      · rw [e, List.length_cons, List.length_cons, e1]
      · rw [e, List.findIdx?_cons, e2]
        rfl
end
theorem notSet_f {i : Expr} {env : PySem.Env} (h : notSet i = true) : ∀ x, foldedSetIterable i env x = pure x := by
  intro x
  cases i <;> first | rfl | cases h
/-- what a comprehension asks of its parts -/
theorem se_comp {elt : Exp} {tg : Tg} {it : Itx} {cs : Exs} {own : List (Str × Nat)} {x : Expr} (G : GX M Ph X sc fs) (h : mE M sc fs (.comp elt tg it cs own) x = true)
    (ii : ∀ tg y, mI M sc fs it y = true → (match it with
      | .zip _ _ => isTup tg = true
      | .enum _ => isTup tg = true
      | _ => True) → PI X tg y (tI Ph X.K W it))
    (ie : ∀ {X : Cx} {sc fs : Scope} {y : Expr}, GX M Ph X sc fs → mE M sc fs elt y = true → SE Ph W X elt y)
    (ic : ∀ {X : Cx} {sc fs : Scope} {y : List Expr}, GX M Ph X sc fs → mT M sc fs cs y = true → PTs X y (tTs Ph X.K W cs)) : ∃ e t i ifs scope p, x = .ListComp e [⟨t, i, ifs, 0⟩] scope p ∧ SE Ph W X (.comp elt tg it cs own) x ∧
      PI X t i (tI Ph X.K W it) ∧ BlkOk X.N X.env.scope scope own ∧ (∀ (s : Shared) (H : Hp) (C : Addr) (cl : List (Str × Addr)) (fp : List Addr), PG (X.blk s H scope (compEnvC scope cl C X.env) fp) t (tTg X.K tg)) ∧
      (∀ (s : Shared) (H : Hp) (C : Addr) (cl : List (Str × Addr)) (fp : List Addr), PTs (X.blk s H scope (compEnvC scope cl C X.env) fp) ifs (tTs Ph X.K W cs)) ∧
      (∀ (s : Shared) (H : Hp) (C : Addr) (cl : List (Str × Addr)) (fp : List Addr), PE (X.blk s H scope (compEnvC scope cl C X.env) fp) e (tE Ph X.K W elt)) ∧ (∀ x, foldedSetIterable i X.env x = pure x) ∧ ∀ v ∈ tgSlots tg, v ∈ own.map (·.2) := by
  unfold mE at h
  obtain ⟨⟨e, t, i, ifs, scope⟩, h1, h2⟩ := see_t h
  obtain ⟨p, rfl⟩ := vComp_s h1
  simp only [Bool.and_eq_true, List.all_eq_true, decide_eq_true_eq] at h2
  obtain ⟨⟨⟨⟨⟨⟨⟨hi, ht⟩, hs⟩, hb⟩, hg⟩, he⟩, hc⟩, hv⟩ := h2
  have bo : BlkOk X.N X.env.scope scope own := by
    rw [G.nm, G.sc]
    exact blkOk_by hb
  have pi := ii t i hi (by
    cases it <;> first | trivial | exact ht)
  have pg := fun (s : Shared) (H : Hp) (C : Addr) (cl : List (Str × Addr)) (fp : List Addr) => mG_s (G.blk (s := s) (H := H) (scope := scope) (C := C) (cl := cl) (fp := fp)) hg
  have pt := fun (s : Shared) (H : Hp) (C : Addr) (cl : List (Str × Addr)) (fp : List Addr) => ic (G.blk (s := s) (H := H) (scope := scope) (C := C) (cl := cl) (fp := fp)) hc
  have pe := fun (s : Shared) (H : Hp) (C : Addr) (cl : List (Str × Addr)) (fp : List Addr) => (ie (G.blk (s := s) (H := H) (scope := scope) (C := C) (cl := cl) (fp := fp)) he).e
  refine ⟨e, t, i, ifs, scope, p, rfl, ?_, pi, bo, pg, pt, pe, notSet_f hs, hv⟩
  exact seGp (PE.imp (pe_lc G.calm (by rw [G.nm]; exact G.nd) pi bo pg pt pe (notSet_f hs)) fun _ _ _ h => ent_lc hv h) (fun _ z => by cases z) fun _ => by rfl
theorem isTup_f {x : Expr} (h : isTup x = true) : ∃ es k p, x = .Tuple es k p := by
  cases x <;> first | (cases h; done) | exact ⟨_, _, _, rfl⟩
theorem one_f {ys : List Expr} {y : Expr} (h : ys.head? = some y) (t : ys.tail.isEmpty = true) : ys = [y] := by
  cases ys with
  | nil => cases h
  | cons a r =>
    cases h
    cases r with
    | nil => rfl
    | cons _ _ => cases t
theorem two_f {ys : List Expr} {y z : Expr} (h : ys.head? = some y) (h2 : ys.tail.head? = some z) (t : ys.tail.tail.isEmpty = true) : ys = [y, z] := by
  cases ys with
  | nil => cases h
  | cons a r =>
    cases h
    rw [one_f (ys := r) h2 t]
mutual
theorem mE_s (hW : ∀ z P e σ H, ¬ W z P e σ H) : ∀ (e : Exp) {X : Cx} {sc fs : Scope} {x : Expr}, GX M Ph X sc fs → mE M sc fs e x = true → SE Ph W X e x
  | .var i, X, sc, fs, x, G, h => se_var G h
  | .int i, X, sc, fs, x, G, h => se_int h
  | .str i, X, sc, fs, x, G, h => se_str h
  | .bl i, X, sc, fs, x, G, h => se_bl h
  | .non, X, sc, fs, x, G, h => se_non h
  | .glob n d, X, sc, fs, x, G, h => se_glob G h
  | .tup es, X, sc, fs, x, G, h => se_tup h fun y => mEs_s hW es G
  | .lst es, X, sc, fs, x, G, h => se_lst h fun y => mEs_s hW es G
  | .dict0, X, sc, fs, x, G, h => by
    unfold mE at h
    obtain ⟨p, rfl⟩ := isDict0_s h
    exact seGp (PE.imp pe_dnewR fun _ _ _ h => ent_dict0 h) (fun _ z => by cases z) fun _ => by rfl
  | .bin o a b, X, sc, fs, x, G, h => se_bin h (fun y => mE_s hW a G) (fun y => mE_s hW b G)
  | .neg a, X, sc, fs, x, G, h => se_neg h (fun y => mE_s hW a G)
  | .nott a, X, sc, fs, x, G, h => se_not h (fun y => mE_s hW a G)
  | .conj es, X, sc, fs, x, G, h => se_conj h fun y => mEs_s hW es G
  | .disj es, X, sc, fs, x, G, h => se_disj h fun y => mEs_s hW es G
  | .cmp o a b, X, sc, fs, x, G, h => se_cmp G h (fun y => mE_s hW a G) (fun y => mE_s hW b G)
  | .cmp2 o p a b c, X, sc, fs, x, G, h => se_cmp2 G h (fun y => mE_s hW a G) (fun y => mE_s hW b G) (fun y => mE_s hW c G)
  | .ite c a b, X, sc, fs, x, G, h => se_ite h (fun y => mE_s hW c G) (fun y => mE_s hW a G) (fun y => mE_s hW b G)
  | .idx a i, X, sc, fs, x, G, h => se_idx G h (fun y => mE_s hW a G) (fun y => mE_s hW i G)
  | .slice a lo hi, X, sc, fs, x, G, h => se_slice h (fun y => mE_s hW a G) (fun y => mO_s hW lo G) (fun y => mO_s hW hi G)
  | .rev a, X, sc, fs, x, G, h => se_rev h (fun y => mE_s hW a G)
  | .call f br es, X, sc, fs, x, G, h => se_call hW G h fun y => mEs_s hW es G
  | .callK f br es kes ks perm, X, sc, fs, x, G, h => se_callK hW G h (fun y => mEs_s hW es G) fun y => mEs_s hW kes G
  | .callJ f g es, X, sc, fs, x, G, h => se_callJ hW G h fun y => mEs_s hW es G
  | .blt b es, X, sc, fs, x, G, h => by
    by_cases nl : b = .lenset
    · subst nl
      exact se_lenset G h fun y => mEs_s hW es G
    · by_cases nl2 : b = .sortset
      · subst nl2
        exact se_sortset G h fun y => mEs_s hW es G
      · by_cases nl3 : b = .rangel
        · subst nl3
          exact se_rangel G h fun y => mEs_s hW es G
        · by_cases nl4 : b = .ranget
          · subst nl4
            exact se_ranget G h fun y => mEs_s hW es G
          · exact se_blt nl nl2 nl3 nl4 G h fun y => mEs_s hW es G
  | .isi a t, X, sc, fs, x, G, h => se_isi G h fun y => mE_s hW a G
  | .meth _ _ _, X, sc, fs, x, G, h => by
    unfold mE at h
    cases h
  | .pop _, X, sc, fs, x, G, h => by
    unfold mE at h
    cases h
  | .popAt _ _, X, sc, fs, x, G, h => by
    unfold mE at h
    cases h
  | .comp elt tg it cs own, X, sc, fs, x, G, h => by
    obtain ⟨e, t, i, ifs, scope, p, e1, q, _⟩ := se_comp (W := W) G h (fun tg y hy ht => mI_s hW it G hy ht) (fun {X sc fs y} G h => mE_s hW elt G h) (fun {X sc fs y} G h => mT_s hW cs G h)
    exact q
theorem mEs_s (hW : ∀ z P e σ H, ¬ W z P e σ H) : ∀ (es : Exs) {X : Cx} {sc fs : Scope} {xs : List Expr}, GX M Ph X sc fs → mEs M sc fs es xs = true → SEL Ph W X es xs
  | .nil, X, sc, fs, xs, G, h => by
    unfold mEs at h
    have e : xs = [] := by simpa using h
    subst e
    exact .nil
  | .cons e es, X, sc, fs, xs, G, h => by
    unfold mEs at h
    obtain ⟨x, h1, h2⟩ := see_t h
    cases xs with
    | nil => cases h1
    | cons y ys =>
      cases h1
      simp only [Bool.and_eq_true, List.tail_cons] at h2
      exact .cons (mE_s hW e G h2.1.1) h2.1.2 (mEs_s hW es G h2.2)
theorem mT_s (hW : ∀ z P e σ H, ¬ W z P e σ H) : ∀ (es : Exs) {X : Cx} {sc fs : Scope} {xs : List Expr}, GX M Ph X sc fs → mT M sc fs es xs = true → PTs X xs (tTs Ph X.K W es)
  | .nil, X, sc, fs, xs, G, h => by
    unfold mT at h
    have e : xs = [] := by simpa using h
    subst e
    exact PTs.imp pts_nil fun _ _ _ h => ent_tests0 h
  | .cons e es, X, sc, fs, xs, G, h => by
    unfold mT at h
    obtain ⟨x, h1, h2⟩ := see_t h
    simp only [Bool.and_eq_true, decide_eq_true_eq] at h2
    rw [one_f h1 h2.1.2]
    have e0 : es = .nil := by
      cases es with
      | nil => rfl
      | cons _ _ => simp [exsLen] at h2
    subst e0
    exact PTs.imp (pts_one (mE_s hW e G h2.1.1).t) fun _ _ _ h => ent_tests1 h
theorem mO_s (hW : ∀ z P e σ H, ¬ W z P e σ H) : ∀ (e : Exo) {X : Cx} {sc fs : Scope} {x : Option Expr}, GX M Ph X sc fs → mO M sc fs e x = true → PO X x (tOpt Ph X.K W e)
  | .non, X, sc, fs, x, G, h => by
    unfold mO at h
    have e : x = none := by simpa using h
    subst e
    exact PO.imp po_none fun _ _ _ h => ent_onon h
  | .som e, X, sc, fs, x, G, h => by
    unfold mO at h
    obtain ⟨y, rfl, h2⟩ := see_t h
    exact PO.imp (po_some (mE_s hW e G h2).e) fun _ _ _ h => ent_osom h
theorem mI_s (hW : ∀ z P e σ H, ¬ W z P e σ H) : ∀ (it : Itx) {X : Cx} {sc fs : Scope} {tg x : Expr}, GX M Ph X sc fs → mI M sc fs it x = true → (match it with
      | .zip _ _ => isTup tg = true
      | .enum _ => isTup tg = true
      | _ => True) → PI X tg x (tI Ph X.K W it)
  | .seq e, X, sc, fs, tg, x, G, h, _ => by
    unfold mI at h
    exact PI.imp (pi_seqK (mE_s hW e G h).e) fun _ _ _ h => ent_seq h
  | .range1 e, X, sc, fs, tg, x, G, h, _ => by
    unfold mI at h
    obtain ⟨⟨n, ys⟩, h1, h2⟩ := see_t h
    obtain ⟨p, p', rfl⟩ := vCall_s h1
    obtain ⟨y, h3, h2⟩ := see_t h2
    simp only [Bool.and_eq_true] at h2
    obtain ⟨⟨⟨ht, hb⟩, he⟩, hn⟩ := h2
    have ey : ys = [y] := one_f h3 ht
    subst ey
    obtain ⟨rfl, hg, hm, _, _⟩ := bltB_f G hb
    exact PI.imp (pi_range1 hg hm (SEL.cons (mE_s hW e G he) hn .nil).v (star_f hn)) fun _ _ _ h => ent_range1 h
  | .range2 a b, X, sc, fs, tg, x, G, h, _ => by
    unfold mI at h
    obtain ⟨⟨n, ys⟩, h1, h2⟩ := see_t h
    obtain ⟨p, p', rfl⟩ := vCall_s h1
    obtain ⟨y, h3, h2⟩ := see_t h2
    obtain ⟨z, h4, h2⟩ := see_t h2
    simp only [Bool.and_eq_true] at h2
    obtain ⟨⟨⟨⟨⟨ht, hb⟩, he⟩, hn⟩, he2⟩, hn2⟩ := h2
    have ey : ys = [y, z] := two_f h3 h4 ht
    subst ey
    obtain ⟨rfl, hg, hm, _, _⟩ := bltB_f G hb
    exact PI.imp (pi_range2 hg hm (SEL.cons (mE_s hW a G he) hn (.cons (mE_s hW b G he2) hn2 .nil)).v (by rw [star_f hn, star_f hn2]; rfl) (star_f hn2)) fun _ _ _ h => ent_range2 h
  | .enum a, X, sc, fs, tg, x, G, h, t => by
    unfold mI at h
    obtain ⟨⟨n, ys⟩, h1, h2⟩ := see_t h
    obtain ⟨p, p', rfl⟩ := vCall_s h1
    obtain ⟨y, h3, h2⟩ := see_t h2
    simp only [Bool.and_eq_true] at h2
    obtain ⟨⟨⟨ht, hb⟩, he⟩, hn⟩ := h2
    have ey : ys = [y] := one_f h3 ht
    subst ey
    obtain ⟨rfl, hg, hm, _, _⟩ := bltB_f G hb
    obtain ⟨es, k, p3, rfl⟩ := isTup_f t
    exact PI.imp (pi_enumK hg hm (SEL.cons (mE_s hW a G he) hn .nil).v (star_f hn)) fun _ _ _ h => ent_enum h
  | .zip a b, X, sc, fs, tg, x, G, h, t => by
    unfold mI at h
    obtain ⟨⟨n, ys⟩, h1, h2⟩ := see_t h
    obtain ⟨p, p', rfl⟩ := vCall_s h1
    obtain ⟨y, h3, h2⟩ := see_t h2
    obtain ⟨z, h4, h2⟩ := see_t h2
    simp only [Bool.and_eq_true] at h2
    obtain ⟨⟨⟨⟨⟨ht, hb⟩, he⟩, hn⟩, he2⟩, hn2⟩ := h2
    have ey : ys = [y, z] := two_f h3 h4 ht
    subst ey
    obtain ⟨rfl, hg, hm, _, _⟩ := bltB_f G hb
    obtain ⟨es, k, p3, rfl⟩ := isTup_f t
    have s2 : SEL Ph W X (.cons b .nil) [z] := .cons (mE_s hW b G he2) hn2 .nil
    exact PI.imp (pi_zipK hg hm (SEL.cons (mE_s hW a G he) hn s2).v (star_f hn) s2.stars) fun _ _ _ h => ent_zip h
end
end
end PV
set_option Elab.async false
set_option linter.all false
set_option maxRecDepth 100000
set_option maxHeartbeats 2000000
/-! PV, part M: statements. -/
namespace PV
open PySem PySem.Spec PyProof.Rows L2
variable [Wd]
/-- how the frame stands behind a statement -/
structure AS (K : PySem.W.Frag) (P0 : Pa) (br : Bool) (env : Fram) (σ : L2.St) (H : Hp) (env' : Fram) (σ' : L2.St) (H' : Hp) : Prop where
  re : RE K P0 env' σ' H'
  ko : KeepO env σ H H'
  less : ∀ a, OwnA env' σ' a → OwnA env σ a ∨ H a = none
  tr : ∀ a, H' a = none → H a = none
  s0 : br = true → σ'[0]? = σ[0]?
section
variable {K : PySem.W.Frag} {P0 : Pa} {br : Bool} {env env1 env2 : Fram} {σ σ1 σ2 : L2.St} {H H1 H2 : Hp}
theorem AS.refl (r : RE K P0 env σ H) : AS K P0 br env σ H env σ H := ⟨r, KeepO.refl, fun _ h => .inl h, fun _ h => h, fun _ => rfl⟩
theorem AS.trans (a : AS K P0 br env σ H env1 σ1 H1) (b : AS K P0 br env1 σ1 H1 env2 σ2 H2) : AS K P0 br env σ H env2 σ2 H2 where
  re := b.re
  ko := fun c o e n => b.ko c o (a.ko c o e n) fun w => (a.less c w).elim n fun z => by
    rw [z] at e
    cases e
  less := fun c w => (b.less c w).elim (a.less c) fun z => .inr (a.tr c z)
  tr := fun c z => a.tr c (b.tr c z)
  s0 := fun h => (b.s0 h).trans (a.s0 h)
theorem AS.ofAft (a : Aft K P0 env σ H env1 H1) : AS K P0 br env σ H env1 σ H1 := ⟨a.re, a.ko, fun c w => .inl (a.less c w), a.tr, fun _ => rfl⟩
theorem AS.ofSto {is : List Nat} (a : Sto K P0 env σ H is env1 σ1) (h : br = true → 0 ∉ is) : AS K P0 br env σ H env1 σ1 H := ⟨a.re, KeepO.refl, fun c w => .inl ((a.own c).mp w), fun _ z => z, fun z => a.same 0 (h z)⟩
theorem AS.rp (a : AS K P0 br env σ H env1 σ1 H1) (r : RE K P0 env σ H) {v : V} {d : D} (q : RP K H (fun b => Stb P0 env σ b ∧ H b ≠ none) v d) : RP K H1 (Stb P0 env1 σ1) v d :=
  q.keep ((a.ko.keep r).mono fun _ z => z.1) fun c z => ⟨z.1.1, fun w => (a.less c w).elim z.1.2 z.2⟩
/-- a slot is given a value -/
theorem AS.setVal (r : RE K P0 env σ H) {i : Nat} {v : V} {d : D} (q : RP K H (Stb P0 env σ) v d) (hi : br = true → i ≠ 0) : AS K P0 br env σ H (env.set i (.val d)) (σ.set i (some v)) H :=
  ⟨r.setVal q, KeepO.refl, fun _ w => .inl w.val, fun _ z => z, fun z => List.getElem?_set_ne (hi z)⟩
theorem OwnA.own {i : Nat} {d : D} {b a : Addr} (hl : i < σ.length) (h : OwnA (env.set i (.own d)) (σ.set i (some (.ref b))) a) : OwnA env σ a ∨ a = b := by
  obtain ⟨j, e, h1, h2⟩ := h
  by_cases hj : i = j
  · subst hj
    rw [List.getElem?_set_self hl] at h2
    cases h2
    exact .inr rfl
  · rw [List.getElem?_set_ne hj] at h1 h2
    exact .inl ⟨j, e, h1, h2⟩
/-- a slot is given a new list -/
theorem AS.setOwn (a : Aft K P0 env σ H env1 H1) {i : Nat} {b : Addr} {d : D} (nb : H b = none) (re : RE K (fun a => P0 a ∧ a ≠ b) env1 σ H1) (ro : ROwn K H1 (Stb (fun a => P0 a ∧ a ≠ b) env1 σ) b d) (r : RE K P0 env σ H) (hi : br = true → i ≠ 0) (hl : i < env1.length) :
    AS K P0 br env σ H (env1.set i (.own d)) (σ.set i (some (.ref b))) H1 := by
  have nob : ¬ OwnA env1 σ b := fun w => by
    obtain ⟨xs, e, _⟩ := r.ownAt (a.less b w)
    rw [nb] at e
    cases e
  refine ⟨re.setOwn hl nob (r.new b nb) ro, a.ko, fun c w => ?_, a.tr, fun z => List.getElem?_set_ne (hi z)⟩
  rcases w.own (by rw [a.re.len]; exact hl) with w | rfl
  · exact .inl (a.less c w)
  · exact .inr nb
end
/-- a value that is handed back -/
structure RetV (K : PySem.W.Frag) (P0 : Pa) (env : Fram) (σ : L2.St) (H H' : Hp) (v : V) (d : D) (f : Bool) : Prop where
  rp : RP K H' P0 v d
  new : f = true → ∃ b, v = .ref b ∧ (OwnA env σ b ∨ H b = none) ∧ ROwn K H' (fun a => P0 a ∧ a ≠ b) b d
def FlwK (K : PySem.W.Frag) (P0 : Pa) (br : Bool) (D : Ends) (env : Fram) (σ : L2.St) (H : Hp) (p : Flw × Fram) : Prop := match p.1 with
  | .nx => ∀ σ' H', AS K P0 br env σ H p.2 σ' H' → D.nx σ' H'
  | .brk => ∀ σ' H', AS K P0 br env σ H p.2 σ' H' → D.bk σ' H'
  | .cont => ∀ σ' H', AS K P0 br env σ H p.2 σ' H' → D.ct σ' H'
  | .ret d f => ∀ v σ' H', AS K P0 br env σ H p.2 σ' H' → RetV K P0 env σ H H' v d f → D.rt v H'
section
variable {K : PySem.W.Frag} {P0 : Pa} {br : Bool} {env env1 env2 : Fram} {σ σ1 σ2 : L2.St} {H H1 H2 : Hp} {D : Ends}
theorem RetV.back (a : AS K P0 br env σ H env1 σ1 H1) {v : V} {d : PyData} {f : Bool} (q : RetV K P0 env1 σ1 H1 H2 v d f) : RetV K P0 env σ H H2 v d f :=
  ⟨q.rp, fun z => let ⟨b, e, h, r⟩ := q.new z; ⟨b, e, h.elim (a.less b) fun z => .inr (a.tr b z), r⟩⟩
theorem FlwK.from (a : AS K P0 br env σ H env1 σ1 H1) {p : Flw × Fram} (q : FlwK K P0 br D env σ H p) : FlwK K P0 br D env1 σ1 H1 p := by
  obtain ⟨f, e⟩ := p
  cases f with
  | nx => exact fun σ' H' b => q σ' H' (a.trans b)
  | brk => exact fun σ' H' b => q σ' H' (a.trans b)
  | cont => exact fun σ' H' b => q σ' H' (a.trans b)
  | ret d f => exact fun v σ' H' b r => q v σ' H' (a.trans b) (r.back a)
end
def F0 : Exc → Fram → Prop := fun _ _ => False
def W0 : WZ := fun _ _ _ _ _ => False
theorem hW0 : ∀ z P e σ H, ¬ W0 z P e σ H := fun _ _ _ _ _ h => h
def tSt (Ph : CallF) (wf : Nat) (br : Bool) (K : PySem.W.Frag) (P0 : Pa) (s : Stm) : TS := fun D σ H => ∃ env, RE K P0 env σ H ∧ Post (evS Ph wf br s env) (FlwK K P0 br D env σ H) F0
def tSs (Ph : CallF) (wf : Nat) (br : Bool) (K : PySem.W.Frag) (P0 : Pa) (s : Sts) : TS := fun D σ H => ∃ env, RE K P0 env σ H ∧ Post (evSs Ph wf br s env) (FlwK K P0 br D env σ H) F0
section
variable {Ph : CallF} {wf : Nat} {br : Bool} {K : PySem.W.Frag} {P0 : Pa} {env : Fram} {σ : L2.St} {H : Hp} {D : Ends} {e : Exp}
/-- an expression in a statement -/
theorem tE_in (r : RE K P0 env σ H) {k : PyData × Fram → Prop} {Q : VK} (h : Post (ev Ph e env) k F0) (hk : ∀ d env1, k (d, env1) → ∀ v H1, Aft K P0 env σ H env1 H1 → RP K H1 (Stb P0 env1 σ) v d → Q v H1) : tE Ph K W0 e σ H Q :=
  ⟨P0, env, r, h.imp (fun p q v H1 a b => hk p.1 p.2 q v H1 a b) fun _ _ z => z.elim⟩
theorem tG_in (r : RE K P0 env σ H) {k : PyData × Fram → Prop} {Q : VK} (h : Post (ev Ph e env) k F0) (hk : ∀ d env1, k (d, env1) → ∀ v H1, Aft K P0 env σ H env1 H1 → RP K H1 (Stb P0 env1 σ) v d → Frs K P0 env1 σ H H1 v d → Q v H1) : tG Ph K W0 e σ H Q :=
  ⟨P0, env, r, h.imp (fun p q v H1 a b c => hk p.1 p.2 q v H1 a b c) fun _ _ z => z.elim⟩
theorem ent_expr (h : tSt Ph wf br K P0 (.expr e) D σ H) : tDrop (tE Ph K W0 e) D σ H := by
  obtain ⟨env, r, h⟩ := h
  unfold evS at h
  exact tE_in r (post_bind.mp h) fun d env1 q v H1 a _ => q σ H1 (.ofAft a)
theorem ent_set {i : Nat} (h : tSt Ph wf br K P0 (.set i e) D σ H) : tAsg (tE Ph K W0 e) (gName i) D σ H := by
  obtain ⟨env, r, h⟩ := h
  unfold evS at h
  refine tE_in r (post_bind.mp h) fun d env1 q v H1 a rv => ?_
  have q : Post (if (decide (i < env1.length) && !(br && i == 0)) = true then Res.ok (Flw.nx, env1.set i (.val d)) else .bad) (FlwK K P0 br D env σ H) F0 := q
  split at q
  · rename_i hc
    simp only [Bool.and_eq_true, decide_eq_true_eq, Bool.not_eq_true', Bool.and_eq_false_iff, beq_eq_false_iff_ne] at hc
    exact q _ H1 ((AS.ofAft a).trans (AS.setVal a.re rv fun z => by
      rcases hc.2 with h | h
      · rw [z] at h
        cases h
      · exact h))
  · exact q.elim
theorem ent_own {i : Nat} (h : tSt Ph wf br K P0 (.own i e) D σ H) : tAsg (tG Ph K W0 e) (gName i) D σ H := by
  obtain ⟨env, r, h⟩ := h
  unfold evS at h
  refine tG_in r (post_bind.mp h) fun d env1 q v H1 a rv fr => ?_
  have q : Post (if (decide (i < env1.length) && !(br && i == 0) && makes e && isSeq d) = true then Res.ok (Flw.nx, env1.set i (.own d)) else .bad) (FlwK K P0 br D env σ H) F0 := q
  split at q
  · rename_i hc
    simp only [Bool.and_eq_true, decide_eq_true_eq, Bool.not_eq_true', Bool.and_eq_false_iff, beq_eq_false_iff_ne] at hc
    obtain ⟨⟨⟨h1, h2⟩, _⟩, hs⟩ := hc
    obtain ⟨b, rfl, nb, re, ro⟩ := fr hs
    exact q _ H1 (AS.setOwn a nb re ro r (fun z => by
      rcases h2 with h | h
      · rw [z] at h
        cases h
      · exact h) h1)
  · exact q.elim
theorem ent_unp {ts : List Tg} (hz : br = true → 0 ∉ tgsSlots ts) (h : tSt Ph wf br K P0 (.unp ts e) D σ H) : tAsg (tE Ph K W0 e) (tTg K (.tup ts)) D σ H := by
  obtain ⟨env, r, h⟩ := h
  unfold evS at h
  refine tE_in r (post_bind.mp h) fun d env1 q v H1 a rv => ?_
  cases d with
  | tuple ds =>
    obtain ⟨env2, es, q⟩ := post_opt.mp (post_bind.mp q)
    refine ⟨P0, env1, _, env2, a.re, rv, by unfold store; exact es, fun σ' st => q σ' H1 ((AS.ofAft a).trans (AS.ofSto st fun z => ?_))⟩
    unfold tgSlots
    exact hz z
  | _ => exact q.elim
theorem ent_retN (h : tSt Ph wf br K P0 .retN D σ H) : tRetN D σ H := by
  obtain ⟨env, r, h⟩ := h
  unfold evS at h
  exact h .non σ H (AS.refl r) ⟨.non, fun z => by cases z⟩
/-- a value is handed back -/
theorem ent_ret1 (hn : ∀ i, e ≠ .var i) (hm : makes e = false) (h : tSt Ph wf br K P0 (.ret e) D σ H) : tRet (tE Ph K W0 e) D σ H := by
  obtain ⟨env, r, h⟩ := h
  unfold evS at h
  have h : Post ((ev Ph e env).bind fun p => Res.ok (Flw.ret p.1 (makes e && isSeq p.1), p.2)) (FlwK K P0 br D env σ H) F0 := by
    cases e <;> first | exact h | exact absurd rfl (hn _)
  refine tE_in r (post_bind.mp h) fun d env1 q v H1 a rv => ?_
  rw [hm, Bool.false_and] at q
  exact q v σ H1 (.ofAft a) ⟨rv.mono fun _ z => z.1, fun z => by cases z⟩
theorem ent_ret2 (hm : makes e = true) (h : tSt Ph wf br K P0 (.ret e) D σ H) : tRet (tG Ph K W0 e) D σ H := by
  obtain ⟨env, r, h⟩ := h
  unfold evS at h
  have h : Post ((ev Ph e env).bind fun p => Res.ok (Flw.ret p.1 (makes e && isSeq p.1), p.2)) (FlwK K P0 br D env σ H) F0 := by
    cases e <;> first | exact h | cases hm
  refine tG_in r (post_bind.mp h) fun d env1 q v H1 a rv fr => ?_
  rw [hm, Bool.true_and] at q
  refine q v σ H1 (.ofAft a) ⟨rv.mono fun _ z => z.1, fun z => ?_⟩
  obtain ⟨b, rfl, nb, re, ro⟩ := fr z
  exact ⟨b, rfl, .inr nb, ro.mono fun _ z => z.1⟩
theorem ent_ret3 {i : Nat} (h : tSt Ph wf br K P0 (.ret (.var i)) D σ H) : tRet (tVar i) D σ H := by
  obtain ⟨env, r, h⟩ := h
  unfold evS at h
  by_cases hc : (isOwn env i && !(i == 0)) = true
  · have h : Post (if (isOwn env i && !(i == 0)) = true then (opt (look env i)).bind fun d => Res.ok (Flw.ret d true, env) else (ev Ph (.var i) env).bind fun p => Res.ok (Flw.ret p.1 false, p.2)) (FlwK K P0 br D env σ H) F0 := h
    rw [if_pos hc] at h
    obtain ⟨d, ed, q⟩ := post_opt.mp (post_bind.mp h)
    simp only [Bool.and_eq_true, Bool.not_eq_true', beq_eq_false_iff_ne] at hc
    obtain ⟨d', e1⟩ := isOwn_iff.mp hc.1
    have e2 : d' = d := by
      unfold look at ed
      rw [e1] at ed
      cases ed
      rfl
    subst e2
    obtain ⟨b, e3, ro⟩ := r.own i d' e1
    refine ⟨_, e3, q _ σ H (AS.refl r) ⟨?_, fun _ => ⟨b, rfl, .inl ⟨i, d', e1, e3⟩, ro.mono fun c z => ⟨z.1, ?_⟩⟩⟩⟩
    · cases ro with
      | lst h1 h2 => exact .lst (r.pos i _ b hc.2 e1 e3) (.inl h1) (h2.mono fun _ z => z.1)
      | dct h1 h2 => exact .dct (r.pos i _ b hc.2 e1 e3) (.inl h1) (h2.mono fun _ z => z.1)
    · rintro rfl
      exact z.2 ⟨i, d', e1, e3⟩
  · have h : Post (if (isOwn env i && !(i == 0)) = true then (opt (look env i)).bind fun d => Res.ok (Flw.ret d true, env) else (ev Ph (.var i) env).bind fun p => Res.ok (Flw.ret p.1 false, p.2)) (FlwK K P0 br D env σ H) F0 := h
    rw [if_neg hc] at h
    refine ent_var (Ph := Ph) (W := W0) (K := K) (tE_in r (post_bind.mp h) fun d env1 q v H1 a rv => ?_)
    exact q v σ H1 (.ofAft a) ⟨rv.mono fun _ z => z.1, fun z => by cases z⟩
theorem ent_iff {c : Exp} {a b : Sts} (h : tSt Ph wf br K P0 (.iff c a b) D σ H) : tIfS (tT Ph K W0 c) (tSs Ph wf br K P0 a) (tSs Ph wf br K P0 b) D σ H := by
  obtain ⟨env, r, h⟩ := h
  unfold evS at h
  refine ⟨P0, env, r, (post_bind.mp h).imp (fun p q => ?_) fun _ _ z => z.elim⟩
  obtain ⟨d, env1⟩ := p
  cases d with
  | bool k =>
    refine ⟨k, rfl, fun H1 a1 => ?_⟩
    have a1 : Aft K P0 env σ H env1 H1 := a1
    cases k with
    | true =>
      show if true = true then _ else _
      rw [if_pos rfl]
      exact ⟨env1, a1.re, Post.imp q (fun p z => FlwK.from (.ofAft a1) z) fun _ _ z => z⟩
    | false =>
      show if false = true then _ else _
      rw [if_neg Bool.false_ne_true]
      exact ⟨env1, a1.re, Post.imp q (fun p z => FlwK.from (.ofAft a1) z) fun _ _ z => z⟩
  | _ => exact q.elim
theorem ent_brk (h : tSt Ph wf br K P0 .brk D σ H) : tBreak D σ H := by
  obtain ⟨env, r, h⟩ := h
  unfold evS at h
  exact h σ H (AS.refl r)
theorem ent_cont (h : tSt Ph wf br K P0 .cont D σ H) : tCont D σ H := by
  obtain ⟨env, r, h⟩ := h
  unfold evS at h
  exact h σ H (AS.refl r)
theorem ent_pass (h : tSt Ph wf br K P0 .pass D σ H) : tNext D σ H := by
  obtain ⟨env, r, h⟩ := h
  unfold evS at h
  exact h σ H (AS.refl r)
theorem ent_never (h : tSt Ph wf br K P0 .never D σ H) : tNever D σ H := by
  obtain ⟨env, r, h⟩ := h
  unfold evS at h
  exact h.elim
theorem ent_ssnil (h : tSs Ph wf br K P0 .nil D σ H) : tNext D σ H := by
  obtain ⟨env, r, h⟩ := h
  unfold evSs at h
  exact h σ H (AS.refl r)
theorem ent_sscons {s : Stm} {ss : Sts} (h : tSs Ph wf br K P0 (.cons s ss) D σ H) : tSeq (tSt Ph wf br K P0 s) (tSs Ph wf br K P0 ss) D σ H := by
  obtain ⟨env, r, h⟩ := h
  unfold evSs at h
  refine ⟨env, r, (post_bind.mp h).imp (fun p q => ?_) fun _ _ z => z⟩
  obtain ⟨f, env1⟩ := p
  cases f with
  | nx => exact fun σ' H' a => ⟨env1, a.re, Post.imp q (fun p z => FlwK.from a z) fun _ _ z => z⟩
  | brk => exact q
  | cont => exact q
  | ret d f => exact q
theorem ent_whil {c : Exp} {b : Sts} (h : tSt Ph wf br K P0 (.whil c b) D σ H) : tWhile (tT Ph K W0 c) (tSs Ph wf br K P0 b) D σ H := by
  obtain ⟨env, r, h⟩ := h
  unfold evS at h
  refine ⟨fun m σ' H' => ∃ env', AS K P0 br env σ H env' σ' H' ∧ Post (whileLoop (fun e => ev Ph c e) (fun e => evSs Ph wf br b e) m env') (FlwK K P0 br D env σ H) F0, ⟨wf, env, AS.refl r, h⟩, ?_⟩
  rintro m σ' H' ⟨env', a, h⟩
  cases m with
  | zero =>
    unfold whileLoop at h
    exact h.elim
  | succ m =>
    unfold whileLoop at h
    refine ⟨P0, env', a.re, (post_bind.mp h).imp (fun p q => ?_) fun _ _ z => z.elim⟩
    obtain ⟨d, env1⟩ := p
    cases d with
    | bool k =>
      refine ⟨k, rfl, fun H1 a1 => ?_⟩
      have a1 : Aft K P0 env' σ' H' env1 H1 := a1
      have a2 := a.trans (.ofAft a1)
      cases k with
      | false =>
        show if false = true then _ else _
        rw [if_neg Bool.false_ne_true]
        exact q σ' H1 a2
      | true =>
        show if true = true then _ else _
        rw [if_pos rfl]
        refine ⟨fun σ2 H2 => ∃ env2, AS K P0 br env σ H env2 σ2 H2 ∧ Post (whileLoop (fun e => ev Ph c e) (fun e => evSs Ph wf br b e) m env2) (FlwK K P0 br D env σ H) F0, fun σ2 H2 z => ⟨m, Nat.lt_succ_self m, z⟩, env1, a1.re, (post_bind.mp q).imp (fun p q => ?_) fun _ _ z => z⟩
        obtain ⟨f, env2⟩ := p
        cases f with
        | nx => exact fun σ2 H2 b => ⟨env2, a2.trans b, q⟩
        | cont => exact fun σ2 H2 b => ⟨env2, a2.trans b, q⟩
        | brk => exact fun σ2 H2 b => q σ2 H2 (a2.trans b)
        | ret d f => exact FlwK.from a2 q
    | _ => exact q.elim
theorem ent_forr {tg : Tg} {it : Itx} {b : Sts} (hz : br = true → 0 ∉ tgSlots tg) (h : tSt Ph wf br K P0 (.forr tg it b) D σ H) : tFor (tI Ph K W0 it) (tTg K tg) (tSs Ph wf br K P0 b) D σ H := by
  obtain ⟨env, r, h⟩ := h
  unfold evS at h
  refine ⟨P0, env, r, (post_bind.mp h).imp (fun p q J H1 a1 io => ?_) fun _ _ z => z.elim⟩
  obtain ⟨xs, env1⟩ := p
  have a1 : Aft K P0 env σ H env1 H1 := a1
  have io : ItOk K (Stb P0 env1 σ) H1 J xs := io
  refine ⟨fun i m σ' H' => m = xs.length - i ∧ i ≤ xs.length ∧ ∃ envi, AS K P0 br env1 σ H1 envi σ' H' ∧ Post (forLoop (fun x e => (opt (store tg x e)).bind fun e1 => evSs Ph wf br b e1) (xs.drop i) envi) (FlwK K P0 br D env σ H) F0,
    ⟨_, rfl, Nat.zero_le _, env1, AS.refl a1.re, by rw [List.drop_zero]; exact q⟩, ?_⟩
  rintro i m σ' H' ⟨rfl, hi, envi, ai, q⟩
  have a2 : AS K P0 br env σ H envi σ' H' := (AS.ofAft a1).trans ai
  have kp : Keep (Stb P0 env1 σ) H1 H' := ai.ko.keep a1.re
  by_cases hlt : i < xs.length
  · rw [List.drop_eq_getElem_cons hlt] at q
    unfold forLoop at q
    obtain ⟨env2, es, q⟩ := post_opt.mp (post_bind.mp (post_bind.mp q))
    refine .inr ⟨io.go i H' kp hlt, fun σ2 H2 => ∃ env2, AS K P0 br env1 σ H1 env2 σ2 H2 ∧ Post (forLoop (fun x e => (opt (store tg x e)).bind fun e1 => evSs Ph wf br b e1) (xs.drop (i + 1)) env2) (FlwK K P0 br D env σ H) F0,
      fun σ2 H2 z => ⟨_, by omega, rfl, hlt, z⟩, fun x H2 hy => ?_⟩
    obtain ⟨grow, rx⟩ := io.yld i H' x H2 xs[i] kp (by simp) hy
    have r2 : RE K P0 envi σ' H2 := ai.re.grow grow
    have ag : AS K P0 br envi σ' H' envi σ' H2 := ⟨r2, KeepO.all grow, fun _ z => .inl z, none_grow grow, fun _ => rfl⟩
    refine ⟨P0, envi, xs[i], env2, r2, rx.mono fun a z => ⟨z.1.1, fun w => (ai.less a w).elim z.1.2 z.2⟩, es, fun σ3 st => ?_⟩
    have a3 : AS K P0 br env1 σ H1 env2 σ3 H2 := (ai.trans ag).trans (AS.ofSto st hz)
    refine ⟨env2, st.re, Post.imp q (fun p q => ?_) fun _ _ z => z⟩
    obtain ⟨f, env4⟩ := p
    cases f with
    | nx => exact fun σ4 H4 b => ⟨env4, a3.trans b, q⟩
    | cont => exact fun σ4 H4 b => ⟨env4, a3.trans b, q⟩
    | brk => exact fun σ4 H4 b => q σ4 H4 ((AS.ofAft a1).trans (a3.trans b))
    | ret d f => exact FlwK.from ((AS.ofAft a1).trans a3) q
  · have e : i = xs.length := by omega
    subst e
    rw [List.drop_length] at q
    unfold forLoop at q
    exact .inl ⟨io.stop H' kp, q σ' H' a2⟩
end
end PV
set_option Elab.async false
set_option linter.all false
set_option maxRecDepth 100000
set_option maxHeartbeats 2000000
/-! PV, part N: statements that change a list. -/
namespace PV
open PySem PySem.Spec PyProof.Rows L2
variable [Wd]
section
variable {K : PySem.W.Frag} {P0 : Pa} {br : Bool} {env env1 env2 : Fram} {σ σ1 σ2 : L2.St} {H H1 H2 : Hp}
theorem AS.changeG (r : RE K P0 env σ H) {i : Nat} {d d' : D} {a : Addr} {o : HO} (hi : env[i]? = some (.own d)) (hs : σ[i]? = some (some (.ref a))) (q : ∀ (H' : Hp) (P' : Pa), Keep (Stb P0 env σ) H H' → (∀ b, Stb P0 env σ b → P' b) → H' a = some o → ROwn K H' P' a d') :
    AS K P0 br env σ H (env.set i (.own d')) σ (upd H a o) := by
  obtain ⟨r2, ko⟩ := r.changeG (d' := d') hi hs q
  refine ⟨r2, ko, fun c w => .inl ?_, fun c z => ?_, fun _ => rfl⟩
  · obtain ⟨j, e, h1, h2⟩ := w
    by_cases hj : i = j
    · subst hj
      exact ⟨i, d, hi, h2⟩
    · rw [List.getElem?_set_ne hj] at h1
      exact ⟨j, e, h1, h2⟩
  · by_cases hc : c = a
    · subst hc
      rw [upd_same] at z
      cases z
    · rw [upd_ne hc] at z
      exact z
theorem AS.change (r : RE K P0 env σ H) {i : Nat} {d : D} {a : Addr} {ys : List V} {es : List D} (hi : env[i]? = some (.own d)) (hs : σ[i]? = some (some (.ref a))) (q : RPs K H (Stb P0 env σ) ys es) :
    AS K P0 br env σ H (env.set i (.own (.list es))) σ (upd H a (.lst ys)) := AS.changeG r hi hs fun H' P' k m e => .lst e (q.keep k m)
theorem RE.ownD (r : RE K P0 env σ H) {i : Nat} {xs : List (D × D)} {a : Addr} (hi : env[i]? = some (.own (.dict xs))) (hs : σ[i]? = some (some (.ref a))) : ∃ ep ws, H a = some (.ext (rawD a ep ws)) ∧ REs K H (Stb P0 env σ) ws xs := by
  obtain ⟨b, e, ro⟩ := r.own i _ hi
  rw [hs] at e
  cases e
  cases ro with
  | dct h q => exact ⟨_, _, h, q⟩
theorem RE.ownL (r : RE K P0 env σ H) {i : Nat} {xs : List D} {a : Addr} (hi : env[i]? = some (.own (.list xs))) (hs : σ[i]? = some (some (.ref a))) : ∃ ws, H a = some (.lst ws) ∧ RPs K H (Stb P0 env σ) ws xs := by
  obtain ⟨b, e, ro⟩ := r.own i _ hi
  rw [hs] at e
  cases e
  cases ro with
  | lst h q => exact ⟨_, h, q⟩
theorem RE.ownAtI (r : RE K P0 env σ H) {i : Nat} (h : isOwn env i = true) : ∃ a, σ[i]? = some (some (.ref a)) := by
  obtain ⟨d, e⟩ := isOwn_iff.mp h
  obtain ⟨a, e2, _⟩ := r.own i d e
  exact ⟨a, e2⟩
end
section
variable {Ph : CallF} {wf : Nat} {br : Bool} {K : PySem.W.Frag} {P0 : Pa} {env : Fram} {σ : L2.St} {H : Hp} {D : Ends} {e ix : Exp} {i : Nat}
theorem ent_setIx (h : tSt Ph wf br K P0 (.setIx i ix e) D σ H) : tAsg (tE Ph K W0 e) (gSub (tVar i) (tE Ph K W0 ix) (rSet K)) D σ H := by
  obtain ⟨env, r, h⟩ := h
  unfold evS at h
  refine tE_in r (post_bind.mp h) fun d env1 q v H1 a1 rv => ?_
  replace q : Post (if (!isOwn env1 i) = true then Res.bad else (ev Ph ix env1).bind fun q => match q.2[i]?, q.1 with
    | some (.own (.list xs)), .int k => (match place xs.length k with
      | some j => Res.ok (Flw.nx, q.2.set i (.own (.list (xs.set j d))))
      | none => .bad)
    | some (.own (.dict kvs)), y => (match key? y with
      | some k => if kvs.length < LINE then Res.ok (Flw.nx, q.2.set i (.own (.dict (dPut kvs k y d)))) else .bad
      | none => .bad)
    | _, _ => .bad) (FlwK K P0 br D env σ H) F0 := q
  by_cases ho : isOwn env1 i = true
  · rw [ho, Bool.not_true, if_neg Bool.false_ne_true] at q
    obtain ⟨a, hs⟩ := a1.re.ownAtI ho
    refine ⟨.ref a, hs, tE_in a1.re (post_bind.mp q) fun dk env2 q w H2 a2 rw' => ?_⟩
    replace q : Post (match env2[i]?, dk with
      | some (.own (.list xs)), .int k => (match place xs.length k with
        | some j => Res.ok (Flw.nx, env2.set i (.own (.list (xs.set j d))))
        | none => .bad)
      | some (.own (.dict kvs)), y => (match key? y with
        | some k => if kvs.length < LINE then Res.ok (Flw.nx, env2.set i (.own (.dict (dPut kvs k y d)))) else .bad
        | none => .bad)
      | _, _ => .bad) (FlwK K P0 br D env σ H) F0 := q
    have a12 := a1.trans a2
    have rv2 := a2.rp a1.re rv
    split at q
    · rename_i xs k hi
      obtain ⟨ws, hw, rs⟩ := a2.re.ownL hi hs
      cases rw' with
      | int =>
        split at q
        · rename_i j hj
          exact .inl ⟨a, ws, k, j, rfl, rfl, hw, by rw [rs.length]; exact hj, q σ _ ((AS.ofAft a12).trans (AS.change a2.re hi hs (rs.set j rv2)))⟩
        · exact q.elim
    · rename_i kvs hi
      obtain ⟨ep, ws, hw, rs⟩ := a2.re.ownD hi hs
      split at q
      · rename_i k hk
        split at q
        · rename_i hl
          refine .inr ⟨a, ep, ws, _, kvs, _, k, rfl, rw', hk, hw, rs, by rw [rs.length]; exact hl, fun ep' b u eb ru => ?_⟩
          obtain ⟨ek, hd, _⟩ := key_s hk
          subst eb
          refine q σ _ ((AS.ofAft a12).trans (AS.changeG a2.re hi hs fun H' P' kp m e => .dct e (REs.keep kp m ?_)))
          have := rs.put hd (by rw [← ek]; exact rw') ru rv2
          rw [← ek] at this
          exact this
        · exact q.elim
      · exact q.elim
    · exact q.elim
  · have ho : isOwn env1 i = false := by simpa using ho
    rw [ho, Bool.not_false, if_pos rfl] at q
    exact q.elim
theorem ent_jar {j : Nat} (hz : br = true → j ≠ 0) (h : tSt Ph wf br K P0 (.jar i ix j e) D σ H) : tAsg (tE Ph K W0 e) (gTup K 2 (gCons (gSub (tVar i) (tE Ph K W0 ix) rSetL) (gCons (gName j) gNil))) D σ H := by
  obtain ⟨env, r, h⟩ := h
  unfold evS at h
  refine tE_in r (post_bind.mp h) fun d env1 q v H1 a1 rv => ?_
  replace q : Post (match d with
    | .tuple [x, y] => if (!isOwn env1 i) = true then Res.bad else (ev Ph ix env1).bind fun q => (match q.2[i]?, q.1 with
      | some (.own (.list xs)), .int k => (match place xs.length k with
        | some m => (opt (store (.name j) y (q.2.set i (.own (.list (xs.set m x)))))).bind fun e1 => Res.ok (Flw.nx, e1)
        | none => .bad)
      | _, _ => .bad)
    | _ => .bad) (FlwK K P0 br D env σ H) F0 := q
  split at q
  · rename_i x y
    obtain ⟨at_, vs, rfl, st, rs⟩ := rv.tuple
    refine ⟨at_, vs, rfl, st, by rw [rs.length]; rfl, ?_⟩
    cases rs with
    | cons rx rs =>
      cases rs with
      | cons ry rs =>
        cases rs
        refine ⟨_, _, rfl, ?_⟩
        by_cases ho : isOwn env1 i = true
        · rw [ho, Bool.not_true, if_neg Bool.false_ne_true] at q
          obtain ⟨a, hs⟩ := a1.re.ownAtI ho
          refine ⟨.ref a, hs, tE_in a1.re (post_bind.mp q) fun dk env2 q w H2 a2 rw' => ?_⟩
          replace q : Post (match env2[i]?, dk with
            | some (.own (.list xs)), .int k => (match place xs.length k with
              | some m => (opt (store (.name j) y (env2.set i (.own (.list (xs.set m x)))))).bind fun e1 => Res.ok (Flw.nx, e1)
              | none => .bad)
            | _, _ => .bad) (FlwK K P0 br D env σ H) F0 := q
          have a12 := a1.trans a2
          split at q
          · rename_i xs k hi
            obtain ⟨ws, hw, rs⟩ := a2.re.ownL hi hs
            cases rw' with
            | int =>
              split at q
              · rename_i m hm
                obtain ⟨e1, es, q⟩ := post_opt.mp (post_bind.mp q)
                have rx2 := a2.rp a1.re rx
                have ry2 := a2.rp a1.re ry
                have ch := AS.change (br := br) a2.re hi hs (rs.set m rx2)
                have ry3 : RP K (upd H2 a (.lst (ws.set m _))) (Stb P0 (env2.set i (.own (.list (xs.set m x)))) σ) _ y := ry2.keep (ch.ko.keep a2.re) fun c z => ⟨z.1, fun w => z.2 (by
                  obtain ⟨l, u, h1, h2⟩ := w
                  by_cases hl : i = l
                  · subst hl
                    exact ⟨i, _, hi, h2⟩
                  · rw [List.getElem?_set_ne hl] at h1
                    exact ⟨l, u, h1, h2⟩)⟩
                refine ⟨a, ws, k, m, rfl, rfl, hw, by rw [rs.length]; exact hm, ?_⟩
                refine ⟨_, _, rfl, ?_⟩
                unfold store at es
                split at es
                · rename_i hc
                  cases es
                  simp only [Bool.and_eq_true, decide_eq_true_eq, Bool.not_eq_true'] at hc
                  refine ⟨rfl, q _ _ ((AS.ofAft a12).trans (ch.trans (AS.setVal ch.re ry3 hz)))⟩
                · cases es
              · exact q.elim
          · exact q.elim
        · have ho : isOwn env1 i = false := by simpa using ho
          rw [ho, Bool.not_false, if_pos rfl] at q
          exact q.elim
  · exact q.elim
theorem ent_append (h : tSt Ph wf br K P0 (.append i e) D σ H) : tDrop (tBM K "list" rAppend (tVar i) (tCons (tE Ph K W0 e) tNil)) D σ H := by
  obtain ⟨env, r, h⟩ := h
  unfold evS at h
  replace h : Post (if (!isOwnL env i) = true then Res.bad else (ev Ph e env).bind fun p => match p.2[i]? with
    | some (.own (.list xs)) => if xs.length < LINE then Res.ok (Flw.nx, p.2.set i (.own (.list (xs ++ [p.1])))) else .bad
    | _ => .bad) (FlwK K P0 br D env σ H) F0 := h
  by_cases ho : isOwnL env i = true
  · rw [ho, Bool.not_true, if_neg Bool.false_ne_true] at h
    obtain ⟨zs0, hd⟩ : ∃ zs, env[i]? = some (.own (.list zs)) := by
      unfold isOwnL at ho
      split at ho
      · rename_i zs e
        exact ⟨zs, e⟩
      · cases ho
    obtain ⟨a, hs, ro⟩ := r.own i _ hd
    obtain ⟨ys, there⟩ : ∃ ys, H a = some (.lst ys) := by
      cases ro with
      | lst h _ => exact ⟨_, h⟩
    refine ⟨.ref a, hs, .inl ⟨rfl, _, SqL.of there⟩, tE_in r (post_bind.mp h) fun d env1 q v H1 a1 rv => ?_⟩
    replace q : Post (match env1[i]? with
      | some (.own (.list xs)) => if xs.length < LINE then Res.ok (Flw.nx, env1.set i (.own (.list (xs ++ [d])))) else .bad
      | _ => .bad) (FlwK K P0 br D env σ H) F0 := q
    split at q
    · rename_i xs hi
      split at q
      · rename_i hl
        obtain ⟨ws, hw, rs⟩ := a1.re.ownL hi hs
        have hl' : xs.length < 16777216 := hl
        refine ⟨a, ws, v, rfl, rfl, hw, by rw [rs.length, sizeLine_eq]; exact hl', ?_⟩
        exact q σ _ ((AS.ofAft a1).trans (AS.change a1.re hi hs (rs.append (.cons rv .nil))))
      · exact q.elim
    · exact q.elim
  · have ho : isOwnL env i = false := by simpa using ho
    rw [ho, Bool.not_false, if_pos rfl] at h
    exact h.elim
theorem ent_extend (h : tSt Ph wf br K P0 (.extend i e) D σ H) : tDrop (tBM K "list" rExtend (tVar i) (tCons (tG Ph K W0 e) tNil)) D σ H := by
  obtain ⟨env, r, h⟩ := h
  unfold evS at h
  replace h : Post (if (!isOwnL env i) = true then Res.bad else (ev Ph e env).bind fun p => match p.2[i]?, p.1 with
    | some (.own (.list xs)), .list ys => if xs.length + ys.length ≤ LINE then Res.ok (Flw.nx, p.2.set i (.own (.list (xs ++ ys)))) else .bad
    | _, _ => .bad) (FlwK K P0 br D env σ H) F0 := h
  by_cases ho : isOwnL env i = true
  · rw [ho, Bool.not_true, if_neg Bool.false_ne_true] at h
    obtain ⟨zs0, hd⟩ : ∃ zs, env[i]? = some (.own (.list zs)) := by
      unfold isOwnL at ho
      split at ho
      · rename_i zs e
        exact ⟨zs, e⟩
      · cases ho
    obtain ⟨a, hs, ro⟩ := r.own i _ hd
    obtain ⟨ys, there⟩ : ∃ ys, H a = some (.lst ys) := by
      cases ro with
      | lst h _ => exact ⟨_, h⟩
    refine ⟨.ref a, hs, .inl ⟨rfl, _, SqL.of there⟩, tG_in r (post_bind.mp h) fun d env1 q v H1 a1 rv fr => ?_⟩
    replace q : Post (match env1[i]?, d with
      | some (.own (.list xs)), .list ys => if xs.length + ys.length ≤ LINE then Res.ok (Flw.nx, env1.set i (.own (.list (xs ++ ys)))) else .bad
      | _, _ => .bad) (FlwK K P0 br D env σ H) F0 := q
    split at q
    · rename_i xs zs hi
      split at q
      · rename_i hl
        obtain ⟨ws, hw, rs⟩ := a1.re.ownL hi hs
        obtain ⟨b, rfl, nb, re, rb⟩ := fr rfl
        cases rb with
        | lst hb rz =>
          have hl' : xs.length + zs.length ≤ 16777216 := hl
          refine ⟨a, b, ws, _, rfl, rfl, hw, hb, by rw [rs.length, rz.length, sizeLine_eq]; exact hl', ?_⟩
          exact q σ _ ((AS.ofAft a1).trans (AS.change a1.re hi hs (rs.append (rz.mono fun _ z => ⟨z.1.1, z.2⟩))))
      · exact q.elim
    · exact q.elim
  · have ho : isOwnL env i = false := by simpa using ho
    rw [ho, Bool.not_false, if_pos rfl] at h
    exact h.elim
end
end PV
set_option Elab.async false
set_option linter.all false
set_option maxRecDepth 100000
set_option maxHeartbeats 2000000
/-! PV, part O: several targets at once; the matcher of statements; soundness. -/
namespace PV
open PySem PySem.Spec PyProof.Rows L2
variable [Wd]
def PB (P : Pa) (as : List Addr) : Pa := fun a => P a ∧ a ∉ as
/-- values at hand; the new lists among them stand at as -/
inductive ParOk (K : PySem.W.Frag) (H : Hp) (P : Pa) : List Bool → List V → List D → List Addr → Prop
  | nil : ParOk K H P [] [] [] []
  | val {bs : List Bool} {v : V} {vs : List V} {d : D} {ds : List D} {as : List Addr} : RP K H P v d → ParOk K H P bs vs ds as → ParOk K H P (false :: bs) (v :: vs) (d :: ds) as
  | no {bs : List Bool} {v : V} {vs : List V} {d : D} {ds : List D} {as : List Addr} : isSeq d = false → ParOk K H P bs vs ds as → ParOk K H P (true :: bs) (v :: vs) (d :: ds) as
  | own {bs : List Bool} {b : Addr} {vs : List V} {d : D} {ds : List D} {as : List Addr} : ROwn K H P b d → b ∉ as → ParOk K H P bs vs ds as → ParOk K H P (true :: bs) (.ref b :: vs) (d :: ds) (b :: as)
def tPars (Ph : CallF) (K : PySem.W.Frag) : List Bool → Exs → TA
  | [], _ => tNil
  | _ :: _, .nil => tNil
  | b :: bs, .cons e es => tCons (if b = true then tG Ph K W0 e else tE Ph K W0 e) (tPars Ph K bs es)
section
variable {K : PySem.W.Frag} {P P' P0 : Pa} {br : Bool} {env env1 env2 : Fram} {σ σ1 σ2 : L2.St} {H H1 H2 : Hp}
theorem ROwn.old {b : Addr} {d : D} (r : ROwn K H P b d) : ROwn K H (fun a => P a ∧ H a ≠ none) b d := by
  cases r with
  | lst h q => exact .lst h q.old
  | dct h q => exact .dct h q.old
theorem ParOk.mono (m : ∀ a, P a → P' a) : ∀ {bs : List Bool} {vs : List V} {ds : List D} {as : List Addr}, ParOk K H P bs vs ds as → ParOk K H P' bs vs ds as
  | _, _, _, _, .nil => .nil
  | _, _, _, _, .val r q => .val (r.mono m) (q.mono m)
  | _, _, _, _, .own r n q => .own (r.mono m) n (q.mono m)
  | _, _, _, _, .no r q => .no r (q.mono m)
theorem ROwn.grow {b : Addr} {d : D} (k : ∀ a o, H a = some o → H1 a = some o) (r : ROwn K H P b d) : ROwn K H1 P b d := r.keep (fun _ z _ => k _ _ z) (Keep.all k) fun _ z => z
theorem ParOk.grow (k : ∀ a o, H a = some o → H1 a = some o) : ∀ {bs : List Bool} {vs : List V} {ds : List D} {as : List Addr}, ParOk K H P bs vs ds as → ParOk K H1 P bs vs ds as
  | _, _, _, _, .nil => .nil
  | _, _, _, _, .val r q => .val (r.keep (Keep.all k) fun _ z => z) (q.grow k)
  | _, _, _, _, .own r n q => .own (r.grow k) n (q.grow k)
  | _, _, _, _, .no r q => .no r (q.grow k)
theorem ParOk.length : ∀ {bs : List Bool} {vs : List V} {ds : List D} {as : List Addr}, ParOk K H P bs vs ds as → vs.length = bs.length
  | _, _, _, _, .nil => rfl
  | _, _, _, _, .val _ q => by simp [q.length]
  | _, _, _, _, .own _ _ q => by simp [q.length]
  | _, _, _, _, .no _ q => by simp [q.length]
theorem Aft.weaken (a : Aft K P' env σ H env1 H1) (m : ∀ b, P' b → P b) : Aft K P env σ H env1 H1 := ⟨a.re.weaken m, a.ko, a.less, a.tr⟩
end
section
variable {Ph : CallF} {K : PySem.W.Frag} {σ : L2.St} {Q : List V → Hp → Prop}
theorem par_in : ∀ {bs : List Bool} {es : Exs} {env : Fram} {H : Hp} {P : Pa} {k : List D × Fram → Prop} {Q : List V → Hp → Prop}, bs.length = exsLen es → RE K P env σ H → Post (evs Ph es env) k F0 →
    (∀ ds env1, k (ds, env1) → ∀ vs H1 as, Aft K P env σ H env1 H1 → RE K (PB P as) env1 σ H1 → (∀ b ∈ as, H b = none) → ParOk K H1 (Stb (PB P as) env1 σ) bs vs ds as → Q vs H1) → tPars Ph K bs es σ H Q
  | [], .nil, env, H, P, k, Q, hl, r, h, hk => by
    unfold evs at h
    exact hk [] env h [] H [] (Aft.refl r) (r.weaken fun a z => ⟨z, by simp⟩) (by simp) .nil
  | [], .cons e es, env, H, P, k, Q, hl, r, h, hk => by simp [exsLen] at hl
  | b :: bs, .nil, env, H, P, k, Q, hl, r, h, hk => by simp [exsLen] at hl
  | b :: bs, .cons e es, env, H, P, k, Q, hl, r, h, hk => by
    have hl' : bs.length = exsLen es := by simpa [exsLen] using hl
    unfold evs at h
    have h := post_bind.mp h
    unfold tPars
    cases b with
    | false =>
      refine tE_in r h fun d env1 q v H1 a1 rv => ?_
      refine par_in hl' a1.re (post_bind.mp q) fun ds env2 q vs H2 as a2 re nas pk => ?_
      refine hk _ env2 q (v :: vs) H2 as (a1.trans a2) re (fun c hc => a1.tr c (nas c hc)) (.val ?_ pk)
      exact rv.old.keep ((a2.ko.keep a1.re).mono fun _ z => z.1) fun c z => ⟨⟨z.1.1, fun hc => z.2 (nas c hc)⟩, fun w => z.1.2 (a2.less c w)⟩
    | true =>
      refine tG_in r h fun d env1 q v H1 a1 rv fr => ?_
      have hs : isSeq d = true ∨ isSeq d = false := by cases isSeq d <;> simp
      rcases hs with hs | hs
      · obtain ⟨b, rfl, nb, re1, ro⟩ := fr hs
        refine par_in (P := fun a => P a ∧ a ≠ b) hl' re1 (post_bind.mp q) fun ds env2 q vs H2 as a2 re nas pk => ?_
        obtain ⟨ws, there, _⟩ := ro.there
        have hb : b ∉ as := fun hc => by
          rw [nas b hc] at there
          cases there
        have pe : ∀ a, PB (fun a => P a ∧ a ≠ b) as a → PB P (b :: as) a := fun a z => ⟨z.1.1, fun hc => by
          rcases List.mem_cons.mp hc with rfl | hc
          · exact z.1.2 rfl
          · exact z.2 hc⟩
        have nob : ¬ OwnA env1 σ b := fun w => by
          obtain ⟨xs, e, _⟩ := r.ownAt (a1.less b w)
          rw [nb] at e
          cases e
        refine hk _ env2 q (.ref b :: vs) H2 (b :: as) (a1.trans (a2.weaken fun _ z => z.1)) (re.weaken pe) (fun c hc => ?_) (.own ?_ hb (pk.mono fun c z => ⟨pe c z.1, z.2⟩))
        · rcases List.mem_cons.mp hc with rfl | hc
          · exact nb
          · exact a1.tr c (nas c hc)
        · refine ro.old.keep (fun xs z _ => a2.ko _ _ z nob) ((a2.ko.keep re1).mono fun _ z => z.1) fun c z => ⟨pe c ⟨z.1.1, fun hc => z.2 (nas c hc)⟩, fun w => z.1.2 (a2.less c w)⟩
      · refine par_in hl' a1.re (post_bind.mp q) fun ds env2 q vs H2 as a2 re nas pk => ?_
        exact hk _ env2 q (v :: vs) H2 as (a1.trans a2) re (fun c hc => a1.tr c (nas c hc)) (.no hs pk)
/-- the slots are stored in -/
def storeV (σ : L2.St) : List (Nat × Bool) → List V → L2.St
  | p :: ps, v :: vs => storeV (σ.set p.1 (some v)) ps vs
  | _, _ => σ
theorem store_par {br : Bool} {P : Pa} {H : Hp} : ∀ {is : List (Nat × Bool)} {es : Exs} {vs : List V} {ds : List D} {as : List Addr} {env env2 : Fram} {σ : L2.St}, RE K (PB P as) env σ H → ParOk K H (Stb (PB P as) env σ) (is.map (·.2)) vs ds as → putAll br is es ds env = some env2 →
    (∀ b ∈ as, ¬ OwnA env σ b ∧ P b) → RE K P env2 (storeV σ is vs) H ∧ (∀ a, OwnA env2 (storeV σ is vs) a → OwnA env σ a ∨ a ∈ as) ∧ (br = true → (storeV σ is vs)[0]? = σ[0]?)
  | [], es, vs, ds, as, env, env2, σ, r, pk, h, nas => by
    cases pk
    cases es <;> simp [putAll] at h
    subst h
    exact ⟨r.weaken fun _ z => z.1, fun _ z => .inl z, fun _ => rfl⟩
  | (i, o) :: is, es, vs, ds, as, env, env2, σ, r, pk, h, nas => by
    have h0 : ∀ {d : D} {ds' : List D}, ds = d :: ds' → ∃ e es', es = .cons e es' ∧ (i < env.length ∧ (br = true → i ≠ 0) ∧ (o = true → isSeq d = true)) ∧ putAll br is es' ds' (env.set i (if o then .own d else .val d)) = some env2 := fun {d ds'} e => by
      subst e
      cases es with
      | nil => simp [putAll] at h
      | cons e es' =>
        refine ⟨e, es', rfl, ?_⟩
        unfold putAll at h
        split at h
        · rename_i hc
          refine ⟨?_, h⟩
          simp only [Bool.and_eq_true, decide_eq_true_eq, Bool.not_eq_true', Bool.or_eq_true, Bool.and_eq_false_iff, beq_eq_false_iff_ne] at hc
          obtain ⟨⟨h1, h2⟩, h3⟩ := hc
          refine ⟨h1, fun z => ?_, fun z => ?_⟩
          · rcases h2 with h | h
            · rw [z] at h
              cases h
            · exact h
          · rcases h3 with h | h
            · rw [z] at h
              cases h
            · exact h.2
        · cases h
    cases pk with
    | val rv pk =>
      obtain ⟨e, es', rfl, ⟨h1, h2, _⟩, h⟩ := h0 rfl
      obtain ⟨q1, q2, q3⟩ := store_par (r.setVal rv) (pk.mono fun a z => ⟨z.1, fun w => z.2 w.val⟩) h fun b hb => ⟨fun w => (nas b hb).1 w.val, (nas b hb).2⟩
      exact ⟨q1, fun a z => (q2 a z).imp_left OwnA.val, fun z => (q3 z).trans (List.getElem?_set_ne (h2 z))⟩
    | no hs pk =>
      obtain ⟨e, es', rfl, ⟨_, _, h3⟩, _⟩ := h0 rfl
      rw [h3 rfl] at hs
      cases hs
    | own ro hb pk =>
      rename_i b _ _ _ as
      obtain ⟨e, es', rfl, ⟨h1, h2, _⟩, h⟩ := h0 rfl
      have hl : i < σ.length := by
        rw [r.len]
        exact h1
      have eqv : ∀ a, PB P (b :: as) a ↔ PB P as a ∧ a ≠ b := fun a => ⟨fun z => ⟨⟨z.1, fun w => z.2 (List.mem_cons_of_mem _ w)⟩, fun w => z.2 (by simp [w])⟩, fun z => ⟨z.1.1, fun w => by
        rcases List.mem_cons.mp w with w | w
        · exact z.2 w
        · exact z.1.2 w⟩⟩
      have nb := nas b (by simp)
      have r' : RE K (fun a => PB P as a ∧ a ≠ b) env σ H := r.weaken fun a z => (eqv a).mp z
      have ro' : ROwn K H (Stb (fun a => PB P as a ∧ a ≠ b) env σ) b _ := ro.mono fun a z => ⟨(eqv a).mp z.1, z.2⟩
      have r2 := r'.setOwn h1 nb.1 ⟨nb.2, hb⟩ ro'
      obtain ⟨q1, q2, q3⟩ := store_par r2 (pk.mono fun a z => ⟨((eqv a).mp z.1).1, fun w => (w.own hl).elim z.2 ((eqv a).mp z.1).2⟩) h fun c hc => ⟨fun w => (w.own hl).elim (nas c (by simp [hc])).1 fun z => hb (z ▸ hc), (nas c (by simp [hc])).2⟩
      refine ⟨q1, fun a z => ?_, fun z => (q3 z).trans (List.getElem?_set_ne (h2 z))⟩
      rcases q2 a z with w | w
      · rcases w.own hl with w | w
        · exact .inl w
        · exact .inr (by simp [w])
      · exact .inr (by simp [w])
end
section
variable {Ph : CallF} {wf : Nat} {br : Bool} {K : PySem.W.Frag} {P0 : Pa} {σ : L2.St} {H : Hp} {D : Ends}
theorem ent_par {is : List (Nat × Bool)} {es : Exs} (hl : is.length = exsLen es) (h : tSt Ph wf br K P0 (.par is es) D σ H) : tPars Ph K (is.map (·.2)) es σ H fun vs H1 => vs.length = is.length ∧ ∀ H2, (∀ a o, H1 a = some o → H2 a = some o) → D.nx (storeV σ is vs) H2 := by
  obtain ⟨env, r, h⟩ := h
  unfold evS at h
  refine par_in (by simpa using hl) r (post_bind.mp h) fun ds env1 q vs H1 as a1 re nas pk => ?_
  obtain ⟨env2, e2, q⟩ := post_opt.mp (post_bind.mp q)
  have len := pk.length
  refine ⟨by simpa using len, fun H2 grow => ?_⟩
  have nas' : ∀ b ∈ as, ¬ OwnA env1 σ b ∧ P0 b := fun b hb => ⟨fun w => (by
    obtain ⟨xs, e, _⟩ := r.ownAt (a1.less b w)
    rw [nas b hb] at e
    cases e), r.new b (nas b hb)⟩
  obtain ⟨q1, q2, q3⟩ := store_par (re.grow grow) (pk.grow grow) e2 nas'
  refine q _ H2 ⟨q1, fun a o e n => grow a o (a1.ko a o e n), fun a w => ?_, fun a z => a1.tr a (none_grow grow a z), q3⟩
  rcases q2 a w with w | w
  · exact .inl (a1.less a w)
  · exact .inr (nas a w)
end
end PV
set_option Elab.async false
set_option linter.all false
set_option maxRecDepth 100000
set_option maxHeartbeats 2000000
/-! PV, part P: the matcher of statements; soundness. -/
namespace PV
open PySem PySem.Spec PyProof.Rows L2
variable [Wd]
section
variable {env : PySem.Env} {a b c : Expr} {x y z : Str} {px py pz pt pt2 : Pos} {kt k2 : Nat}
def foldOk (xs : List Expr) : Bool := xs.all (foldedForSure 8) || !xs.all (constantsAlone 8)
theorem star_any {xs : List Expr} (h : ∀ e ∈ xs, notStar e = true) {f : Expr → Bool} (hf : ∀ e, notStar e = true → f e = false) : xs.any f = false := by
  rw [List.any_eq_false]
  intro e he
  rw [hf e (h e he)]
  exact Bool.false_ne_true
theorem sw2 (hk : env.blockKind = .function) (ha : notStar a = true) (hb : notStar b = true) (hf : foldOk [a, b] = true) :
    swappedStores [.Tuple [.Name x px, .Name y py] kt pt] (.Tuple [a, b] k2 pt2) env = pure none ∨ ((env.kindOf x = some .local ∧ env.kindOf y = some .local ∧ x ≠ y) ∧ swappedStores [.Tuple [.Name x px, .Name y py] kt pt] (.Tuple [a, b] k2 pt2) env = pure (some [x, y])) := by
  unfold swappedStores
  simp only [hk, List.length_cons, List.length_nil]
  rw [if_neg (by decide)]
  rw [if_neg (by
    rw [star_any (xs := [a, b]) (fun e he => by
      rcases List.mem_cons.mp he with rfl | he
      · exact ha
      · rw [List.mem_singleton.mp he]
        exact hb) (fun e he => by cases e <;> first | rfl | cases he)]
    exact Bool.false_ne_true)]
  have hx : (Option.map (fun e : Expr => e.pos.line) [Expr.Name x px, Expr.Name y py].head?).getD 0 = px.line := rfl
  simp only [hx, List.filterMap_cons, List.filterMap_nil]
  cases h1 : (env.kindOf x == some NameKind.local && px.line == px.line) with
  | false =>
    left
    cases h2 : (env.kindOf y == some NameKind.local && py.line == px.line) <;> simp
  | true =>
    cases h2 : (env.kindOf y == some NameKind.local && py.line == px.line) with
    | false =>
      left
      simp
    | true =>
      simp only [Bool.and_eq_true, beq_iff_eq] at h1 h2
      by_cases e : x = y
      · left
        subst e
        have hd : [x, x].eraseDups = [x] := by simp [List.eraseDups_cons]
        simp [hd]
      · simp only [if_true]
        unfold foldOk at hf
        cases h3 : [a, b].all (foldedForSure 8) with
        | true =>
          left
          split <;> rfl
        | false =>
          right
          refine ⟨⟨h1.1, h2.1, e⟩, ?_⟩
          rw [h3, Bool.false_or, Bool.not_eq_true'] at hf
          rw [hf]
          have hd : [x, y].eraseDups = [x, y] := by
            have e' : y ≠ x := fun z => e z.symm
            simp [List.eraseDups_cons, e']
          simp [hd]
theorem sw3 (hk : env.blockKind = .function) (ha : notStar a = true) (hb : notStar b = true) (hc : notStar c = true) (hf : foldOk [a, b, c] = true) :
    swappedStores [.Tuple [.Name x px, .Name y py, .Name z pz] kt pt] (.Tuple [a, b, c] k2 pt2) env = pure none ∨ ((env.kindOf x = some .local ∧ env.kindOf y = some .local ∧ env.kindOf z = some .local ∧ x ≠ y ∧ x ≠ z ∧ y ≠ z) ∧ swappedStores [.Tuple [.Name x px, .Name y py, .Name z pz] kt pt] (.Tuple [a, b, c] k2 pt2) env = pure (some [x, y, z])) := by
  unfold swappedStores
  simp only [hk, List.length_cons, List.length_nil]
  rw [if_neg (by decide)]
  rw [if_neg (by
    rw [star_any (xs := [a, b, c]) (fun e he => by
      rcases List.mem_cons.mp he with rfl | he
      · exact ha
      · rcases List.mem_cons.mp he with rfl | he
        · exact hb
        · rw [List.mem_singleton.mp he]
          exact hc) (fun e he => by cases e <;> first | rfl | cases he)]
    exact Bool.false_ne_true)]
  have hx : (Option.map (fun e : Expr => e.pos.line) [Expr.Name x px, Expr.Name y py, Expr.Name z pz].head?).getD 0 = px.line := rfl
  simp only [hx, List.filterMap_cons, List.filterMap_nil]
  cases h1 : (env.kindOf x == some NameKind.local && px.line == px.line) with
  | false =>
    left
    cases h2 : (env.kindOf y == some NameKind.local && py.line == px.line) <;> cases h3 : (env.kindOf z == some NameKind.local && pz.line == px.line) <;> simp
  | true =>
    cases h2 : (env.kindOf y == some NameKind.local && py.line == px.line) with
    | false =>
      left
      cases h3 : (env.kindOf z == some NameKind.local && pz.line == px.line) <;> simp
    | true =>
      cases h3 : (env.kindOf z == some NameKind.local && pz.line == px.line) with
      | false =>
        left
        simp
      | true =>
        simp only [Bool.and_eq_true, beq_iff_eq] at h1 h2 h3
        by_cases e : x = y
        · left
          subst e
          by_cases e2 : z = x
          · have hd : [x, x, z].eraseDups.length ≠ 3 := by simp [List.eraseDups_cons, e2]
            simp [hd]
          · have hd : [x, x, z].eraseDups.length ≠ 3 := by simp [List.eraseDups_cons, e2]
            simp [hd]
        · have e' : y ≠ x := fun w => e w.symm
          by_cases e2 : z = x
          · left
            have hd : [x, y, z].eraseDups.length ≠ 3 := by simp [List.eraseDups_cons, e2, e']
            simp [hd]
          · by_cases e3 : z = y
            · left
              have hd : [x, y, z].eraseDups.length ≠ 3 := by simp [List.eraseDups_cons, e3, e']
              simp [hd]
            · simp only [if_true]
              unfold foldOk at hf
              have hd : [x, y, z].eraseDups = [x, y, z] := by simp [List.eraseDups_cons, e', e2, e3]
              cases h4 : [a, b, c].all (foldedForSure 8) with
              | true =>
                left
                split <;> rfl
              | false =>
                right
                refine ⟨⟨h1.1, h2.1, h3.1, e, fun w => e2 w.symm, fun w => e3 w.symm⟩, ?_⟩
                rw [h4, Bool.false_or, Bool.not_eq_true'] at hf
                rw [hf]
                simp [hd]
theorem sw_other {ts xs : List Expr} (h2 : ts.length ≠ 2) (h3 : ts.length ≠ 3) : swappedStores [.Tuple ts kt pt] (.Tuple xs k2 pt2) env = pure none := by
  unfold swappedStores
  have e : (ts.length == 2 || ts.length == 3) = false := by simp [h2, h3]
  simp [e]
end
end PV
set_option Elab.async false
set_option linter.all false
set_option maxRecDepth 100000
set_option maxHeartbeats 2000000
/-! PV, part Q: the matcher of statements; soundness. -/
namespace PV
open PySem PySem.Spec PyProof.Rows L2
variable [Wd]
/-! views -/
def vAsg : Stmt → Option (Expr × Expr)
  | .Assign [t] x _ => some (t, x)
  | _ => none
def vExprS : Stmt → Option Expr
  | .Expr x _ => some x
  | _ => none
def vRet : Stmt → Option (Option Expr)
  | .Return x _ => some x
  | _ => none
def vIfS : Stmt → Option (Expr × List Stmt × List Stmt)
  | .If c a b _ => some (c, a, b)
  | _ => none
def vWhile : Stmt → Option (Expr × List Stmt)
  | .While c a [] _ => some (c, a)
  | _ => none
def vFor : Stmt → Option (Expr × Expr × List Stmt)
  | .For t i b [] _ => some (t, i, b)
  | _ => none
def vMeth : Expr → Option (Str × Str × Expr)
  | .Call (.Attribute (.Name n _) m ap) [y] [] p => if ap.endLine == p.line then some (n, m, y) else none
  | _ => none
theorem vAsg_s {s : Stmt} {t x : Expr} (h : vAsg s = some (t, x)) : ∃ p, s = .Assign [t] x p := by
  unfold vAsg at h
  split at h
  · cases h
    exact ⟨_, rfl⟩
  · cases h
theorem vExprS_s {s : Stmt} {x : Expr} (h : vExprS s = some x) : ∃ p, s = .Expr x p := by
  unfold vExprS at h
  split at h
  · cases h
    exact ⟨_, rfl⟩
  · cases h
theorem vRet_s {s : Stmt} {x : Option Expr} (h : vRet s = some x) : ∃ p, s = .Return x p := by
  unfold vRet at h
  split at h
  · cases h
    exact ⟨_, rfl⟩
  · cases h
theorem vIfS_s {s : Stmt} {c : Expr} {a b : List Stmt} (h : vIfS s = some (c, a, b)) : ∃ p, s = .If c a b p := by
  unfold vIfS at h
  split at h
  · cases h
    exact ⟨_, rfl⟩
  · cases h
theorem vWhile_s {s : Stmt} {c : Expr} {a : List Stmt} (h : vWhile s = some (c, a)) : ∃ p, s = .While c a [] p := by
  unfold vWhile at h
  split at h
  · cases h
    exact ⟨_, rfl⟩
  · cases h
theorem vFor_s {s : Stmt} {t i : Expr} {a : List Stmt} (h : vFor s = some (t, i, a)) : ∃ p, s = .For t i a [] p := by
  unfold vFor at h
  split at h
  · cases h
    exact ⟨_, rfl⟩
  · cases h
theorem vMeth_s {e y : Expr} {n m : Str} (h : vMeth e = some (n, m, y)) : ∃ p1 ap p, e = .Call (.Attribute (.Name n p1) m ap) [y] [] p ∧ (ap.endLine == p.line) = true := by
  unfold vMeth at h
  split at h
  · split at h
    · rename_i hc
      cases h
      exact ⟨_, _, _, rfl, hc⟩
    · cases h
  · cases h
def notComp : Expr → Bool
  | .ListComp _ _ _ _ => false
  | .SetComp _ _ _ _ => false
  | .DictComp _ _ _ _ _ => false
  | _ => true
def isCompE : Exp → Bool
  | .comp _ _ _ _ _ => true
  | _ => false
def notTup : Expr → Bool
  | .Tuple _ _ _ => false
  | _ => true
def isVar : Exp → Bool
  | .var _ => true
  | _ => false
variable (M : Mt) (br : Bool)
def mNm (sc : Scope) (i : Nat) (x : Expr) : Bool := see (vName x) fun n => decide (M.N[i]? = some n) && locB sc sc n && (!br || decide (i ≠ 0))
def mVr (sc : Scope) (i : Nat) (x : Expr) : Bool := see (vName x) fun n => decide (M.N[i]? = some n) && visB sc n && !sayD n
def mPn (sc : Scope) : List (Nat × Bool) → List Expr → Bool
  | [], xs => xs.isEmpty
  | p :: ps, xs => see xs.head? fun x => mNm M br sc p.1 x && mPn sc ps xs.tail
def mPe : List (Nat × Bool) → Exs → Bool
  | [], _ => true
  | _ :: _, .nil => false
  | p :: ps, .cons e es => (!p.2 || makes e) && mPe ps es
mutual
def mS (sc : Scope) : Stm → Stmt → Bool
  | .expr e, s => see (vExprS s) fun x => mE M sc sc e x && notComp x
  | .set i e, s => see (vAsg s) fun p => mNm M br sc i p.1 && mE M sc sc e p.2 && (isCompE e || notComp p.2)
  | .own i e, s => see (vAsg s) fun p => mNm M br sc i p.1 && mE M sc sc e p.2 && (isCompE e || notComp p.2) && makes e
  | .unp ts e, s => see (vAsg s) fun p => mG M sc sc (.tup ts) p.1 && mE M sc sc e p.2 && notTup p.2 && (!br || decide (0 ∉ tgsSlots ts))
  | .par is es, s => see (vAsg s) fun p => see (vTup p.1) fun ts => see (vTup p.2) fun xs => mPn M br sc is ts && mEs M sc sc es xs && mPe is es && decide (is.length = exsLen es) && decide (exsLen es ≤ 1000) && foldOk xs
  | .setIx i ix e, s => see (vAsg s) fun p => see (vIdx p.1) fun q => mVr M sc i q.1 && mE M sc sc ix q.2 && notSlice q.2 && mE M sc sc e p.2
  | .jar i ix j e, s => see (vAsg s) fun p => see (vTup p.1) fun ts => see ts.head? fun t => see ts.tail.head? fun u => see (vIdx t) fun q => ts.tail.tail.isEmpty && mVr M sc i q.1 && mE M sc sc ix q.2 && notSlice q.2 && mNm M br sc j u && mE M sc sc e p.2 && notTup p.2
  | .append i e, s => see (vExprS s) fun x => see (vMeth x) fun p => decide (p.2.1 = "append") && mVr M sc i (.Name p.1 ⟨0, 0, 0, 0⟩) && mE M sc sc e p.2.2 && notStar p.2.2
  | .extend i e, s => see (vExprS s) fun x => see (vMeth x) fun p => decide (p.2.1 = "extend") && mVr M sc i (.Name p.1 ⟨0, 0, 0, 0⟩) && mE M sc sc e p.2.2 && notStar p.2.2 && makes e
  | .ret e, s => see (vRet s) fun x => see x fun x => mE M sc sc e x
  | .retN, s => see (vRet s) fun x => x.isNone
  | .iff c a b, s => see (vIfS s) fun p => mE M sc sc c p.1 && mSs sc a p.2.1 && mSs sc b p.2.2
  | .whil c b, s => see (vWhile s) fun p => mE M sc sc c p.1 && mSs sc b p.2
  | .forr tg it b, s => see (vFor s) fun p => mG M sc sc tg p.1 && mI M sc sc it p.2.1 && (match it with
      | .zip _ _ => isTup p.1
      | .enum _ => isTup p.1
      | _ => true) && notSet p.2.1 && mSs sc b p.2.2 && (!br || decide (0 ∉ tgSlots tg))
  | .brk, s => match s with
    | .Break _ => true
    | _ => false
  | .cont, s => match s with
    | .Continue _ => true
    | _ => false
  | .pass, s => match s with
    | .Pass _ => true
    | _ => false
  | .never, _ => true
def mSs (sc : Scope) : Sts → List Stmt → Bool
  | .nil, xs => xs.isEmpty
  | .cons s ss, xs => see xs.head? fun x => mS sc s x && mSs sc ss xs.tail
end
/-- what is known of the frame of a def -/
structure GS (M : Mt) (Ph : CallF) (X : Cx) (sc : Scope) : Prop extends GX M Ph X sc sc where
  bk : X.env.blockKind = .function
  po : PassesOwn (model X.prog X.w) X.A X.env X.xe
theorem PS.imp {X : Cx} {s : Stmt} {t t' : TS} (h : PS X s t) (m : ∀ D σ H, t' D σ H → t D σ H) : PS X s t' := ⟨fun pins s σ H D I q => h.run pins s σ H D I (m D σ H q)⟩
theorem PSs.imp {X : Cx} {s : List Stmt} {t t' : TS} (h : PSs X s t) (m : ∀ D σ H, t' D σ H → t D σ H) : PSs X s t' := ⟨fun pins s σ H D I q => h.run pins s σ H D I (m D σ H q)⟩
section
variable {M : Mt} {br : Bool} {Ph : CallF} {X : Cx} {sc : Scope} {wf : Nat} {P0 : Pa}
theorem mNm_s {i : Nat} {x : Expr} (G : GS M Ph X sc) (h : mNm M br sc i x = true) : ∃ n p, x = .Name n p ∧ X.N[i]? = some n ∧ L2.Loc X.env.scope n ∧ (X.fn n = true ∨ X.env.scope.names.lookup n = some .local) ∧ (br = true → i ≠ 0) := by
  obtain ⟨n, h1, h2⟩ := see_t h
  obtain ⟨p, rfl⟩ := vName_s h1
  simp only [Bool.and_eq_true, decide_eq_true_eq, Bool.or_eq_true, Bool.not_eq_true'] at h2
  obtain ⟨⟨h2, h3⟩, h4⟩ := h2
  obtain ⟨l1, l2⟩ := G.toGX.loc h3
  refine ⟨n, p, rfl, by rw [G.nm]; exact h2, l1, l2, fun z => ?_⟩
  rcases h4 with h4 | h4
  · rw [z] at h4
    cases h4
  · exact h4
theorem mVr_s {i : Nat} {x : Expr} (G : GS M Ph X sc) (h : mVr M sc i x = true) : ∃ n p, x = .Name n p ∧ ∀ p, PE X (.Name n p) (tVar i) := by
  obtain ⟨n, h1, h2⟩ := see_t h
  obtain ⟨p, rfl⟩ := vName_s h1
  simp only [Bool.and_eq_true, decide_eq_true_eq] at h2
  obtain ⟨⟨hn, hv⟩, hs⟩ := h2
  obtain ⟨s1, s2, s3⟩ := sayD_f hs
  exact ⟨n, p, rfl, fun p => pe_var (by rw [G.nm]; exact hn) (G.toGX.vis hv) s1 s2⟩
theorem notComp_sw {x : Expr} {t : Option Expr} {l : Nat} {env : PySem.Env} (h : notComp x = true) : swapsWith x t l env = pure false := by
  cases x <;> first | rfl | cases h
/-- name = value, on one line with a comprehension or not -/
theorem ps_name {i : Nat} {e : Exp} {x : Expr} {n : Str} {pn pos : Pos} {t : TE} (G : GS M Ph X sc) (hx : mE M sc sc e x = true) (hc : (isCompE e || notComp x) = true) (hi : X.N[i]? = some n) (hl : L2.Loc X.env.scope n) (hf : X.fn n = true ∨ X.env.scope.names.lookup n = some .local)
    (ht : PE X x t) (hm : ∀ σ H Q, t σ H Q → tG Ph X.K W0 e σ H Q) : PS X (.Assign [.Name n pn] x pos) (tAsg t (gName i)) := by
  have hN : X.N.Nodup := by
    rw [G.nm]
    exact G.nd
  have plain : swapsWith x (some (.Name n pn)) pos.line X.env = pure false → PS X (.Assign [.Name n pn] x pos) (tAsg t (gName i)) := fun hs => ps_set hN hi hl ht hs hf
  cases hcx : notComp x with
  | true => exact plain (notComp_sw hcx)
  | false =>
    rw [hcx, Bool.or_false] at hc
    cases e with
    | comp elt tg it cs own =>
      obtain ⟨el, tt, ii, ifs, scope, p, rfl, _, pi, bo, pg, pt, pe, hs, hv⟩ := se_comp (W := W0) G.toGX hx (fun tg y hy ht => mI_s hW0 it G.toGX hy ht) (fun {X sc fs y} G h => mE_s hW0 elt G h) (fun {X sc fs y} G h => mT_s hW0 cs G h)
      have sw : swapsWith (.ListComp el [⟨tt, ii, ifs, 0⟩] scope p) (some (.Name n pn)) pos.line X.env = pure (X.env.blockKind == .function && X.env.kindOf n == some .local && pn.line == p.line && !(scope.names.any fun (m, k) => m == n && (k == .local || k == .cell))) := rfl
      cases hb : (X.env.blockKind == .function && X.env.kindOf n == some .local && pn.line == p.line && !(scope.names.any fun (m, k) => m == n && (k == .local || k == .cell))) with
      | false => exact plain (by rw [sw, hb])
      | true =>
        have hy : X.env.scope.names.lookup n = some .local := by
          simp only [Bool.and_eq_true, beq_iff_eq] at hb
          exact hb.1.1.2
        refine PS.imp (ps_setLc G.calm hN hi hy (by rw [sw, hb]) pi bo pg pt pe hs) fun D σ H h => ?_
        exact ent_lc hv (hm _ _ _ h)
    | _ => cases hc
theorem sel_pars : ∀ {is : List (Nat × Bool)} {es : Exs} {xs : List Expr}, SEL Ph W0 X es xs → mPe is es = true → is.length = exsLen es → PA X xs (tPars Ph X.K (is.map (·.2)) es)
  | [], es, xs, s, h, hl => by
    cases s with
    | nil => exact pa_nil
    | cons _ _ _ => simp [exsLen] at hl
  | p :: ps, es, xs, s, h, hl => by
    cases s with
    | nil => cases h
    | cons s n r =>
      unfold mPe at h
      simp only [Bool.and_eq_true, Bool.or_eq_true, Bool.not_eq_true'] at h
      have rest := sel_pars r h.2 (by simpa [exsLen] using hl)
      unfold tPars
      refine pa_cons ?_ rest (star_f n)
      show PE X _ (if p.2 = true then _ else _)
      cases hp : p.2 with
      | false =>
        rw [if_neg Bool.false_ne_true]
        exact s.e
      | true =>
        rw [if_pos rfl]
        have hm := h.1
        rw [hp] at hm
        rcases hm with hm | hm
        · cases hm
        · exact s.g hm
def gNames : List (Nat × Bool) → TGs
  | [] => gNil
  | p :: ps => gCons (gName p.1) (gNames ps)
theorem gNames_in : ∀ {is : List (Nat × Bool)} {vs : List V} {σ : L2.St} {H : Hp} {Q : L2.St → Hp → Prop}, vs.length = is.length → Q (storeV σ is vs) H → gNames is vs σ H Q
  | [], vs, σ, H, Q, hl, q => by
    have e : vs = [] := by simpa using hl
    subst e
    exact ⟨rfl, q⟩
  | p :: ps, [], σ, H, Q, hl, q => by simp at hl
  | p :: ps, v :: vs, σ, H, Q, hl, q => ⟨v, vs, rfl, gNames_in (by simpa using hl) q⟩
theorem mPn_s (G : GS M Ph X sc) : ∀ {is : List (Nat × Bool)} {ts : List Expr}, mPn M br sc is ts = true → PGs X ts (gNames is) ∧ (assignEach ts X.env).length = is.length ∧ (assignEach ts X.env).findIdx? (·.1) = none ∧ ts.length = is.length
  | [], ts, h => by
    unfold mPn at h
    have e : ts = [] := by simpa using h
    subst e
    exact ⟨pgs_nil, rfl, rfl, rfl⟩
  | p :: ps, ts, h => by
    unfold mPn at h
    obtain ⟨x, h1, h2⟩ := see_t h
    cases ts with
    | nil => cases h1
    | cons y ys =>
      cases h1
      simp only [Bool.and_eq_true, List.tail_cons] at h2
      obtain ⟨n, q, rfl, e1, e2, e3, _⟩ := mNm_s G h2.1
      obtain ⟨r1, r2, r3, r4⟩ := mPn_s G h2.2
      refine ⟨pgs_cons (pg_name (by rw [G.nm]; exact G.nd) e1 e2 e3) r1 (by rfl), ?_, ?_, by simp [r4]⟩
      · show (_ :: assignEach ys X.env).length = _
        rw [List.length_cons, List.length_cons, r2]
      · show List.findIdx? (·.1) ((false, _) :: assignEach ys X.env) = none
        rw [List.findIdx?_cons, r3]
        rfl
theorem SEL.noStar : ∀ {es : Exs} {xs : List Expr}, SEL Ph W0 X es xs → ∀ e ∈ xs, notStar e = true
  | _, _, .nil, e, he => by cases he
  | _, _, .cons s n r, e, he => by
    rcases List.mem_cons.mp he with rfl | he
    · exact n
    · exact SEL.noStar r e he
theorem pars_mono {K : PySem.W.Frag} : ∀ {bs : List Bool} {es : Exs} {σ : L2.St} {H : Hp} {Q Q' : List V → Hp → Prop}, tPars Ph K bs es σ H Q → (∀ vs H, Q vs H → Q' vs H) → tPars Ph K bs es σ H Q'
  | [], es, σ, H, Q, Q', h, m => m _ _ h
  | b :: bs, .nil, σ, H, Q, Q', h, m => m _ _ h
  | b :: bs, .cons e es, σ, H, Q, Q', h, m => by
    unfold tPars at h ⊢
    have step : ∀ v H1, (tPars Ph K bs es σ H1 fun vs H2 => Q (v :: vs) H2) → tPars Ph K bs es σ H1 fun vs H2 => Q' (v :: vs) H2 := fun v H1 z => pars_mono z fun vs H2 w => m _ _ w
    cases b with
    | true =>
      obtain ⟨P, env, r, h⟩ := h
      exact ⟨P, env, r, h.imp (fun p q v H' a b c => step v H' (q v H' a b c)) fun _ _ x => x⟩
    | false =>
      obtain ⟨P, env, r, h⟩ := h
      exact ⟨P, env, r, h.imp (fun p q v H' a b => step v H' (q v H' a b)) fun _ _ x => x⟩
theorem ps_parM {is : List (Nat × Bool)} {es : Exs} {s : Stmt} (G : GS M Ph X sc) (h : mS M br sc (.par is es) s = true) : PS X s (tSt Ph wf br X.K P0 (.par is es)) := by
  unfold mS at h
  obtain ⟨⟨t, x⟩, h1, h2⟩ := see_t h
  obtain ⟨pos, rfl⟩ := vAsg_s h1
  obtain ⟨ts, h3, h2⟩ := see_t h2
  obtain ⟨xs, h4, h2⟩ := see_t h2
  have e3 : ∃ kt pt, t = .Tuple ts kt pt := vTup_s h3
  have e4 : ∃ kt pt, x = .Tuple xs kt pt := vTup_s h4
  have h5 : (mPn M br sc is ts && mEs M sc sc es xs && mPe is es && decide (is.length = exsLen es) && decide (exsLen es ≤ 1000) && foldOk xs) = true := h2
  clear h1 h2 h3 h4 h
  obtain ⟨kt, pt, rfl⟩ := e3
  obtain ⟨k2, pt2, rfl⟩ := e4
  simp only [Bool.and_eq_true, decide_eq_true_eq] at h5
  obtain ⟨⟨⟨⟨⟨hn, he⟩, hp⟩, hl⟩, hz⟩, hf⟩ := h5
  have sl := mEs_s hW0 es G.toGX he
  have pa := sel_pars sl hp hl
  obtain ⟨pg, g2, g3, g4⟩ := mPn_s G hn
  have hN : X.N.Nodup := by
    rw [G.nm]
    exact G.nd
  have gen : swappedStores [.Tuple ts kt pt] (.Tuple xs k2 pt2) X.env = pure none → PS X (.Assign [.Tuple ts kt pt] (.Tuple xs k2 pt2) pos) (tSt Ph wf br X.K P0 (.par is es)) := fun hw => by
    refine PS.imp (ps_asg (pe_tup pa) (pg_tup G.calm pg g2 g3) (by rfl) hw (by rfl)) fun D σ H h => ?_
    have q := ent_par (K := X.K) hl h
    refine pars_mono q fun vs H1 q => ⟨line_of (by rw [q.1, hl]; exact hz), fun p np => ?_⟩
    exact ⟨p, vs, rfl, .inl (.inl upd_same), q.1, gNames_in q.1 (q.2 _ (upd_all np))⟩
  by_cases l2 : ts.length = 2
  · obtain ⟨p, q, rfl⟩ : ∃ p q, is = [p, q] := by
      have g5 : is.length = 2 := by omega
      clear pa pg g2 g3 g4 hl hn hp gen
      rcases is with _ | ⟨p, _ | ⟨q, _ | ⟨r, is⟩⟩⟩ <;> simp at g5 <;> exact ⟨_, _, rfl⟩
    obtain ⟨a, b, rfl⟩ : ∃ a b, xs = [a, b] := by
      have := sl.length
      rcases xs with _ | ⟨a, _ | ⟨b, _ | ⟨c, xs⟩⟩⟩ <;> simp [← hl] at this <;> exact ⟨_, _, rfl⟩
    obtain ⟨t1, t2, rfl⟩ : ∃ a b, ts = [a, b] := by
      rcases ts with _ | ⟨a, _ | ⟨b, _ | ⟨c, xs⟩⟩⟩ <;> simp at l2 <;> exact ⟨_, _, rfl⟩
    unfold mPn at hn
    obtain ⟨u, hu, hn⟩ := see_t hn
    cases hu
    simp only [Bool.and_eq_true, List.tail_cons] at hn
    obtain ⟨m1, hn⟩ := hn
    unfold mPn at hn
    obtain ⟨u, hu, hn⟩ := see_t hn
    cases hu
    simp only [Bool.and_eq_true, List.tail_cons] at hn
    obtain ⟨m2, hn⟩ := hn
    obtain ⟨n1, q1, rfl, i1, _, _, _⟩ := mNm_s G m1
    obtain ⟨n2, q2, rfl, i2, _, _, _⟩ := mNm_s G m2
    have ns := sl.noStar
    rcases sw2 (x := n1) (y := n2) (px := q1) (py := q2) (kt := kt) (pt := pt) (k2 := k2) (pt2 := pt2) G.bk (ns a (by simp)) (ns b (by simp)) hf with w | ⟨⟨k1, k2', ne⟩, w⟩
    · exact gen w
    · refine PS.imp (ps_par G.calm hN i1 i2 (fun z => ne (by
        rw [z] at i1
        rw [i1] at i2
        cases i2
        rfl)) k1 k2' pa w (by rfl)) fun D σ H h => ?_
      refine pars_mono (ent_par (K := X.K) hl h) fun vs H1 q => ?_
      obtain ⟨v, w', rfl⟩ : ∃ a b, vs = [a, b] := by
        have := q.1
        rcases vs with _ | ⟨a, _ | ⟨b, _ | ⟨c, xs⟩⟩⟩ <;> simp at this <;> exact ⟨_, _, rfl⟩
      exact ⟨v, w', rfl, q.2 H1 fun _ _ z => z⟩
  · by_cases l3 : ts.length = 3
    · obtain ⟨p, q, r, rfl⟩ : ∃ p q r, is = [p, q, r] := by
        have g5 : is.length = 3 := by omega
        clear pa pg g2 g3 g4 hl hn hp gen
        rcases is with _ | ⟨p, _ | ⟨q, _ | ⟨r, _ | ⟨u, is⟩⟩⟩⟩ <;> simp at g5 <;> exact ⟨_, _, _, rfl⟩
      obtain ⟨a, b, c, rfl⟩ : ∃ a b c, xs = [a, b, c] := by
        have := sl.length
        rcases xs with _ | ⟨a, _ | ⟨b, _ | ⟨c, _ | ⟨u, xs⟩⟩⟩⟩ <;> simp [← hl] at this <;> exact ⟨_, _, _, rfl⟩
      obtain ⟨t1, t2, t3, rfl⟩ : ∃ a b c, ts = [a, b, c] := by
        rcases ts with _ | ⟨a, _ | ⟨b, _ | ⟨c, _ | ⟨u, xs⟩⟩⟩⟩ <;> simp at l3 <;> exact ⟨_, _, _, rfl⟩
      unfold mPn at hn
      obtain ⟨u, hu, hn⟩ := see_t hn
      cases hu
      simp only [Bool.and_eq_true, List.tail_cons] at hn
      obtain ⟨m1, hn⟩ := hn
      unfold mPn at hn
      obtain ⟨u, hu, hn⟩ := see_t hn
      cases hu
      simp only [Bool.and_eq_true, List.tail_cons] at hn
      obtain ⟨m2, hn⟩ := hn
      unfold mPn at hn
      obtain ⟨u, hu, hn⟩ := see_t hn
      cases hu
      simp only [Bool.and_eq_true, List.tail_cons] at hn
      obtain ⟨m3, hn⟩ := hn
      obtain ⟨n1, q1, rfl, i1, _, _, _⟩ := mNm_s G m1
      obtain ⟨n2, q2, rfl, i2, _, _, _⟩ := mNm_s G m2
      obtain ⟨n3, q3, rfl, i3, _, _, _⟩ := mNm_s G m3
      have ns := sl.noStar
      have dif : ∀ {i j : Nat} {m n : Str}, X.N[i]? = some m → X.N[j]? = some n → m ≠ n → i ≠ j := fun {i j m n} e1 e2 ne z => ne (by
        rw [z, e2] at e1
        cases e1
        rfl)
      rcases sw3 (x := n1) (y := n2) (z := n3) (px := q1) (py := q2) (pz := q3) (kt := kt) (pt := pt) (k2 := k2) (pt2 := pt2) G.bk (ns a (by simp)) (ns b (by simp)) (ns c (by simp)) hf with w | ⟨⟨k1, k2', k3, ne1, ne2, ne3⟩, w⟩
      · exact gen w
      · refine PS.imp (ps_par3 G.calm hN i1 i2 i3 (dif i1 i2 ne1) (dif i1 i3 ne2) (dif i2 i3 ne3) k1 k2' k3 pa w (by rfl)) fun D σ H h => ?_
        refine pars_mono (ent_par (K := X.K) hl h) fun vs H1 q => ?_
        obtain ⟨v, w', w'', rfl⟩ : ∃ a b c, vs = [a, b, c] := by
          have := q.1
          rcases vs with _ | ⟨a, _ | ⟨b, _ | ⟨c, _ | ⟨u, xs⟩⟩⟩⟩ <;> simp at this <;> exact ⟨_, _, _, rfl⟩
        exact ⟨v, w', w'', rfl, q.2 H1 fun _ _ z => z⟩
    · exact gen (sw_other l2 l3)
theorem sub_assign {o i : Expr} {pos : Pos} {env : PySem.Env} (h : notSlice i = true) : ∀ v, assign (.Subscript o i pos) env v = (do
      let ov ← holding [v] (eval o env)
      let iv ← holding [v, ov] (eval i env)
      standAt pos
      holding [v, ov, iv] (setItem ov iv v)
      release [v, ov, iv] []) := by
  intro v
  cases i <;> first | rfl | cases h
theorem swt {x : Expr} {ts : List Expr} {k : Nat} {p : Pos} {l : Nat} {env : PySem.Env} : swapsWithSole [.Tuple ts k p] x l env = pure false := by
  cases x <;> rfl
theorem sws {x o i : Expr} {p : Pos} {l : Nat} {env : PySem.Env} : swapsWithSole [.Subscript o i p] x l env = pure false := by
  cases x <;> rfl
theorem swn {x : Expr} {ts : List Expr} {k : Nat} {p : Pos} {env : PySem.Env} (h : notTup x = true) : swappedStores [.Tuple ts k p] x env = pure none := by
  cases x <;> first | rfl | cases h
mutual
theorem mS_s (G : GS M Ph X sc) : ∀ {s : Stm} {st : Stmt}, mS M br sc s st = true → PS X st (tSt Ph wf br X.K P0 s)
  | .expr e, st, h => by
    unfold mS at h
    obtain ⟨x, h1, h2⟩ := see_t h
    obtain ⟨p, rfl⟩ := vExprS_s h1
    simp only [Bool.and_eq_true] at h2
    exact PS.imp (ps_expr (mE_s hW0 e G.toGX h2.1).e (notComp_sw h2.2)) fun _ _ _ h => ent_expr h
  | .set i e, st, h => by
    unfold mS at h
    obtain ⟨⟨t, x⟩, h1, h2⟩ := see_t h
    obtain ⟨p, rfl⟩ := vAsg_s h1
    simp only [Bool.and_eq_true] at h2
    obtain ⟨⟨hn, he⟩, hc⟩ := h2
    obtain ⟨n, q, rfl, e1, e2, e3, _⟩ := mNm_s G hn
    exact PS.imp (ps_name G he hc e1 e2 e3 (mE_s hW0 e G.toGX he).e fun _ _ _ h => tG_of h) fun _ _ _ h => ent_set h
  | .own i e, st, h => by
    unfold mS at h
    obtain ⟨⟨t, x⟩, h1, h2⟩ := see_t h
    obtain ⟨p, rfl⟩ := vAsg_s h1
    simp only [Bool.and_eq_true] at h2
    obtain ⟨⟨⟨hn, he⟩, hc⟩, hm⟩ := h2
    obtain ⟨n, q, rfl, e1, e2, e3, _⟩ := mNm_s G hn
    exact PS.imp (ps_name G he hc e1 e2 e3 ((mE_s hW0 e G.toGX he).g hm) fun _ _ _ h => h) fun _ _ _ h => ent_own h
  | .unp ts e, st, h => by
    unfold mS at h
    obtain ⟨⟨t, x⟩, h1, h2⟩ := see_t h
    obtain ⟨p, rfl⟩ := vAsg_s h1
    simp only [Bool.and_eq_true, Bool.or_eq_true, Bool.not_eq_true', decide_eq_true_eq] at h2
    obtain ⟨⟨⟨hg, he⟩, hn⟩, hz⟩ := h2
    have pg := mG_s G.toGX hg
    unfold mG at hg
    obtain ⟨xs, h3, _⟩ := see_t hg
    have h3 : ∃ k p, t = .Tuple xs k p := vTup_s h3
    obtain ⟨k, p', rfl⟩ := h3
    refine PS.imp (ps_asg (mE_s hW0 e G.toGX he).e pg swt (swn hn) (by rfl)) fun _ _ _ h => ent_unp (fun z => ?_) h
    rcases hz with hz | hz
    · rw [z] at hz
      cases hz
    · exact hz
  | .par is es, st, h => ps_parM G h
  | .setIx i ix e, st, h => by
    unfold mS at h
    obtain ⟨⟨t, x⟩, h1, h2⟩ := see_t h
    obtain ⟨p, rfl⟩ := vAsg_s h1
    obtain ⟨⟨o, k⟩, h3, h2⟩ := see_t h2
    have h3 : ∃ p, t = .Subscript o k p := vIdx_s h3
    obtain ⟨p', rfl⟩ := h3
    simp only [Bool.and_eq_true] at h2
    obtain ⟨⟨⟨hv, hk⟩, hs⟩, he⟩ := h2
    obtain ⟨n, q, rfl, pv⟩ := mVr_s G hv
    exact PS.imp (ps_asg (mE_s hW0 e G.toGX he).e (pg_sub (pv q) (mE_s hW0 ix G.toGX hk).e (set_any G.toGX.room) (sub_assign hs)) sws (by rfl) (by rfl)) fun _ _ _ h => ent_setIx h
  | .jar i ix j e, st, h => by
    unfold mS at h
    obtain ⟨⟨t, x⟩, h1, h2⟩ := see_t h
    obtain ⟨p, rfl⟩ := vAsg_s h1
    obtain ⟨ts, h3, h2⟩ := see_t h2
    obtain ⟨t1, h4, h2⟩ := see_t h2
    obtain ⟨t2, h5, h2⟩ := see_t h2
    obtain ⟨⟨o, k⟩, h6, h9⟩ := see_t h2
    have h3 : ∃ k p, t = .Tuple ts k p := vTup_s h3
    obtain ⟨kt, p', rfl⟩ := h3
    have h6 : ∃ p, t1 = .Subscript o k p := vIdx_s h6
    obtain ⟨p'', rfl⟩ := h6
    simp only [Bool.and_eq_true] at h9
    obtain ⟨⟨⟨⟨⟨⟨hl, hv⟩, hk⟩, hs⟩, hm⟩, he⟩, hn⟩ := h9
    have e2 := two_f h4 h5 hl
    subst e2
    obtain ⟨n, q, rfl, pv⟩ := mVr_s G hv
    obtain ⟨n2, q2, rfl, e1, e2, e3, e4⟩ := mNm_s G hm
    have g1 : PG X (.Subscript (.Name n q) k p'') (gSub (tVar i) (tE Ph X.K W0 ix) rSetL) := pg_sub (pv q) (mE_s hW0 ix G.toGX hk).e set_list (sub_assign hs)
    have g2 : PG X (.Name n2 q2) (gName j) := pg_name (by rw [G.nm]; exact G.nd) e1 e2 e3
    exact PS.imp (ps_asg (mE_s hW0 e G.toGX he).e (pg_tup (n := 2) G.calm (pgs_cons g1 (pgs_cons g2 pgs_nil (by rfl)) (by rfl)) (by rfl) (by rfl)) swt (swn hn) (by rfl)) fun _ _ _ h => ent_jar e4 h
  | .append i e, st, h => by
    unfold mS at h
    obtain ⟨x, h1, h2⟩ := see_t h
    obtain ⟨p, rfl⟩ := vExprS_s h1
    obtain ⟨⟨n, m, y⟩, h3, h9⟩ := see_t h2
    obtain ⟨p1, ap, p2, rfl, hl⟩ := vMeth_s h3
    simp only [Bool.and_eq_true, decide_eq_true_eq] at h9
    obtain ⟨⟨⟨rfl, hv⟩, he⟩, hs⟩ := h9
    obtain ⟨n', q, e1, pv⟩ := mVr_s G hv
    cases e1
    refine PS.imp (ps_expr (pe_bm PySem.F.plainAttrs_list PySem.F.slot_list_append PySem.F.type_list_append mt_append (pv p1) (pa_cons (mE_s hW0 e G.toGX he).e pa_nil (star_f hs)) (by rfl) (by rw [star_f hs]; rfl) hl (star_f hs) (by rfl)) (by rfl)) fun _ _ _ h => ent_append h
  | .extend i e, st, h => by
    unfold mS at h
    obtain ⟨x, h1, h2⟩ := see_t h
    obtain ⟨p, rfl⟩ := vExprS_s h1
    obtain ⟨⟨n, m, y⟩, h3, h9⟩ := see_t h2
    obtain ⟨p1, ap, p2, rfl, hl⟩ := vMeth_s h3
    simp only [Bool.and_eq_true, decide_eq_true_eq] at h9
    obtain ⟨⟨⟨⟨rfl, hv⟩, he⟩, hs⟩, hm⟩ := h9
    obtain ⟨n', q, e1, pv⟩ := mVr_s G hv
    cases e1
    refine PS.imp (ps_expr (pe_bm PySem.F.plainAttrs_list PySem.F.slot_list_extend PySem.F.type_list_extend mt_extend (pv p1) (pa_cons ((mE_s hW0 e G.toGX he).g hm) pa_nil (star_f hs)) (by rfl) (by rw [star_f hs]; rfl) hl (star_f hs) (by rfl)) (by rfl)) fun _ _ _ h => ent_extend h
  | .ret e, st, h => by
    unfold mS at h
    obtain ⟨x, h1, h2⟩ := see_t h
    obtain ⟨p, rfl⟩ := vRet_s h1
    obtain ⟨y, rfl, h2⟩ := see_t h2
    cases hm : makes e with
    | true => exact PS.imp (ps_ret ((mE_s hW0 e G.toGX h2).g hm)) fun _ _ _ h => ent_ret2 hm h
    | false =>
      cases e with
      | var i =>
        obtain ⟨n, q, rfl, pv⟩ := mVr_s (i := i) G (by
          unfold mE at h2
          exact h2)
        exact PS.imp (ps_ret (pv q)) fun _ _ _ h => ent_ret3 h
      | _ => exact PS.imp (ps_ret (mE_s hW0 _ G.toGX h2).e) fun _ _ _ h => ent_ret1 (fun _ z => by cases z) hm h
  | .retN, st, h => by
    unfold mS at h
    obtain ⟨x, h1, h2⟩ := see_t h
    obtain ⟨p, rfl⟩ := vRet_s h1
    have e : x = none := by simpa using h2
    subst e
    exact PS.imp ps_retN fun _ _ _ h => ent_retN h
  | .iff c a b, st, h => by
    unfold mS at h
    obtain ⟨⟨x, xa, xb⟩, h1, h2⟩ := see_t h
    obtain ⟨p, rfl⟩ := vIfS_s h1
    simp only [Bool.and_eq_true] at h2
    exact PS.imp (ps_if (mE_s hW0 c G.toGX h2.1.1).t (mSs_s G h2.1.2) (mSs_s G h2.2)) fun _ _ _ h => ent_iff h
  | .whil c b, st, h => by
    unfold mS at h
    obtain ⟨⟨x, xb⟩, h1, h2⟩ := see_t h
    obtain ⟨p, rfl⟩ := vWhile_s h1
    simp only [Bool.and_eq_true] at h2
    exact PS.imp (ps_while G.po (mE_s hW0 c G.toGX h2.1).t (mSs_s G h2.2)) fun _ _ _ h => ent_whil h
  | .forr tg it b, st, h => by
    unfold mS at h
    obtain ⟨⟨t, i, xb⟩, h1, h2⟩ := see_t h
    obtain ⟨p, rfl⟩ := vFor_s h1
    simp only [Bool.and_eq_true, Bool.or_eq_true, Bool.not_eq_true', decide_eq_true_eq] at h2
    obtain ⟨⟨⟨⟨⟨hg, hi⟩, ht⟩, hs⟩, hb⟩, hz⟩ := h2
    have pi := mI_s (W := W0) hW0 it (tg := t) G.toGX hi (by
      cases it <;> first | trivial | exact ht)
    refine PS.imp (ps_for G.po G.calm pi (mG_s G.toGX hg) (mSs_s G hb) (notSet_f hs)) fun _ _ _ h => ent_forr (fun z => ?_) h
    rcases hz with hz | hz
    · rw [z] at hz
      cases hz
    · exact hz
  | .brk, st, h => by
    unfold mS at h
    split at h
    · exact PS.imp ps_break fun _ _ _ h => ent_brk h
    · cases h
  | .cont, st, h => by
    unfold mS at h
    split at h
    · exact PS.imp ps_continue fun _ _ _ h => ent_cont h
    · cases h
  | .pass, st, h => by
    unfold mS at h
    split at h
    · exact PS.imp ps_pass fun _ _ _ h => ent_pass h
    · cases h
  | .never, st, h => PS.imp ps_never fun _ _ _ h => ent_never h
theorem mSs_s (G : GS M Ph X sc) : ∀ {s : Sts} {st : List Stmt}, mSs M br sc s st = true → PSs X st (tSs Ph wf br X.K P0 s)
  | .nil, st, h => by
    unfold mSs at h
    have e : st = [] := by simpa using h
    subst e
    exact PSs.imp pss_nil fun _ _ _ h => ent_ssnil h
  | .cons s ss, st, h => by
    unfold mSs at h
    obtain ⟨x, h1, h2⟩ := see_t h
    cases st with
    | nil => cases h1
    | cons y ys =>
      cases h1
      simp only [Bool.and_eq_true, List.tail_cons] at h2
      exact PSs.imp (pss_cons (mS_s G h2.1) (mSs_s G h2.2)) fun _ _ _ h => ent_sscons h
end
end
end PV
set_option Elab.async false
set_option linter.all false
set_option maxRecDepth 100000
set_option maxHeartbeats 2000000
/-! PV, part R: a text's defs, all together. -/
namespace PV
open PySem PySem.Spec PyProof.Rows L2
variable [Wd]
/-- a def of the text: its name, its datum, its statement -/
structure Row where
  x : Str
  fn : Def
  st : Stmt
def psOf (st : Stmt) : List Str := (C8.fnArgs st).args.map (·.arg)
/-- the text ahead of its run -/
structure Tx where
  rows : List Row
  con : List (Str × D)
  blt : List Str
  gcd : Bool
  kw : List (Str × Nat × List Str × List Nat)
def Tx.mt (T : Tx) (fn : Def) : Mt := ⟨fn.N, T.rows.map fun r => (r.x, r.fn), T.con, T.blt, T.gcd, T.kw⟩
def Tx.defs (T : Tx) : List Def := T.rows.map (·.fn)
/-- one def: its text is its datum's -/
def rowC (T : Tx) (r : Row) : Bool := C8.scC r.fn.N (psOf r.st) (C8.fnScope r.st) && decide ((psOf r.st).length = r.fn.params) && mSs (T.mt r.fn) r.fn.br (C8.fnScope r.st) r.fn.body (C8.fnBody r.st) &&
  (!r.fn.fresh || !r.fn.br) && (!r.fn.br || decide (r.fn.params ≠ 0)) && decide (r.fn.name = r.x)
def BindOk (r : Row) : Prop := ∀ (kV doc pm : Value) (an : Option Addr) (cdv ct : Value) (us : List Value), us.length = (psOf r.st).length →
  bindArgs (PySem.W.fnOf r.x r.x (C8.fnArgs r.st) (C8.fnBody r.st) (C8.fnScope r.st) .none kV doc pm an cdv ct) ⟨us, []⟩ = pure ((psOf r.st).zip us)
def KwOk (r : Row) (q : Str × Nat × List Str × List Nat) : Prop := ∀ (kV doc pm : Value) (an : Option Addr) (cdv ct : Value) (us ws : List Value), us.length = q.2.1 → ws.length = q.2.2.1.length →
  bindArgs (PySem.W.fnOf r.x r.x (C8.fnArgs r.st) (C8.fnBody r.st) (C8.fnScope r.st) .none kV doc pm an cdv ct) ⟨us, q.2.2.1.zip ws⟩ = pure ((psOf r.st).zip (us ++ permV q.2.2.2 ws))
abbrev RowFun (K : PySem.W.Frag) (r : Row) (fd : FuncData) : Prop := FunD K r.x r.x (C8.fnArgs r.st) (C8.fnBody r.st) (C8.fnScope r.st) [] [] (He.ga K r.x) fd
/-- what the head tells of the module's names -/
structure Known (T : Tx) (K : PySem.W.Frag) (mg : Str → Option Value) : Prop where
  fns : ∀ r ∈ T.rows, (∃ fd, RowFun K r fd) ∧ mg r.x = some (.ref (He.ga K r.x))
  con : ∀ p ∈ T.con, ∃ u v, mg p.1 = some u ∧ RelV v u ∧ ∀ H P, RP K H P v p.2
  blt : ∀ x ∈ T.blt, mg x = none
  gcd : T.gcd = true → mg "gcd" = some (.builtin "math.gcd")
section
variable {P : Program} {w : World} {K : PySem.W.Frag} {mg : Str → Option Value} {base : Heap} {T : Tx} {wf : Nat}
theorem find_self {rows : List Row} (hn : (rows.map (·.x)).Nodup) (hx : ∀ r ∈ rows, r.fn.name = r.x) : ∀ r ∈ rows, (rows.map (·.fn)).find? (fun g => g.name == r.fn.name) = some r.fn := by
  induction rows with
  | nil => exact fun r h => by cases h
  | cons a as ih =>
    intro r h
    rw [List.map_cons, List.nodup_cons] at hn
    rw [List.map_cons, List.find?_cons]
    rcases List.mem_cons.mp h with rfl | h
    · simp
    · have ne : (a.fn.name == r.fn.name) = false := by
        rw [beq_eq_false_iff_ne, hx a (by simp), hx r (by simp [h])]
        exact fun z => hn.1 (z ▸ List.mem_map_of_mem h)
      rw [ne]
      exact ih hn.2 (fun q hq => hx q (by simp [hq])) r h
theorem lookup_row {rows : List Row} {x : Str} {fn : Def} (h : (rows.map fun r => (r.x, r.fn)).lookup x = some fn) : ∃ r ∈ rows, r.x = x ∧ r.fn = fn := by
  have q := PySem.mem_of_lookup h
  obtain ⟨r, hr, e⟩ := List.mem_map.mp q
  cases e
  exact ⟨r, hr, rfl, rfl⟩
theorem lt_get {A B : Type} (f : A → B) (xs : List A) (k : Nat) (z : B) (i : Nat) : (xs.map f ++ List.replicate k z)[i]? = if h : i < xs.length then some (f xs[i]) else if i < xs.length + k then some z else none := by
  by_cases h : i < xs.length
  · rw [dif_pos h, List.getElem?_append_left (by simpa using h)]
    simp [h]
  · rw [dif_neg h, List.getElem?_append_right (by simpa using h), List.getElem?_replicate]
    simp only [List.length_map]
    by_cases h2 : i < xs.length + k
    · rw [if_pos (by omega), if_pos h2]
    · rw [if_neg (by omega), if_neg h2]
/-- the frame at a call -/
theorem re_begin {H : Hp} {Pp : Pa} {fn : Def} {vs : List V} {ds : List D} (new : ∀ b, H b = none → Pp b) (a : ArgOk K H Pp fn.br vs ds) (hl : vs.length ≤ fn.N.length) :
    RE K Pp (begin fn ds) (start fn.N vs) H ∧ (∀ c, OwnA (begin fn ds) (start fn.N vs) c → fn.br = true ∧ vs.head? = some (.ref c)) ∧ (fn.br = true → ∃ c, vs.head? = some (.ref c) ∧ (start fn.N vs)[0]? = some (some (.ref c))) := by
  generalize hbr : fn.br = br at a
  cases a with
  | val rs =>
    have l := rs.length
    have eb : begin fn ds = ds.map .val ++ List.replicate (fn.N.length - ds.length) .non := by
      unfold begin
      rw [hbr]
    have no : ∀ (i : Nat) (d : D), (begin fn ds)[i]? ≠ some (Slot.own d) := fun i d h => by
      rw [eb, lt_get] at h
      split at h
      · cases h
      · split at h <;> cases h
    refine ⟨⟨?_, fun i d h => ?_, fun i d h => absurd h (no i d), fun i j d e c h => absurd h (no i d), new, fun i d c h0 h => absurd h (no i d)⟩, fun c ⟨i, d, h, _⟩ => absurd h (no i d), fun z => by cases z⟩
    · rw [eb]
      unfold L2.start
      simp only [List.length_append, List.length_map, List.length_replicate]
      omega
    · rw [eb, lt_get] at h
      split at h
      · rename_i hi
        cases h
        obtain ⟨v, h1, h2⟩ := rs.get (i := i) (d := ds[i]) (by simp)
        refine ⟨v, ?_, h2.mono fun a z => ⟨z, fun ⟨j, e, hj, _⟩ => absurd hj (no j e)⟩⟩
        unfold L2.start
        rw [List.getElem?_append_left (by simp; omega), List.getElem?_map, h1]
        rfl
      · split at h <;> cases h
  | own np ro rs =>
    rename_i c vs d ds
    have l := rs.length
    have eb : begin fn (d :: ds) = Slot.own d :: (ds.map Slot.val ++ List.replicate (fn.N.length - (ds.length + 1)) Slot.non) := by
      unfold begin
      rw [hbr]
      rfl
    have es : start fn.N (.ref c :: vs) = some (.ref c) :: (vs.map some ++ List.replicate (fn.N.length - (vs.length + 1)) none) := rfl
    have only : ∀ (i : Nat) (e : D), (begin fn (d :: ds))[i]? = some (Slot.own e) → i = 0 ∧ e = d := fun i e h => by
      rw [eb] at h
      cases i with
      | zero =>
        cases h
        exact ⟨rfl, rfl⟩
      | succ i =>
        rw [List.getElem?_cons_succ, lt_get] at h
        split at h
        · cases h
        · split at h <;> cases h
    have own1 : ∀ a, OwnA (begin fn (d :: ds)) (start fn.N (.ref c :: vs)) a → a = c := fun a ⟨i, e, h1, h2⟩ => by
      obtain ⟨rfl, rfl⟩ := only i e h1
      rw [es] at h2
      cases h2
      rfl
    have m : ∀ a, Pp a → Stb Pp (begin fn (d :: ds)) (start fn.N (.ref c :: vs)) a := fun a z => ⟨z, fun w => np (by rw [← own1 a w]; exact z)⟩
    refine ⟨⟨?_, fun i e h => ?_, fun i e h => ?_, fun i j e f a h1 h2 _ _ => ?_, new, fun i e a h0 h => absurd (only i e h).1 h0⟩, fun a z => ⟨rfl, by rw [own1 a z]; rfl⟩, fun _ => ⟨c, rfl, by rw [es]; rfl⟩⟩
    · rw [eb, es]
      simp only [List.length_cons, List.length_append, List.length_map, List.length_replicate]
      simp only [List.length_cons] at hl
      omega
    · rw [eb] at h
      cases i with
      | zero => cases h
      | succ i =>
        rw [List.getElem?_cons_succ, lt_get] at h
        split at h
        · rename_i hi
          cases h
          obtain ⟨v, h1, h2⟩ := rs.get (i := i) (d := ds[i]) (by simp)
          refine ⟨v, ?_, h2.mono m⟩
          rw [es, List.getElem?_cons_succ, List.getElem?_append_left (by simp; omega), List.getElem?_map, h1]
          rfl
        · split at h <;> cases h
    · obtain ⟨rfl, rfl⟩ := only i e h
      exact ⟨c, by rw [es]; rfl, ro.mono m⟩
    · rw [(only i e h1).1, (only j f h2).1]
/-- each def keeps its promise, to any depth of calls -/
theorem kwB_of {r : Row} {fd : FuncData} {q : Str × Nat × List Str × List Nat} (F : RowFun K r fd) (h : KwOk r q) : KwB K fd (psOf r.st) q.2.1 q.2.2.1 q.2.2.2 := by
  obtain ⟨oc, od, dV, kV, doc, pm, an, cdv, ct, osl, rfl, lk, hcd, hD, hK⟩ := F.ex
  rcases hD with ⟨_, rfl⟩ | ⟨e, _⟩
  · exact fun s us ws _ l1 l2 => .of_eq (h kV doc pm an cdv ct us ws l1 l2)
  · exact absurd rfl e
theorem tabG (hP : P = Wd.prog ∧ w = Wd.w) (hK : Known T K mg) (hrows : ∀ r ∈ T.rows, rowC T r = true) (hbind : ∀ r ∈ T.rows, BindOk r) (hkw : ∀ q ∈ T.kw, ∀ r ∈ T.rows, r.x = q.1 → KwOk r q) (hn : (T.rows.map (·.x)).Nodup) :
    ∀ n, ∀ r ∈ T.rows, ∀ fd, RowFun K r fd → FnG P w K mg base n (He.ga K r.x) fd (psOf r.st) (spF (callN T.defs wf n) K r.fn) := by
  have chk : ∀ r ∈ T.rows, (C8.scC r.fn.N (psOf r.st) (C8.fnScope r.st) = true ∧ (psOf r.st).length = r.fn.params ∧ mSs (T.mt r.fn) r.fn.br (C8.fnScope r.st) r.fn.body (C8.fnBody r.st) = true ∧ (r.fn.fresh = true → r.fn.br = false)) ∧ r.fn.name = r.x := fun r hr => by
    have h := hrows r hr
    unfold rowC at h
    simp only [Bool.and_eq_true, decide_eq_true_eq, Bool.or_eq_true, Bool.not_eq_true'] at h
    obtain ⟨⟨⟨⟨⟨h1, h2⟩, h3⟩, h4⟩, h5⟩, h6⟩ := h
    exact ⟨⟨h1, h2, h3, fun z => by
      rcases h4 with h4 | h4
      · rw [z] at h4
        cases h4
      · exact h4⟩, h6⟩
  have len : ∀ n, ∀ r ∈ T.rows, ∀ vs H Q E, spF (callN T.defs wf n) K r.fn vs H Q E → vs.length = (psOf r.st).length := fun n r hr vs H Q E h => by
    obtain ⟨_, ds, hl, _⟩ := h
    rw [hl, (chk r hr).1.2.1]
  intro n
  induction n with
  | zero =>
    intro r hr fd F
    refine ⟨len 0 r hr, fun A outer s H args us vs Q E _ _ _ _ _ h => ?_⟩
    obtain ⟨_, _, _, _, _, h⟩ := h
    unfold callN at h
    exact h.elim
  | succ n ih =>
    intro r hr fd F
    obtain ⟨⟨h1, h2, h3, h4⟩, hname⟩ := chk r hr
    have S := C8.fnScope_by h1
    have hps : (psOf r.st).length ≤ r.fn.N.length := by
      have := congrArg List.length S.pre
      rw [List.length_take] at this
      omega
    obtain ⟨oc, od, dV, kV, doc, pm, an, cdv, ct, osl, rfl, lk, hcd, hD, hKw⟩ := F.ex
    refine fnG_of lk hcd S (len (n + 1) r hr) fun A outer s H vs Q E room guards h => ?_
    obtain ⟨Pp, ds, hl, new, arg, h⟩ := h
    obtain ⟨re, own0, at0⟩ := re_begin (K := K) new arg (by rw [hl, ← h2]; exact hps)
    have dl : ds.length = r.fn.params := by
      rw [← hl]
      generalize r.fn.br = b at arg
      cases arg with
      | val rs => exact rs.length.symm
      | own _ _ rs => simp [rs.length]
    have G : GS (T.mt r.fn) (callN T.defs wf n) (cxOf CX0 P w K mg base r.fn.N r.x (C8.fnScope r.st) (He.ga K r.x) cdv A outer s H E) (C8.fnScope r.st) := {
      nm := rfl
      nd := S.nd
      sc := rfl
      fn := fun _ _ => rfl
      calm := rfl
      room := ⟨by
        have := room.un
        show (A.deeper _).units + 100 < cLine
        omega, guards, hP⟩
      con := hK.con
      blt := hK.blt
      gcd := hK.gcd
      fns := fun x fn' e => by
        obtain ⟨q, hq, rfl, rfl⟩ := lookup_row e
        obtain ⟨⟨fd', F'⟩, hm⟩ := hK.fns q hq
        exact ⟨n, _, fd', psOf q.st, ih q hq fd' F', room, hm, F'.kp, F'.bindsN (hbind q hq), fun z hz e => kwB_of F' (hkw z hz q hq e.symm)⟩
      bk := by
        show (if (C8.fnScope r.st).kind.isAnnotationScope then ScopeKind.function else (C8.fnScope r.st).kind) = .function
        rw [S.kind]
        rfl
      po := PassesOwn.leaving }
    refine ⟨tSs (callN T.defs wf n) wf r.fn.br K Pp r.fn.body, mSs_s G h3, begin r.fn ds, re, ?_⟩
    have hc : callN T.defs wf (n + 1) r.fn.name ds = runFn (callN T.defs wf n) wf r.fn ds := by
      unfold callN
      have e : T.defs.find? (fun g => g.name == r.fn.name) = some r.fn := find_self hn (fun q hq => (chk q hq).2) r hr
      rw [e]
    rw [hc] at h
    unfold runFn at h
    rw [if_pos dl] at h
    have keepA : ∀ {env' : Fram} {σ' : L2.St} {H' : Hp}, AS K Pp r.fn.br (begin r.fn ds) (start r.fn.N vs) H env' σ' H' → ∀ a o, H a = some o → (r.fn.br = true → vs.head? ≠ some (.ref a)) → H' a = some o := fun a b o e z => a.ko b o e fun w => (z (own0 b w).1) (own0 b w).2
    have ownA : ∀ {env' : Fram} {σ' : L2.St} {H' : Hp} {d0 : D}, AS K Pp r.fn.br (begin r.fn ds) (start r.fn.N vs) H env' σ' H' → out0 r.fn.br env' = some d0 → r.fn.br = true → ∀ a, vs.head? = some (.ref a) → ROwn K H' Pp a d0 := fun {env' σ' H' d0} as e z a ha => by
      unfold out0 at e
      rw [z] at e
      have e : (match env'[0]? with
        | some (Slot.own d) => some d
        | _ => none) = some d0 := e
      split at e
      · rename_i d hd
        cases e
        obtain ⟨b, e1, e2⟩ := as.re.own 0 _ hd
        rw [as.s0 z] at e1
        obtain ⟨c, e3, e4⟩ := at0 z
        rw [e4] at e1
        cases e1
        rw [ha] at e3
        cases e3
        exact e2.mono fun _ y => y.1
      · cases e
    cases ee : evSs (callN T.defs wf n) wf r.fn.br r.fn.body (begin r.fn ds) with
    | bad =>
      rw [ee] at h
      exact h.elim
    | exc z e =>
      rw [ee] at h
      exact h.elim
    | ok p =>
      rw [ee] at h
      obtain ⟨fl, env'⟩ := p
      cases fl with
      | brk => exact h.elim
      | cont => exact h.elim
      | nx =>
        have h : Post (if r.fn.fresh = true then Res.bad else (opt (out0 r.fn.br env')).bind fun d0 => Res.ok (PyData.none, d0)) _ _ := h
        cases hf : r.fn.fresh with
        | true =>
          rw [hf, if_pos rfl] at h
          exact h.elim
        | false =>
          rw [hf, if_neg Bool.false_ne_true] at h
          obtain ⟨d0, e0, h⟩ := post_opt.mp (post_bind.mp h)
          exact fun σ' H' as => h .non H' ⟨keepA as, as.tr, fun _ => .non, (fun z => by cases z), ownA as e0⟩
      | ret d f =>
        have h : Post (if (r.fn.fresh && !f) = true then Res.bad else (opt (out0 r.fn.br env')).bind fun d0 => Res.ok (d, d0)) _ _ := h
        cases hf : (r.fn.fresh && !f) with
        | true =>
          rw [hf, if_pos rfl] at h
          exact h.elim
        | false =>
          rw [hf, if_neg Bool.false_ne_true] at h
          obtain ⟨d0, e0, h⟩ := post_opt.mp (post_bind.mp h)
          refine fun v σ' H' as rv => h v H' ⟨keepA as, as.tr, fun _ => rv.rp, fun z => ?_, ownA as e0⟩
          have f1 : f = true := by
            rw [z] at hf
            simpa using hf
          obtain ⟨b, e1, e2, e3⟩ := rv.new f1
          refine ⟨b, e1, e2.resolve_left fun w => ?_, e3⟩
          have := (own0 b w).1
          rw [h4 z] at this
          cases this
end
end PV
set_option Elab.async false
set_option linter.all false
set_option maxRecDepth 100000
set_option maxHeartbeats 2000000
/-! PV, part S: a law's end. -/
namespace PV
open PySem PySem.Spec PyProof.Rows L2
/-- the script's list, as it stands -/
abbrev scrO (vs : List Value) : Obj := { cls := .type "list", data := .seq vs.toArray }
def scrH (K : PySem.W.Frag) (a : Addr) (vs : List Value) (ns : List Int) : Hp := fun b => if b = a ∧ K.lookup a = none then some (.frz (scrO vs) (.lst (ns.map V.int))) else none
theorem lawRun {P : Program} {w : World} {K : PySem.W.Frag} {mg mb : Str → Option Value} {k : Nat} {fa a : Addr} {fd : FuncData} {x : Str} {sp : Sp} {s : Shared} {vs : List Value} {ns : List Int}
    (kin : K.In s.heap) (gns : s.heap.Ns mainGlobals mg) (bns : s.heap.Ns builtinsNs mb) (boot : ∀ x : Str, x ≠ "__name__" → mb x = bootBuiltins x) (lim : s.heap.NoLimit) (gens : s.gens = #[])
    (there : s.heap.get? a = some (scrO vs)) (hin : IntsAre vs ns) (few : ns.length ≤ sizeLine) (room : Room k callerA)
    (F : ∀ base : Heap, K.In base → base.Ns mainGlobals mg → FnG P w K mg base k fa fd [x] sp) (bind : ∀ (s : Shared) (u : Value), BindsTo s fd ⟨[u], []⟩ [(x, u)])
    (wish : ∀ H : Hp, SqL K H a (ns.map V.int) → sp [.ref a] H (fun v _ => v = .bl true) fun _ _ _ => False) :
    codeAny (model P w) callerA (.call (.ref fa) ⟨[.ref a], []⟩) (fun r s' => r = .ok (.ret (.bool true)) ∧ OldK s.heap s'.heap ∧ s'.os = s.os ∧ AllBare s'.gens) s := by
  have vals : Vals (ns.map V.int) vs := vals_ints hin
  have only : ∀ b, scrH K a vs ns b ≠ none → b = a ∧ K.lookup a = none := fun b h => by
    by_cases c : b = a ∧ K.lookup a = none
    · exact c
    · exact absurd (if_neg c) h
  have val : ∀ b u, scrH K a vs ns b = some u → b = a ∧ u = .frz (scrO vs) (.lst (ns.map V.int)) := fun b u h => by
    have c := only b (by rw [h]; simp)
    have e : scrH K a vs ns b = _ := if_pos c
    rw [e] at h
    cases h
    exact ⟨c.1, rfl⟩
  have ok : HOk P w (scrH K a vs ns) s.heap := fun b u h => by
    obtain ⟨rfl, rfl⟩ := val b u h
    exact ⟨there, by rw [List.length_map]; exact few, vs, _, vals, there⟩
  have seq : SqL K (scrH K a vs ns) a (ns.map V.int) := by
    cases c : K.lookup a with
    | none => exact .inl (.inr ⟨scrO vs, if_pos ⟨rfl, c⟩⟩)
    | some o =>
      have e := kin a o c
      rw [there] at e
      cases e
      exact .inr ⟨_, vs.toArray, _, c, rfl, rfl, rfl, by rw [List.size_toArray, ← vals.length, List.length_map]; exact few, by simpa using vals⟩
  have free : ∀ {b : Addr} {o : Obj} {es : Array DictEntry} {ep : Nat}, s.heap.get? b = some o → o.data = .dict es ep → scrH K a vs ns b = none := fun {b o es ep} e d => by
    cases q : scrH K a vs ns b with
    | none => rfl
    | some u =>
      obtain ⟨rfl, _⟩ := val b u q
      rw [there] at e
      cases e
      cases d
  have ns' : ∀ {b : Addr} {m : Str → Option Value}, s.heap.Ns b m → (hidT s.heap (scrH K a vs ns)).Ns b m := fun {b m} ⟨o, es, ep, e, d, r⟩ => ⟨o, es, ep, hidT_get e (free e d), d, r⟩
  have kin' : K.In (hidT s.heap (scrH K a vs ns)) := fun b o e => hidT_get (kin b o e) (by
    cases q : scrH K a vs ns b with
    | none => rfl
    | some u =>
      obtain ⟨rfl, h⟩ := only b (by rw [q]; simp)
      rw [h] at e
      cases e)
  obtain ⟨mc, l1, l2⟩ := lim
  have mod : Mod K mg (hidT s.heap (scrH K a vs ns)) := ⟨kin', ns' gns, ⟨mb, ns' bns, boot⟩, ⟨mc, ns' l1, l2⟩⟩
  have start0 : Env0 P w K mg (hidT s.heap (scrH K a vs ns)) callerA [] s (scrH K a vs ns) :=
    ⟨rfl, mod, fun b o e => of_hidT e, Nat.le_of_eq (hidT_size _ _), trivial, fun b hb => (List.not_mem_nil hb).elim, ok, .of_eq gens⟩
  have main := (F _ kin' (ns' gns)).run callerA [] s (scrH K a vs ns) ⟨[.ref a], []⟩ [.ref a] [.ref a] _ _ room rfl start0 (bind s (.ref a)) (.cons rfl .nil) (wish _ seq)
  refine codeAny_mono main fun r s' h => ?_
  cases r with
  | error e => exact h.elim
  | ok fl =>
    cases fl with
    | ret u =>
      obtain ⟨v, H', os, bare, un, ok', ru, q⟩ := h
      have q : v = .bl true := q
      subst q
      have eu : u = Value.bool true := ru
      subst eu
      refine ⟨rfl, OldK.of_keep fun b o e => ?_, os, bare⟩
      cases q : scrH K a vs ns b with
      | none => exact un.keep b o e q (fun z => (List.not_mem_nil z).elim) (fun z => (List.not_mem_nil z).elim)
      | some u =>
        obtain ⟨rfl, rfl⟩ := val b u q
        have z2 := un.frzs _ _ _ q
        obtain ⟨e1, _⟩ := ok _ _ q
        obtain ⟨e2, _⟩ := ok' _ _ z2
        rw [e] at e1
        cases e1
        exact e2
    | _ => exact h.elim
/-! ### constants of the module -/
mutual
def valB (K : PySem.W.Frag) : D → Value → Bool
  | .none, .none => true
  | .bool b, .bool c => b == c
  | .int i, .int j _ => decide (i = j)
  | .str x, .str y _ => decide (x = y)
  | .tuple ds, .ref a => (match K.lookup a with
    | some ⟨.type c, none, .seq its _, _⟩ => decide (c = "tuple") && (decide (its.size ≤ sizeLine) && valsB K ds its.toList)
    | _ => false)
  | _, _ => false
def valsB (K : PySem.W.Frag) : List D → List Value → Bool
  | [], [] => true
  | d :: ds, v :: vs => valB K d v && valsB K ds vs
  | _, _ => false
end
section
variable [Wd]
mutual
theorem valB_ok {K : PySem.W.Frag} : ∀ {d : D} {u : Value}, valB K d u = true → ∃ v, RelV v u ∧ ∀ H P, RP K H P v d
  | .none, u, h => by
    cases u <;> simp [valB] at h
    exact ⟨.non, rfl, fun _ _ => .non⟩
  | .bool b, u, h => by
    cases u <;> simp [valB] at h
    subst h
    exact ⟨.bl b, rfl, fun _ _ => .bl b⟩
  | .int i, u, h => by
    cases u <;> simp [valB] at h
    subst h
    exact ⟨.int i, ⟨_, rfl⟩, fun _ _ => .int i⟩
  | .str i, u, h => by
    cases u <;> simp [valB] at h
    subst h
    exact ⟨.str i, ⟨_, rfl⟩, fun _ _ => .str i⟩
  | .list _, u, h => by cases u <;> simp [valB] at h
  | .dict _, u, h => by cases u <;> simp [valB] at h
  | .tuple ds, u, h => by
    cases u with
    | ref a =>
      unfold valB at h
      split at h
      · rename_i c its n sl e
        simp only [Bool.and_eq_true, decide_eq_true_eq] at h
        obtain ⟨rfl, hz, hv⟩ := h
        obtain ⟨xs, r1, r2⟩ := valsB_ok hv
        exact ⟨.ref a, rfl, fun H P => .tup (.inr ⟨_, its, n, e, rfl, rfl, hz, r1⟩) (r2 H P)⟩
      · cases h
    | _ => simp [valB] at h
theorem valsB_ok {K : PySem.W.Frag} : ∀ {ds : List D} {us : List Value}, valsB K ds us = true → ∃ vs, Vals vs us ∧ ∀ H P, RPs K H P vs ds
  | [], us, h => by
    cases us <;> simp [valsB] at h
    exact ⟨[], .nil, fun _ _ => .nil⟩
  | d :: ds, us, h => by
    cases us with
    | nil => simp [valsB] at h
    | cons u us =>
      simp only [valsB, Bool.and_eq_true] at h
      obtain ⟨v, a1, a2⟩ := valB_ok h.1
      obtain ⟨vs, b1, b2⟩ := valsB_ok h.2
      exact ⟨v :: vs, .cons a1 b1, fun H P => .cons (a2 H P) (b2 H P)⟩
end
end
def conB (K : PySem.W.Frag) (p : Str × D) : Bool := match PySem.W.nsIn K mainGlobals p.1 with
  | some (some u) => valB K p.2 u
  | _ => false
/-! ### what the head tells -/
def Tx.dd (T : Tx) : List He.DefD := T.rows.map fun r => ⟨(r.x, none), r.x, r.x, C8.fnArgs r.st, C8.fnBody r.st, C8.fnScope r.st, [], []⟩
def Tx.fa (T : Tx) : List He.Fa := (T.rows.map fun r => .glo r.x) ++ T.blt.map .free
def Tx.more (T : Tx) (K : PySem.W.Frag) : Bool := T.con.all (conB K) && (!T.gcd || He.eqO (PySem.W.nsIn K mainGlobals "gcd") (some (some (.builtin "math.gcd"))))
def Tx.obs (T : Tx) (K : PySem.W.Frag) : He.AlD := (T.more K && (He.obsD T.fa T.dd K).1, (He.obsD T.fa T.dd K).2)
def Tx.says (T : Tx) (K : PySem.W.Frag) : Prop := T.obs K = He.valD T.dd
def Tx.obsG (T : Tx) (n : Nat) (g : Addr → Option Obj) : He.AlD := T.obs (He.frG g (He.asD g n))
def Tx.hook (T : Tx) (n : Nat) : PySem.W.Hook where
  α := He.AlD
  obs := fun s => T.obsG n s.heap.get?
  val := fun _ => He.valD T.dd
  says := fun _ h => ∃ K : PySem.W.Frag, K.In h ∧ T.says K
  of := fun _ _ e => ⟨_, He.frG_in, e⟩
  keeps := fun _ _ _ ⟨K, kin, c⟩ q => ⟨K, PySem.W.Frag.In.keeps kin q, c⟩
theorem Tx.obsG_eq {T : Tx} {n : Nat} {g : Addr → Option Obj} {s : Shared} (h : ∀ a, g a = s.heap.get? a) : T.obsG n g = (T.hook n).obs s := by
  have e : g = s.heap.get? := funext h
  rw [e]
  rfl
theorem Tx.known [Wd] {T : Tx} {K : PySem.W.Frag} {h : Heap} {mg : Str → Option Value} (kin : K.In h) (G : h.Ns mainGlobals mg) (c : T.says K) : Known T K mg := by
  have c1 : (T.more K && (He.obsD T.fa T.dd K).1) = true := congrArg (fun z : He.AlD => z.1) c
  rw [Bool.and_eq_true] at c1
  obtain ⟨m, o1⟩ := c1
  have c2 : (He.obsD T.fa T.dd K).2 = T.dd.map He.DefD.val := congrArg (fun z : He.AlD => z.2) c
  have sd : He.SaysD T.fa T.dd K := Prod.ext o1 c2
  unfold Tx.more at m
  simp only [Bool.and_eq_true, List.all_eq_true, Bool.or_eq_true, Bool.not_eq_true'] at m
  have facts : ∀ f ∈ T.fa, f.ok K = true := fun f hf => by
    obtain ⟨i, hi⟩ := List.getElem?_of_mem hf
    exact sd.fact i hi
  refine ⟨fun r hr => ⟨?_, ?_⟩, fun p hp => ?_, fun x hx => ?_, fun z => ?_⟩
  · have : (⟨(r.x, none), r.x, r.x, C8.fnArgs r.st, C8.fnBody r.st, C8.fnScope r.st, [], []⟩ : He.DefD) ∈ T.dd := List.mem_map.mpr ⟨r, hr, rfl⟩
    obtain ⟨i, hi⟩ := List.getElem?_of_mem this
    exact sd.def_ i hi
  · exact He.glo_ok kin G (facts (.glo r.x) (List.mem_append_left _ (List.mem_map.mpr ⟨r, hr, rfl⟩)))
  · have q := m.1 p hp
    unfold conB at q
    split at q
    · rename_i u e
      obtain ⟨v, h1, h2⟩ := valB_ok q
      exact ⟨u, v, PySem.W.mg_of kin G e, h1, h2⟩
    · cases q
  · exact He.free_ok kin G (facts (.free x) (List.mem_append_right _ (List.mem_map.mpr ⟨x, hx, rfl⟩)))
  · rcases m.2 with m2 | m2
    · rw [z] at m2
      cases m2
    · exact PySem.W.mg_of kin G (He.eqO_ok m2)
/-- the end: the evaluator says True -/
theorem walkEnd {l : PySem.W.OpenLaw} {T : Tx} {wf k n : Nat} {q : Program} {loose : List Str} {XP : (Str → Option Value) → Heap → Prop} {d : DefRec} {r : Row} (hn : l.most = some 63) (hdf : d.params.defaults = []) (room : Room k callerA)
    (hname : d.name = r.x) (hr : r ∈ T.rows) (hps : (psOf r.st).length = 1) (hbr : r.fn.br = false) (hfr : r.fn.fresh = false) (hpar : r.fn.params = 1)
    (hrows : ∀ r ∈ T.rows, rowC T r = true) (hbind : ∀ r ∈ T.rows, BindOk r) (hkw : ∀ q ∈ T.kw, ∀ r ∈ T.rows, r.x = q.1 → KwOk r q) (hnd : (T.rows.map (·.x)).Nodup)
    (hev : ∀ ns : List Int, ns.length ≤ 63 → ∃ d0, callN T.defs wf k r.fn.name [.list (ns.map .int)] = .ok (.bool true, d0)) :
    PySem.W.WalkO q loose XP (T.hook n).says l.row.toRowW d [] (fun f vs => PySem.call f vs) := by
  refine Att.attach_call hn hdf fun w s₀ s₁ mg mb fa o pm cd doc a vs ns G Y ho hd hcd hmg hobj hin hlen hg => ?_
  letI : Wd := ⟨l.prog, w⟩
  obtain ⟨K, kin, c⟩ := Y
  have kn := Tx.known kin G.T.g c
  obtain ⟨⟨fd, F⟩, hm⟩ := kn.fns r hr
  rw [hname, hm] at hmg
  cases hmg
  obtain ⟨x, hx⟩ : ∃ x, psOf r.st = [x] := by
    rcases hq : psOf r.st with _ | ⟨x, _ | ⟨y, ys⟩⟩ <;> rw [hq] at hps <;> simp at hps
    exact ⟨x, rfl⟩
  have b := hbind r hr
  refine lawRun (x := x) (sp := spF (callN T.defs wf k) K r.fn) (k := k) (fd := fd) kin G.T.g G.T.b G.T.builtins G.T.nolimit hg hobj hin (Nat.le_trans hlen (by rw [sizeLine_eq]; omega)) room (fun base kb gb => ?_) (fun s u => ?_) fun H sq => ?_
  · have := tabG (P := l.prog) (w := w) (base := base) (wf := wf) ⟨rfl, rfl⟩ kn hrows hbind hkw hnd k r hr fd F
    rw [hx] at this
    exact this
  · have := F.bindsA (ps := psOf r.st) b s [u] (by rw [hps]; rfl)
    rw [hx] at this
    exact this
  · refine ⟨fun _ => True, [.list (ns.map .int)], by rw [hpar]; rfl, fun _ _ => trivial, ?_, ?_⟩
    · rw [hbr]
      have ri : ∀ ms : List Int, RPs K H (fun _ => True) (ms.map V.int) (ms.map PyData.int) := fun ms => by
        induction ms with
        | nil => exact .nil
        | cons m ms ih => exact .cons (.int m) ih
      refine .val (.cons ?_ .nil)
      rcases sq with sq | sq
      · exact .lst trivial sq (ri ns)
      · exact .lit (.inr sq) (ri ns)
    · obtain ⟨d0, e⟩ := hev ns hlen
      rw [e]
      intro v H' ro
      have q := ro.val hfr
      cases q
      rfl
end PV
set_option Elab.async false
set_option linter.all false
set_option maxRecDepth 100000
/-! PM, part A: the evaluator's equations, one by one, for simp; what follows a step is told by a name, so that simp leaves it alone till the step is done. -/
namespace PV.M
open PySem PV
theorem bcongr {A B : Type} {r : Res A} {f g : A → Res B} (h : ∀ a, f a = g a) : r.bind f = r.bind g := by rw [funext h]
/-- an option as an expression's result -/
def optR (o : Option D) (e : Fram) : Res (D × Fram) := match o with
  | some d => .ok (d, e)
  | none => .bad
@[simp] theorem optR_some {d : D} {e : Fram} : optR (some d) e = .ok (d, e) := rfl
theorem optR_eq {o : Option D} {e : Fram} : ((opt o).bind fun z => .ok (z, e)) = optR o e := by cases o <;> rfl
def bind2 (o p : Option D) (f : D → D → Option D) : Option D := match o, p with
  | some x, some y => f x y
  | _, _ => none
@[simp] theorem bind2_some {x y : D} {f : D → D → Option D} : bind2 (some x) (some y) f = f x y := rfl
theorem bind2_eq {A : Type} {o p : Option D} {f : D → D → Option D} {g : D → Res A} : ((opt o).bind fun x => (opt p).bind fun y => (opt (f x y)).bind g) = (opt (bind2 o p f)).bind g := by
  cases o <;> cases p <;> rfl
def bind1 (o : Option D) (f : D → Option D) : Option D := match o with
  | some x => f x
  | none => none
@[simp] theorem bind1_some {x : D} {f : D → Option D} : bind1 (some x) f = f x := rfl
theorem bind1_eq {A : Type} {o : Option D} {f : D → Option D} {g : D → Res A} : ((opt o).bind fun x => (opt (f x)).bind g) = (opt (bind1 o f)).bind g := by cases o <;> rfl
section
variable {Ph : CallF} {wf : Nat} {br : Bool} {env e : Fram} {d : D}
/-! expressions -/
@[simp] theorem ev_var {i : Nat} : ev Ph (.var i) env = readVar i env := rfl
@[simp] theorem ev_int {i : Int} : ev Ph (.int i) env = .ok (.int i, env) := rfl
@[simp] theorem ev_str {s : Str} : ev Ph (.str s) env = .ok (.str s, env) := rfl
@[simp] theorem ev_bl {b : Bool} : ev Ph (.bl b) env = .ok (.bool b, env) := rfl
@[simp] theorem ev_non : ev Ph .non env = .ok (.none, env) := rfl
@[simp] theorem ev_glob {x : Str} {d : D} : ev Ph (.glob x d) env = .ok (d, env) := rfl
def kTup (p : List D × Fram) : Res (D × Fram) := .ok (.tuple p.1, p.2)
@[simp] theorem kTup_eq {ds : List D} : kTup (ds, e) = .ok (.tuple ds, e) := rfl
@[simp] theorem ev_tup {es : Exs} : ev Ph (.tup es) env = (evs Ph es env).bind kTup := rfl
def kLst (p : List D × Fram) : Res (D × Fram) := .ok (.list p.1, p.2)
@[simp] theorem kLst_eq {ds : List D} : kLst (ds, e) = .ok (.list ds, e) := rfl
@[simp] theorem ev_lst {es : Exs} : ev Ph (.lst es) env = (evs Ph es env).bind kLst := rfl
@[simp] theorem ev_dict0 : ev Ph .dict0 env = .ok (.dict [], env) := rfl
/-- the second operand's end -/
def kB2 (f : D → D → Option D) (x : Opd) (p : Opd × Fram) : Res (D × Fram) := optR (bind2 (deref p.2 x) (deref p.2 p.1) f) p.2
@[simp] theorem kB2_eq {f : D → D → Option D} {x y : Opd} : kB2 f x (y, e) = optR (bind2 (deref e x) (deref e y) f) e := rfl
def kB1 (Ph : CallF) (f : D → D → Option D) (b : Exp) (p : Opd × Fram) : Res (D × Fram) := (opd b p.2 (ev Ph b p.2)).bind (kB2 f p.1)
@[simp] theorem kB1_eq {f : D → D → Option D} {b : Exp} {x : Opd} : kB1 Ph f b (x, e) = (opd b e (ev Ph b e)).bind (kB2 f x) := rfl
@[simp] theorem ev_bin {o : Bop} {a b : Exp} : ev Ph (.bin o a b) env = (opd a env (ev Ph a env)).bind (kB1 Ph (binF o) b) := by
  refine bcongr fun p => bcongr fun q => ?_
  show ((opt (deref q.2 p.1)).bind fun x => (opt (deref q.2 q.1)).bind fun y => (opt (binF o x y)).bind fun z => .ok (z, q.2)) = _
  rw [bind2_eq, optR_eq]
  rfl
/-- a value's end -/
def kU (f : D → Option D) (p : D × Fram) : Res (D × Fram) := optR (f p.1) p.2
@[simp] theorem kU_eq {f : D → Option D} {x : D} : kU f (x, e) = optR (f x) e := rfl
def kO (f : D → Option D) (p : Opd × Fram) : Res (D × Fram) := optR (bind1 (deref p.2 p.1) f) p.2
@[simp] theorem kO_eq {f : D → Option D} {x : Opd} : kO f (x, e) = optR (bind1 (deref e x) f) e := rfl
/-- - x -/
def negF : D → Option D
  | .int i => some (.int (-i))
  | _ => none
@[simp] theorem negF_int {i : Int} : negF (.int i) = some (.int (-i)) := rfl
@[simp] theorem ev_neg {a : Exp} : ev Ph (.neg a) env = (ev Ph a env).bind (kU negF) := by
  refine bcongr fun p => ?_
  rcases p with ⟨d, e⟩
  cases d <;> rfl
/-- not x -/
def notF : D → Option D
  | .bool b => some (.bool (!b))
  | _ => none
@[simp] theorem notF_bool {b : Bool} : notF (.bool b) = some (.bool (!b)) := rfl
@[simp] theorem ev_nott {a : Exp} : ev Ph (.nott a) env = (ev Ph a env).bind (kU notF) := by
  refine bcongr fun p => ?_
  rcases p with ⟨d, e⟩
  cases d <;> rfl
@[simp] theorem ev_conj {es : Exs} : ev Ph (.conj es) env = evAnd Ph es env := rfl
@[simp] theorem ev_disj {es : Exs} : ev Ph (.disj es) env = evOr Ph es env := rfl
def isNF (d : D) : Option D := some (.bool (isNoneD d))
@[simp] theorem isNF_eq {x : D} : isNF x = some (.bool (isNoneD x)) := rfl
def notNF (d : D) : Option D := some (.bool (!isNoneD d))
@[simp] theorem notNF_eq {x : D} : notNF x = some (.bool (!isNoneD x)) := rfl
@[simp] theorem isNoneD_none : isNoneD .none = true := rfl
@[simp] theorem isNoneD_int {i : Int} : isNoneD (.int i) = false := rfl
@[simp] theorem isNoneD_bool {b : Bool} : isNoneD (.bool b) = false := rfl
@[simp] theorem isNoneD_str {x : Str} : isNoneD (.str x) = false := rfl
@[simp] theorem isNoneD_tuple {xs : List D} : isNoneD (.tuple xs) = false := rfl
@[simp] theorem isNoneD_list {xs : List D} : isNoneD (.list xs) = false := rfl
@[simp] theorem isNoneD_dict {xs : List (D × D)} : isNoneD (.dict xs) = false := rfl
@[simp] theorem ev_isN {a b : Exp} : ev Ph (.cmp .isN a b) env = (opd a env (ev Ph a env)).bind (kO isNF) := by
  refine bcongr fun p => ?_
  show ((opt (deref p.2 p.1)).bind fun x => .ok (.bool (isNoneD x), p.2)) = optR (bind1 (deref p.2 p.1) isNF) p.2
  cases deref p.2 p.1 <;> rfl
@[simp] theorem ev_notN {a b : Exp} : ev Ph (.cmp .notN a b) env = (opd a env (ev Ph a env)).bind (kO notNF) := by
  refine bcongr fun p => ?_
  show ((opt (deref p.2 p.1)).bind fun x => .ok (.bool (!isNoneD x), p.2)) = optR (bind1 (deref p.2 p.1) notNF) p.2
  cases deref p.2 p.1 <;> rfl
/-- a comparison's datum -/
def cmpD (o : Cop) (x y : D) : Option D := (cmpF o x y).map .bool
@[simp] theorem cmpD_eq {o : Cop} {x y : D} : cmpD o x y = (cmpF o x y).map .bool := rfl
theorem ev_cmpD {o : Cop} {a b : Exp} : ((opd a env (ev Ph a env)).bind fun p => (opd b p.2 (ev Ph b p.2)).bind fun q => (opt (deref q.2 p.1)).bind fun x => (opt (deref q.2 q.1)).bind fun y => (opt (cmpF o x y)).bind fun z => .ok (.bool z, q.2)) = (opd a env (ev Ph a env)).bind (kB1 Ph (cmpD o) b) := by
  refine bcongr fun p => bcongr fun q => ?_
  show _ = optR (bind2 (deref q.2 p.1) (deref q.2 q.1) (cmpD o)) q.2
  cases deref q.2 p.1 with
  | none => rfl
  | some x => cases deref q.2 q.1 with
    | none => rfl
    | some y =>
      show ((opt (cmpF o x y)).bind fun z => .ok (.bool z, q.2)) = optR ((cmpF o x y).map .bool) q.2
      cases cmpF o x y <;> rfl
@[simp] theorem ev_eq {a b : Exp} : ev Ph (.cmp .eq a b) env = (opd a env (ev Ph a env)).bind (kB1 Ph (cmpD .eq) b) := ev_cmpD
@[simp] theorem ev_ne {a b : Exp} : ev Ph (.cmp .ne a b) env = (opd a env (ev Ph a env)).bind (kB1 Ph (cmpD .ne) b) := ev_cmpD
@[simp] theorem ev_lt {a b : Exp} : ev Ph (.cmp .lt a b) env = (opd a env (ev Ph a env)).bind (kB1 Ph (cmpD .lt) b) := ev_cmpD
@[simp] theorem ev_le {a b : Exp} : ev Ph (.cmp .le a b) env = (opd a env (ev Ph a env)).bind (kB1 Ph (cmpD .le) b) := ev_cmpD
@[simp] theorem ev_gt {a b : Exp} : ev Ph (.cmp .gt a b) env = (opd a env (ev Ph a env)).bind (kB1 Ph (cmpD .gt) b) := ev_cmpD
@[simp] theorem ev_ge {a b : Exp} : ev Ph (.cmp .ge a b) env = (opd a env (ev Ph a env)).bind (kB1 Ph (cmpD .ge) b) := ev_cmpD
@[simp] theorem ev_inn {a b : Exp} : ev Ph (.cmp .inn a b) env = (opd a env (ev Ph a env)).bind (kB1 Ph (cmpD .inn) b) := ev_cmpD
@[simp] theorem ev_notin {a b : Exp} : ev Ph (.cmp .notin a b) env = (opd a env (ev Ph a env)).bind (kB1 Ph (cmpD .notin) b) := ev_cmpD
/-- the parts of a < b < c -/
def kD2 (f : D → D → Option D) (x : D) (p : D × Fram) : Res (D × Fram) := optR (f x p.1) p.2
@[simp] theorem kD2_eq {f : D → D → Option D} {x y : D} : kD2 f x (y, e) = optR (f x y) e := rfl
def kC3 (Ph : CallF) (o' : Cop) (c : Exp) (y : D) (env : Fram) : Option Bool → Res (D × Fram)
  | some true => (ev Ph c env).bind (kD2 (cmpD o') y)
  | some false => .ok (.bool false, env)
  | none => .bad
@[simp] theorem kC3_eq {o' : Cop} {c : Exp} {y : D} {b : Bool} : kC3 Ph o' c y env (some b) = if b = true then (ev Ph c env).bind (kD2 (cmpD o') y) else .ok (.bool false, env) := by cases b <;> rfl
def kC2 (Ph : CallF) (o o' : Cop) (c : Exp) (x : D) (p : D × Fram) : Res (D × Fram) := kC3 Ph o' c p.1 p.2 (cmpF o x p.1)
@[simp] theorem kC2_eq {o o' : Cop} {c : Exp} {x y : D} : kC2 Ph o o' c x (y, e) = kC3 Ph o' c y e (cmpF o x y) := rfl
def kC1 (Ph : CallF) (o o' : Cop) (b c : Exp) (p : D × Fram) : Res (D × Fram) := (ev Ph b p.2).bind (kC2 Ph o o' c p.1)
@[simp] theorem kC1_eq {o o' : Cop} {b c : Exp} {x : D} : kC1 Ph o o' b c (x, e) = (ev Ph b e).bind (kC2 Ph o o' c x) := rfl
@[simp] theorem ev_cmp2 {o o' : Cop} {a b c : Exp} : ev Ph (.cmp2 o o' a b c) env = (ev Ph a env).bind (kC1 Ph o o' b c) := by
  refine bcongr fun p => bcongr fun q => ?_
  show (opt (cmpF o p.1 q.1)).bind _ = kC3 Ph o' c q.1 q.2 (cmpF o p.1 q.1)
  cases cmpF o p.1 q.1 with
  | none => rfl
  | some z => cases z with
    | false => rfl
    | true =>
      show ((ev Ph c q.2).bind fun r => (opt (cmpF o' q.1 r.1)).bind fun z' => .ok (.bool z', r.2)) = (ev Ph c q.2).bind (kD2 (cmpD o') q.1)
      refine bcongr fun r => ?_
      show _ = optR ((cmpF o' q.1 r.1).map .bool) r.2
      cases cmpF o' q.1 r.1 <;> rfl
/-! tests -/
@[simp] theorem ite_and {A : Type} {p : Prop} [Decidable p] {c : Bool} {e : A} : (if p then Res.ok (PyData.bool c, e) else .ok (.bool false, e)) = .ok (.bool (decide p && c), e) := by
  by_cases h : p <;> simp [h]
@[simp] theorem ite_or {A : Type} {p : Prop} [Decidable p] {c : Bool} {e : A} : (if p then Res.ok (PyData.bool true, e) else .ok (.bool c, e)) = .ok (.bool (decide p || c), e) := by
  by_cases h : p <;> simp [h]
def kIte (Ph : CallF) (a b : Exp) (p : D × Fram) : Res (D × Fram) := match p.1 with
  | .bool true => ev Ph a p.2
  | .bool false => ev Ph b p.2
  | _ => .bad
@[simp] theorem kIte_eq {a b : Exp} {c : Bool} : kIte Ph a b (.bool c, e) = if c = true then ev Ph a e else ev Ph b e := by cases c <;> rfl
@[simp] theorem ev_ite {c a b : Exp} : ev Ph (.ite c a b) env = (ev Ph c env).bind (kIte Ph a b) := by
  refine bcongr fun p => ?_
  rcases p with ⟨d, e⟩
  cases d with
  | bool b => cases b <;> rfl
  | _ => rfl
def kI2 (f : D → D → Option D) (x : Opd) (p : D × Fram) : Res (D × Fram) := optR (bind2 (deref p.2 x) (some p.1) f) p.2
@[simp] theorem kI2_eq {f : D → D → Option D} {x : Opd} {y : D} : kI2 f x (y, e) = optR (bind2 (deref e x) (some y) f) e := rfl
def kI1 (Ph : CallF) (i : Exp) (p : Opd × Fram) : Res (D × Fram) := (ev Ph i p.2).bind (kI2 idxF p.1)
@[simp] theorem kI1_eq {i : Exp} {x : Opd} : kI1 Ph i (x, e) = (ev Ph i e).bind (kI2 idxF x) := rfl
@[simp] theorem ev_idx {a i : Exp} : ev Ph (.idx a i) env = (opd a env (ev Ph a env)).bind (kI1 Ph i) := by
  refine bcongr fun p => bcongr fun q => ?_
  show ((opt (deref q.2 p.1)).bind fun x => (opt (idxF x q.1)).bind fun z => .ok (z, q.2)) = optR (bind2 (deref q.2 p.1) (some q.1) idxF) q.2
  cases deref q.2 p.1 with
  | none => rfl
  | some x => exact optR_eq
def sliceG (l h : Option Int) (x : D) : Option D := sliceF x l h
@[simp] theorem sliceG_eq {l h : Option Int} {x : D} : sliceG l h x = sliceF x l h := rfl
def kS3 (x : Opd) (l : Option Int) (p : Option Int × Fram) : Res (D × Fram) := optR (bind1 (deref p.2 x) (sliceG l p.1)) p.2
@[simp] theorem kS3_eq {x : Opd} {l h : Option Int} : kS3 x l (h, e) = optR (bind1 (deref e x) (sliceG l h)) e := rfl
def kS2 (Ph : CallF) (hi : Exo) (x : Opd) (p : Option Int × Fram) : Res (D × Fram) := (evo Ph hi p.2).bind (kS3 x p.1)
@[simp] theorem kS2_eq {hi : Exo} {x : Opd} {l : Option Int} : kS2 Ph hi x (l, e) = (evo Ph hi e).bind (kS3 x l) := rfl
def kS1 (Ph : CallF) (lo hi : Exo) (p : Opd × Fram) : Res (D × Fram) := (evo Ph lo p.2).bind (kS2 Ph hi p.1)
@[simp] theorem kS1_eq {lo hi : Exo} {x : Opd} : kS1 Ph lo hi (x, e) = (evo Ph lo e).bind (kS2 Ph hi x) := rfl
@[simp] theorem ev_slice {a : Exp} {lo hi : Exo} : ev Ph (.slice a lo hi) env = (opd a env (ev Ph a env)).bind (kS1 Ph lo hi) := by
  refine bcongr fun p => bcongr fun q => bcongr fun r => ?_
  show ((opt (deref r.2 p.1)).bind fun x => (opt (sliceF x q.1 r.1)).bind fun z => .ok (z, r.2)) = optR (bind1 (deref r.2 p.1) (sliceG q.1 r.1)) r.2
  cases deref r.2 p.1 with
  | none => rfl
  | some x => exact optR_eq
/-- xs[::-1] -/
def revF : D → Option D
  | .list xs => some (.list xs.reverse)
  | .tuple xs => some (.tuple xs.reverse)
  | _ => none
@[simp] theorem revF_list {xs : List D} : revF (.list xs) = some (.list xs.reverse) := rfl
@[simp] theorem revF_tuple {xs : List D} : revF (.tuple xs) = some (.tuple xs.reverse) := rfl
@[simp] theorem ev_rev {a : Exp} : ev Ph (.rev a) env = (opd a env (ev Ph a env)).bind (kO revF) := by
  refine bcongr fun p => ?_
  show (opt (deref p.2 p.1)).bind _ = optR (bind1 (deref p.2 p.1) revF) p.2
  cases deref p.2 p.1 with
  | none => rfl
  | some x => cases x <;> rfl
/-! calls -/
/-- what a call's result is, the callee has no list to change -/
def callV (sl : Bool) (env : Fram) : Res (D × D) → Res (D × Fram)
  | .ok (d, _) => if sl && !flat d then .bad else .ok (d, env)
  | .exc x _ => .exc x env
  | .bad => .bad
@[simp] theorem callV_f {d d0 : D} : callV false env (.ok (d, d0)) = .ok (d, env) := rfl
@[simp] theorem callV_t {d d0 : D} : callV true env (.ok (d, d0)) = if (!flat d) = true then .bad else .ok (d, env) := rfl
/-- the same, the callee may change the first slot's list -/
def callB (env : Fram) : Res (D × D) → Res (D × Fram)
  | .ok (d, d0) => .ok (d, env.set 0 (.own d0))
  | _ => .bad
@[simp] theorem callB_ok {d d0 : D} : callB env (.ok (d, d0)) = .ok (d, env.set 0 (.own d0)) := rfl
def callO (Ph : CallF) (f : Str) (sl : Bool) (env : Fram) : Option (List D) → Res (D × Fram)
  | some ds => callV sl env (Ph f ds)
  | none => .bad
@[simp] theorem callO_some {f : Str} {sl : Bool} {ds : List D} : callO Ph f sl env (some ds) = callV sl env (Ph f ds) := rfl
def callP (Ph : CallF) (f : Str) (ok : Bool) (env : Fram) : Option (List D) → Res (D × Fram)
  | some ds => if ok = true then callB env (Ph f ds) else .bad
  | none => .bad
@[simp] theorem callP_some {f : Str} {ok : Bool} {ds : List D} : callP Ph f ok env (some ds) = if ok = true then callB env (Ph f ds) else .bad := rfl
@[simp] theorem callE_f {f : Str} {os : List Opd} : callE Ph f false os env = callO Ph f (anySlot os) env (derefs env os) := by
  unfold callE
  cases derefs env os with
  | none => rfl
  | some ds =>
    show ((match Ph f ds with
      | .ok (d, _) => if anySlot os && !flat d then .bad else .ok (d, env)
      | .exc x _ => .exc x env
      | .bad => .bad) : Res (D × Fram)) = callV (anySlot os) env (Ph f ds)
    cases Ph f ds with
    | ok p => rfl
    | _ => rfl
@[simp] theorem callE_t {f : Str} {i : Nat} {os : List Opd} : callE Ph f true (.slot i :: os) env = callP Ph f (decide (i = 0) && isOwn env 0 && !anySlot os) env (derefs env (.slot i :: os)) := by
  unfold callE
  cases derefs env (.slot i :: os) with
  | none => rfl
  | some ds =>
    show ((if (decide (i = 0) && isOwn env 0 && !anySlot os) = true then (match Ph f ds with
      | .ok (d, d0) => .ok (d, env.set 0 (.own d0))
      | _ => .bad) else .bad) : Res (D × Fram)) = (if (decide (i = 0) && isOwn env 0 && !anySlot os) = true then callB env (Ph f ds) else .bad)
    split
    · cases Ph f ds with
      | ok p => rfl
      | _ => rfl
    · rfl
def kCall (Ph : CallF) (f : Str) (b : Bool) (p : List Opd × Fram) : Res (D × Fram) := callE Ph f b p.1 p.2
@[simp] theorem kCall_eq {f : Str} {b : Bool} {os : List Opd} : kCall Ph f b (os, e) = callE Ph f b os e := rfl
@[simp] theorem ev_call {f : Str} {b : Bool} {es : Exs} : ev Ph (.call f b es) env = (evp Ph es env).bind (kCall Ph f b) := rfl
def kCK2 (Ph : CallF) (f : Str) (perm : List Nat) (os : List Opd) (p : List Opd × Fram) : Res (D × Fram) := callE Ph f false (os ++ permV perm p.1) p.2
@[simp] theorem kCK2_eq {f : Str} {perm : List Nat} {os ps : List Opd} : kCK2 Ph f perm os (ps, e) = callE Ph f false (os ++ permV perm ps) e := rfl
def kCK1 (Ph : CallF) (f : Str) (kes : Exs) (perm : List Nat) (p : List Opd × Fram) : Res (D × Fram) := (evp Ph kes p.2).bind (kCK2 Ph f perm p.1)
@[simp] theorem kCK1_eq {f : Str} {kes : Exs} {perm : List Nat} {os : List Opd} : kCK1 Ph f kes perm (os, e) = (evp Ph kes e).bind (kCK2 Ph f perm os) := rfl
@[simp] theorem ev_callK {f : Str} {b : Bool} {es kes : Exs} {ks : List Str} {perm : List Nat} : ev Ph (.callK f b es kes ks perm) env = (evp Ph es env).bind (kCK1 Ph f kes perm) := rfl
@[simp] theorem permV_nil {A : Type} {xs : List A} : permV [] xs = [] := rfl
@[simp] theorem permV_cons {A : Type} {i : Nat} {is : List Nat} {xs : List A} : permV (i :: is) xs = (match xs[i]? with
  | some x => x :: permV is xs
  | none => permV is xs) := by
  unfold permV
  rw [List.filterMap_cons]
  cases xs[i]? <;> rfl
/-- a value handed on -/
def okV {A : Type} (env : Fram) : Res (D × A) → Res (D × Fram)
  | .ok (d, _) => .ok (d, env)
  | _ => .bad
@[simp] theorem okV_ok {A : Type} {d : D} {a : A} : okV env (.ok (d, a)) = .ok (d, env) := rfl
/-- a new jar, handed to a def -/
def jarCall (Ph : CallF) (f : Str) (env : Fram) : Res (D × D) → Res (D × Fram)
  | .ok (j, _) => okV env (Ph f [j])
  | _ => .bad
@[simp] theorem jarCall_ok {f : Str} {j d0 : D} : jarCall Ph f env (.ok (j, d0)) = okV env (Ph f [j]) := rfl
def kCJ (Ph : CallF) (f g : Str) (p : List D × Fram) : Res (D × Fram) := jarCall Ph f p.2 (Ph g p.1)
@[simp] theorem kCJ_eq {f g : Str} {ds : List D} : kCJ Ph f g (ds, e) = jarCall Ph f e (Ph g ds) := rfl
@[simp] theorem ev_callJ {f g : Str} {es : Exs} : ev Ph (.callJ f g es) env = (evs Ph es env).bind (kCJ Ph f g) := by
  refine bcongr fun p => ?_
  show ((match Ph g p.1 with
    | .ok (j, _) => (match Ph f [j] with
      | .ok (d, _) => .ok (d, p.2)
      | _ => .bad)
    | _ => .bad) : Res (D × Fram)) = jarCall Ph f p.2 (Ph g p.1)
  cases Ph g p.1 with
  | ok q =>
    rcases q with ⟨j, d0⟩
    show ((match Ph f [j] with
      | .ok (d, _) => .ok (d, p.2)
      | _ => .bad) : Res (D × Fram)) = okV p.2 (Ph f [j])
    cases Ph f [j] with
    | ok q => rfl
    | _ => rfl
  | _ => rfl
def bltO (b : Blt) : Option (List D) → Option D
  | some ds => bltF b ds
  | none => none
@[simp] theorem bltO_some {b : Blt} {ds : List D} : bltO b (some ds) = bltF b ds := rfl
def kBlt (b : Blt) (p : List Opd × Fram) : Res (D × Fram) := optR (bltO b (derefs p.2 p.1)) p.2
@[simp] theorem kBlt_eq {b : Blt} {os : List Opd} : kBlt b (os, e) = optR (bltO b (derefs e os)) e := rfl
@[simp] theorem ev_blt {b : Blt} {es : Exs} : ev Ph (.blt b es) env = (evp Ph es env).bind (kBlt b) := by
  refine bcongr fun p => ?_
  show ((opt (derefs p.2 p.1)).bind fun ds => (opt (bltF b ds)).bind fun z => .ok (z, p.2)) = optR (bltO b (derefs p.2 p.1)) p.2
  cases derefs p.2 p.1 with
  | none => rfl
  | some ds => exact optR_eq
def isG (t : Ty) (x : D) : Option D := some (.bool (isF t x))
@[simp] theorem isG_eq {t : Ty} {x : D} : isG t x = some (.bool (isF t x)) := rfl
@[simp] theorem ev_isi {a : Exp} {t : Ty} : ev Ph (.isi a t) env = (opd a env (ev Ph a env)).bind (kO (isG t)) := by
  refine bcongr fun p => ?_
  show ((opt (deref p.2 p.1)).bind fun x => .ok (.bool (isF t x), p.2)) = optR (bind1 (deref p.2 p.1) (isG t)) p.2
  cases deref p.2 p.1 <;> rfl
/-! comprehensions -/
def kT3 (own : List Nat) (p : D × Fram) : Res (Option D × Fram) := .ok (some p.1, wipeF p.2 own)
@[simp] theorem kT3_eq {own : List Nat} {x : D} : kT3 own (x, e) = .ok (some x, wipeF e own) := rfl
def kT2 (Ph : CallF) (elt : Exp) (own : List Nat) (q : Bool × Fram) : Res (Option D × Fram) := match q.1 with
  | true => (ev Ph elt q.2).bind (kT3 own)
  | false => .ok (none, wipeF q.2 own)
@[simp] theorem kT2_eq {elt : Exp} {own : List Nat} {b : Bool} : kT2 Ph elt own (b, e) = if b = true then (ev Ph elt e).bind (kT3 own) else .ok (none, wipeF e own) := by cases b <;> rfl
def kT1 (Ph : CallF) (elt : Exp) (cs : Exs) (own : List Nat) : Option Fram → Res (Option D × Fram)
  | some e => (evTests Ph cs e).bind (kT2 Ph elt own)
  | none => .bad
@[simp] theorem kT1_some {elt : Exp} {cs : Exs} {own : List Nat} : kT1 Ph elt cs own (some e) = (evTests Ph cs e).bind (kT2 Ph elt own) := rfl
/-- one turn of a comprehension -/
def cTurn (Ph : CallF) (elt : Exp) (tg : Tg) (cs : Exs) (own : List Nat) (x : D) (e : Fram) : Res (Option D × Fram) := noExc (kT1 Ph elt cs own (store tg x e))
theorem cTurn_eq {elt : Exp} {tg : Tg} {cs : Exs} {own : List Nat} {x : D} : cTurn Ph elt tg cs own x e = noExc (kT1 Ph elt cs own (store tg x e)) := rfl
def kComp2 (env : Fram) (own : List Nat) (p : List D × Fram) : Res (D × Fram) := .ok (.list p.1, restore p.2 env own)
@[simp] theorem kComp2_eq {own : List Nat} {ds : List D} : kComp2 env own (ds, e) = .ok (.list ds, restore e env own) := rfl
/-- a comprehension over what is there -/
def cRun (Ph : CallF) (elt : Exp) (tg : Tg) (cs : Exs) (own : List Nat) (xs : List D) (env : Fram) : Res (D × Fram) := if (own.all fun v => !isOwn env v) && decide (xs.length ≤ LINE) then
  (compLoop (cTurn Ph elt tg cs own) xs [] (wipeF env own)).bind (kComp2 env own) else .bad
theorem cRun_eq {elt : Exp} {tg : Tg} {cs : Exs} {own : List Nat} {xs : List D} (h : (own.all fun v => !isOwn env v) = true) (hl : xs.length ≤ LINE) : cRun Ph elt tg cs own xs env = (compLoop (cTurn Ph elt tg cs own) xs [] (wipeF env own)).bind (kComp2 env own) := by
  unfold cRun
  rw [h, decide_eq_true hl]
  rfl
/-- a comprehension that draws nothing: a map, a filter -/
theorem cRun_map {elt : Exp} {tg : Tg} {cs : Exs} {own : List Nat} {xs : List D} (g : D → Option D) (h : (own.all fun v => !isOwn env v) = true) (hl : xs.length ≤ LINE)
    (ht : ∀ x ∈ xs, cTurn Ph elt tg cs own x (wipeF env own) = .ok (g x, wipeF env own)) (hr : restore (wipeF env own) env own = env) : cRun Ph elt tg cs own xs env = .ok (.list (xs.filterMap g), env) := by
  rw [cRun_eq h hl]
  have : ∀ {ys acc : List D}, (∀ x ∈ ys, cTurn Ph elt tg cs own x (wipeF env own) = .ok (g x, wipeF env own)) → compLoop (cTurn Ph elt tg cs own) ys acc (wipeF env own) = .ok (acc ++ ys.filterMap g, wipeF env own) := by
    intro ys
    induction ys with
    | nil =>
      intro acc _
      simp
      rfl
    | cons y ys ih =>
      intro acc hy
      have h1 := hy y (List.mem_cons_self ..)
      show (cTurn Ph elt tg cs own y (wipeF env own)).bind _ = _
      rw [h1]
      show compLoop _ ys (match g y with
        | some y => acc ++ [y]
        | none => acc) _ = _
      rw [List.filterMap_cons]
      cases g y with
      | none => exact ih fun x hx => hy x (List.mem_cons_of_mem _ hx)
      | some z =>
        show compLoop _ ys (acc ++ [z]) _ = .ok (acc ++ z :: _, _)
        rw [ih fun x hx => hy x (List.mem_cons_of_mem _ hx)]
        simp
  rw [this ht]
  show Res.ok (PyData.list _, restore (wipeF env own) env own) = _
  rw [hr, List.nil_append]
theorem cRun_map1 {elt : Exp} {tg : Tg} {cs : Exs} {own : List Nat} {xs : List D} (g : D → D) (h : (own.all fun v => !isOwn env v) = true) (hl : xs.length ≤ LINE)
    (ht : ∀ x ∈ xs, cTurn Ph elt tg cs own x (wipeF env own) = .ok (some (g x), wipeF env own)) (hr : restore (wipeF env own) env own = env) : cRun Ph elt tg cs own xs env = .ok (.list (xs.map g), env) := by
  rw [cRun_map (fun x => some (g x)) h hl ht hr]
  simp
def kComp (Ph : CallF) (elt : Exp) (tg : Tg) (cs : Exs) (own : List Nat) (p : List D × Fram) : Res (D × Fram) := cRun Ph elt tg cs own p.1 p.2
@[simp] theorem kComp_eq {elt : Exp} {tg : Tg} {cs : Exs} {own : List Nat} {xs : List D} : kComp Ph elt tg cs own (xs, e) = cRun Ph elt tg cs own xs e := rfl
@[simp] theorem ev_comp {elt : Exp} {tg : Tg} {it : Itx} {cs : Exs} {own : List (Str × Nat)} : ev Ph (.comp elt tg it cs own) env = (evIt Ph it env).bind (kComp Ph elt tg cs (own.map (·.2))) := by
  refine bcongr fun p => ?_
  show (if ((own.map (·.2)).all fun v => !isOwn p.2 v) && decide (p.1.length ≤ LINE) then _ else _) = cRun Ph elt tg cs (own.map (·.2)) p.1 p.2
  unfold cRun
  split
  · have : (fun x e => noExc ((opt (store tg x e)).bind fun e1 => (evTests Ph cs e1).bind fun q => match q.1 with
      | true => (ev Ph elt q.2).bind fun r => .ok (some r.1, wipeF r.2 (own.map (·.2)))
      | false => .ok (none, wipeF q.2 (own.map (·.2))))) = cTurn Ph elt tg cs (own.map (·.2)) := by
      funext x e
      unfold cTurn
      congr 1
      cases store tg x e with
      | none => rfl
      | some e1 =>
        show (evTests Ph cs e1).bind _ = (evTests Ph cs e1).bind _
        refine bcongr fun q => ?_
        rcases q with ⟨b, e⟩
        cases b <;> rfl
    show (compLoop _ p.1 [] _).bind _ = (compLoop _ p.1 [] _).bind _
    exact congrArg (fun t => Res.bind (compLoop t p.1 [] (wipeF p.2 (own.map (·.2)))) (kComp2 p.2 (own.map (·.2)))) this
  · rfl
/-! arguments -/
def kCons (d : D) (p : List D × Fram) : Res (List D × Fram) := .ok (d :: p.1, p.2)
@[simp] theorem kCons_eq {x : D} {xs : List D} : kCons x (xs, e) = .ok (x :: xs, e) := rfl
def kEvs (Ph : CallF) (es : Exs) (p : D × Fram) : Res (List D × Fram) := (evs Ph es p.2).bind (kCons p.1)
@[simp] theorem kEvs_eq {es : Exs} {x : D} : kEvs Ph es (x, e) = (evs Ph es e).bind (kCons x) := rfl
@[simp] theorem evs_nil : evs Ph .nil env = .ok ([], env) := rfl
@[simp] theorem evs_cons {a : Exp} {es : Exs} : evs Ph (.cons a es) env = (ev Ph a env).bind (kEvs Ph es) := rfl
def kConp (d : Opd) (p : List Opd × Fram) : Res (List Opd × Fram) := .ok (d :: p.1, p.2)
@[simp] theorem kConp_eq {x : Opd} {xs : List Opd} : kConp x (xs, e) = .ok (x :: xs, e) := rfl
def kEvp (Ph : CallF) (es : Exs) (p : Opd × Fram) : Res (List Opd × Fram) := (evp Ph es p.2).bind (kConp p.1)
@[simp] theorem kEvp_eq {es : Exs} {x : Opd} : kEvp Ph es (x, e) = (evp Ph es e).bind (kConp x) := rfl
@[simp] theorem evp_nil : evp Ph .nil env = .ok ([], env) := rfl
@[simp] theorem evp_cons {a : Exp} {es : Exs} : evp Ph (.cons a es) env = (opd a env (ev Ph a env)).bind (kEvp Ph es) := rfl
@[simp] theorem evo_non : evo Ph .non env = .ok (none, env) := rfl
def kInt (p : D × Fram) : Res (Option Int × Fram) := match p.1 with
  | .int i => .ok (some i, p.2)
  | _ => .bad
@[simp] theorem kInt_eq {i : Int} : kInt (.int i, e) = .ok (some i, e) := rfl
@[simp] theorem evo_som {a : Exp} : evo Ph (.som a) env = (ev Ph a env).bind kInt := rfl
/-! and, or -/
def kAnd (Ph : CallF) (es : Exs) (p : D × Fram) : Res (D × Fram) := match p.1 with
  | .bool false => .ok (.bool false, p.2)
  | .bool true => evAnd Ph es p.2
  | _ => .bad
@[simp] theorem kAnd_eq {es : Exs} {b : Bool} : kAnd Ph es (.bool b, e) = if b = true then evAnd Ph es e else .ok (.bool false, e) := by cases b <;> rfl
def kBool (p : D × Fram) : Res (D × Fram) := match p.1 with
  | .bool b => .ok (.bool b, p.2)
  | _ => .bad
@[simp] theorem kBool_eq {b : Bool} : kBool (.bool b, e) = .ok (.bool b, e) := rfl
@[simp] theorem evAnd_one {a : Exp} : evAnd Ph (.cons a .nil) env = (ev Ph a env).bind kBool := by
  refine bcongr fun p => ?_
  rcases p with ⟨d, e⟩
  cases d with
  | bool b => cases b <;> rfl
  | _ => rfl
@[simp] theorem evAnd_more {a e2 : Exp} {es : Exs} : evAnd Ph (.cons a (.cons e2 es)) env = (ev Ph a env).bind (kAnd Ph (.cons e2 es)) := by
  refine bcongr fun p => ?_
  rcases p with ⟨d, e⟩
  cases d with
  | bool b => cases b <;> rfl
  | _ => rfl
def kOr (Ph : CallF) (es : Exs) (p : D × Fram) : Res (D × Fram) := match p.1 with
  | .bool true => .ok (.bool true, p.2)
  | .bool false => evOr Ph es p.2
  | _ => .bad
@[simp] theorem kOr_eq {es : Exs} {b : Bool} : kOr Ph es (.bool b, e) = if b = true then .ok (.bool true, e) else evOr Ph es e := by cases b <;> rfl
@[simp] theorem evOr_one {a : Exp} : evOr Ph (.cons a .nil) env = (ev Ph a env).bind kBool := by
  refine bcongr fun p => ?_
  rcases p with ⟨d, e⟩
  cases d with
  | bool b => cases b <;> rfl
  | _ => rfl
@[simp] theorem evOr_more {a e2 : Exp} {es : Exs} : evOr Ph (.cons a (.cons e2 es)) env = (ev Ph a env).bind (kOr Ph (.cons e2 es)) := by
  refine bcongr fun p => ?_
  rcases p with ⟨d, e⟩
  cases d with
  | bool b => cases b <;> rfl
  | _ => rfl
@[simp] theorem evTests_nil : evTests Ph .nil env = .ok (true, env) := rfl
def kTest (p : D × Fram) : Res (Bool × Fram) := match p.1 with
  | .bool b => .ok (b, p.2)
  | _ => .bad
@[simp] theorem kTest_eq {b : Bool} : kTest (.bool b, e) = .ok (b, e) := rfl
@[simp] theorem evTests_one {a : Exp} : evTests Ph (.cons a .nil) env = (ev Ph a env).bind kTest := by
  refine bcongr fun p => ?_
  rcases p with ⟨d, e⟩
  cases d with
  | bool b => cases b <;> rfl
  | _ => rfl
/-! what is walked -/
def optL (o : Option (List D)) (e : Fram) : Res (List D × Fram) := match o with
  | some d => .ok (d, e)
  | none => .bad
@[simp] theorem optL_some {d : List D} : optL (some d) e = .ok (d, e) := rfl
theorem optL_eq {o : Option (List D)} : ((opt o).bind fun z => .ok (z, e)) = optL o e := by cases o <;> rfl
def kW (f : D → Option (List D)) (p : D × Fram) : Res (List D × Fram) := optL (f p.1) p.2
@[simp] theorem kW_eq {f : D → Option (List D)} {x : D} : kW f (x, e) = optL (f x) e := rfl
@[simp] theorem evIt_seq {a : Exp} : evIt Ph (.seq a) env = (ev Ph a env).bind (kW walk?) := bcongr fun p => optL_eq
/-- a range's numbers -/
def rng1 : D → Option (List D)
  | .int j => if -(2 ^ 62) ≤ j ∧ j ≤ LINE then some (rangeD 0 j) else none
  | _ => none
theorem rng1_int {j : Int} (h1 : -(2 ^ 62) ≤ j) (h2 : j ≤ LINE) : rng1 (.int j) = some (rangeD 0 j) := if_pos ⟨h1, h2⟩
@[simp] theorem evIt_range1 {a : Exp} : evIt Ph (.range1 a) env = (ev Ph a env).bind (kW rng1) := by
  refine bcongr fun p => ?_
  rcases p with ⟨d, e⟩
  cases d with
  | int j =>
    show (if -(2 ^ 62) ≤ j ∧ j ≤ LINE then Res.ok (rangeD 0 j, e) else .bad) = optL (if -(2 ^ 62) ≤ j ∧ j ≤ LINE then some (rangeD 0 j) else none) e
    split <;> rfl
  | _ => rfl
def rng2 : D → D → Option (List D)
  | .int i, .int j => if (-(2 ^ 62) ≤ i ∧ i < 2 ^ 62 ∧ -(2 ^ 62) ≤ j ∧ j < 2 ^ 62) ∧ j - i ≤ LINE then some (rangeD i j) else none
  | _, _ => none
theorem rng2_int {i j : Int} (h : (-(2 ^ 62) ≤ i ∧ i < 2 ^ 62 ∧ -(2 ^ 62) ≤ j ∧ j < 2 ^ 62) ∧ j - i ≤ LINE) : rng2 (.int i) (.int j) = some (rangeD i j) := if_pos h
def kR2 (f : D → D → Option (List D)) (x : D) (p : D × Fram) : Res (List D × Fram) := optL (f x p.1) p.2
@[simp] theorem kR2_eq {f : D → D → Option (List D)} {x y : D} : kR2 f x (y, e) = optL (f x y) e := rfl
def kR1 (Ph : CallF) (f : D → D → Option (List D)) (b : Exp) (p : D × Fram) : Res (List D × Fram) := (ev Ph b p.2).bind (kR2 f p.1)
@[simp] theorem kR1_eq {f : D → D → Option (List D)} {b : Exp} {x : D} : kR1 Ph f b (x, e) = (ev Ph b e).bind (kR2 f x) := rfl
@[simp] theorem evIt_range2 {a b : Exp} : evIt Ph (.range2 a b) env = (ev Ph a env).bind (kR1 Ph rng2 b) := by
  refine bcongr fun p => bcongr fun q => ?_
  rcases p with ⟨d, e⟩
  rcases q with ⟨d', e'⟩
  cases d with
  | int i => cases d' with
    | int j =>
      show (if (-(2 ^ 62) ≤ i ∧ i < 2 ^ 62 ∧ -(2 ^ 62) ≤ j ∧ j < 2 ^ 62) ∧ j - i ≤ LINE then Res.ok (rangeD i j, e') else .bad) = optL (if (-(2 ^ 62) ≤ i ∧ i < 2 ^ 62 ∧ -(2 ^ 62) ≤ j ∧ j < 2 ^ 62) ∧ j - i ≤ LINE then some (rangeD i j) else none) e'
      split <;> rfl
    | _ => rfl
  | _ => rfl
def zipF (x y : D) : Option (List D) := match items? x, items? y with
  | some xs, some ys => some (zipD xs ys)
  | _, _ => none
@[simp] theorem zipF_eq {x y : D} : zipF x y = (match items? x, items? y with
  | some xs, some ys => some (zipD xs ys)
  | _, _ => none) := rfl
@[simp] theorem evIt_zip {a b : Exp} : evIt Ph (.zip a b) env = (ev Ph a env).bind (kR1 Ph zipF b) := by
  refine bcongr fun p => bcongr fun q => ?_
  show ((opt (items? p.1)).bind fun xs => (opt (items? q.1)).bind fun ys => .ok (zipD xs ys, q.2)) = optL (zipF p.1 q.1) q.2
  unfold zipF
  cases items? p.1 with
  | none => rfl
  | some xs => cases items? q.1 <;> rfl
def enumF (x : D) : Option (List D) := (items? x).map (enumD 0)
@[simp] theorem enumF_eq {x : D} : enumF x = (items? x).map (enumD 0) := rfl
@[simp] theorem evIt_enum {a : Exp} : evIt Ph (.enum a) env = (ev Ph a env).bind (kW enumF) := by
  refine bcongr fun p => ?_
  show ((opt (items? p.1)).bind fun xs => .ok (enumD 0 xs, p.2)) = optL ((items? p.1).map (enumD 0)) p.2
  cases items? p.1 <;> rfl
/-! operands -/
/-- an operand that is no variable -/
def kOpv (p : D × Fram) : Res (Opd × Fram) := .ok (.val p.1, p.2)
@[simp] theorem kOpv_eq {x : D} : kOpv (x, e) = .ok (.val x, e) := rfl
@[simp] theorem opd_var {i : Nat} {r : Res (D × Fram)} : opd (.var i) env r = if isOwn env i = true then .ok (.slot i, env) else r.bind kOpv := rfl
@[simp] theorem opd_int {x0 : Int} {r : Res (D × Fram)} : opd (.int x0) env r = r.bind kOpv := rfl
@[simp] theorem opd_str {x0 : Str} {r : Res (D × Fram)} : opd (.str x0) env r = r.bind kOpv := rfl
@[simp] theorem opd_bl {x0 : Bool} {r : Res (D × Fram)} : opd (.bl x0) env r = r.bind kOpv := rfl
@[simp] theorem opd_non  {r : Res (D × Fram)} : opd (.non) env r = r.bind kOpv := rfl
@[simp] theorem opd_glob {x0 : Str} {x1 : D} {r : Res (D × Fram)} : opd (.glob x0 x1) env r = r.bind kOpv := rfl
@[simp] theorem opd_tup {x0 : Exs} {r : Res (D × Fram)} : opd (.tup x0) env r = r.bind kOpv := rfl
@[simp] theorem opd_lst {x0 : Exs} {r : Res (D × Fram)} : opd (.lst x0) env r = r.bind kOpv := rfl
@[simp] theorem opd_dict0  {r : Res (D × Fram)} : opd (.dict0) env r = r.bind kOpv := rfl
@[simp] theorem opd_bin {x0 : Bop} {x1 : Exp} {x2 : Exp} {r : Res (D × Fram)} : opd (.bin x0 x1 x2) env r = r.bind kOpv := rfl
@[simp] theorem opd_neg {x0 : Exp} {r : Res (D × Fram)} : opd (.neg x0) env r = r.bind kOpv := rfl
@[simp] theorem opd_nott {x0 : Exp} {r : Res (D × Fram)} : opd (.nott x0) env r = r.bind kOpv := rfl
@[simp] theorem opd_conj {x0 : Exs} {r : Res (D × Fram)} : opd (.conj x0) env r = r.bind kOpv := rfl
@[simp] theorem opd_disj {x0 : Exs} {r : Res (D × Fram)} : opd (.disj x0) env r = r.bind kOpv := rfl
@[simp] theorem opd_cmp {x0 : Cop} {x1 : Exp} {x2 : Exp} {r : Res (D × Fram)} : opd (.cmp x0 x1 x2) env r = r.bind kOpv := rfl
@[simp] theorem opd_cmp2 {x0 : Cop} {x1 : Cop} {x2 : Exp} {x3 : Exp} {x4 : Exp} {r : Res (D × Fram)} : opd (.cmp2 x0 x1 x2 x3 x4) env r = r.bind kOpv := rfl
@[simp] theorem opd_ite {x0 : Exp} {x1 : Exp} {x2 : Exp} {r : Res (D × Fram)} : opd (.ite x0 x1 x2) env r = r.bind kOpv := rfl
@[simp] theorem opd_idx {x0 : Exp} {x1 : Exp} {r : Res (D × Fram)} : opd (.idx x0 x1) env r = r.bind kOpv := rfl
@[simp] theorem opd_slice {x0 : Exp} {x1 : Exo} {x2 : Exo} {r : Res (D × Fram)} : opd (.slice x0 x1 x2) env r = r.bind kOpv := rfl
@[simp] theorem opd_rev {x0 : Exp} {r : Res (D × Fram)} : opd (.rev x0) env r = r.bind kOpv := rfl
@[simp] theorem opd_call {x0 : Str} {x1 : Bool} {x2 : Exs} {r : Res (D × Fram)} : opd (.call x0 x1 x2) env r = r.bind kOpv := rfl
@[simp] theorem opd_callK {x0 : Str} {x1 : Bool} {x2 : Exs} {x3 : Exs} {x4 : List Str} {x5 : List Nat} {r : Res (D × Fram)} : opd (.callK x0 x1 x2 x3 x4 x5) env r = r.bind kOpv := rfl
@[simp] theorem opd_callJ {x0 : Str} {x1 : Str} {x2 : Exs} {r : Res (D × Fram)} : opd (.callJ x0 x1 x2) env r = r.bind kOpv := rfl
@[simp] theorem opd_blt {x0 : Blt} {x1 : Exs} {r : Res (D × Fram)} : opd (.blt x0 x1) env r = r.bind kOpv := rfl
@[simp] theorem opd_isi {x0 : Exp} {x1 : Ty} {r : Res (D × Fram)} : opd (.isi x0 x1) env r = r.bind kOpv := rfl
@[simp] theorem opd_meth {x0 : Met} {x1 : Exp} {x2 : Exs} {r : Res (D × Fram)} : opd (.meth x0 x1 x2) env r = r.bind kOpv := rfl
@[simp] theorem opd_pop {x0 : Nat} {r : Res (D × Fram)} : opd (.pop x0) env r = r.bind kOpv := rfl
@[simp] theorem opd_popAt {x0 : Nat} {x1 : Exp} {r : Res (D × Fram)} : opd (.popAt x0 x1) env r = r.bind kOpv := rfl
@[simp] theorem opd_comp {x0 : Exp} {x1 : Tg} {x2 : Itx} {x3 : Exs} {x4 : List (Str × Nat)} {r : Res (D × Fram)} : opd (.comp x0 x1 x2 x3 x4) env r = r.bind kOpv := rfl
@[simp] theorem deref_val {d : D} : deref env (.val d) = some d := rfl
@[simp] theorem deref_slot {i : Nat} : deref env (.slot i) = look env i := rfl
def consO (o : Option D) (os : Option (List D)) : Option (List D) := match o, os with
  | some d, some ds => some (d :: ds)
  | _, _ => none
@[simp] theorem consO_some {d : D} {ds : List D} : consO (some d) (some ds) = some (d :: ds) := rfl
@[simp] theorem derefs_nil : derefs env [] = some [] := rfl
@[simp] theorem derefs_cons {o : Opd} {os : List Opd} : derefs env (o :: os) = consO (deref env o) (derefs env os) := by
  show (deref env o).bind _ = _
  cases deref env o with
  | none => rfl
  | some d =>
    show (derefs env os).map _ = _
    cases derefs env os <;> rfl
@[simp] theorem anySlot_nil : anySlot [] = false := rfl
@[simp] theorem anySlot_slot {i : Nat} {os : List Opd} : anySlot (.slot i :: os) = true := rfl
@[simp] theorem anySlot_val {d : D} {os : List Opd} : anySlot (.val d :: os) = anySlot os := rfl
/-! statements -/
def kExpr (p : D × Fram) : Res (Flw × Fram) := .ok (.nx, p.2)
@[simp] theorem kExpr_eq {x : D} : kExpr (x, e) = .ok (.nx, e) := rfl
@[simp] theorem evS_expr {a : Exp} : evS Ph wf br (.expr a) env = (ev Ph a env).bind kExpr := rfl
def kSet (br : Bool) (i : Nat) (p : D × Fram) : Res (Flw × Fram) := if i < p.2.length && !(br && i == 0) then .ok (.nx, p.2.set i (.val p.1)) else .bad
@[simp] theorem kSet_eq {i : Nat} {x : D} : kSet br i (x, e) = if (decide (i < e.length) && !(br && i == 0)) = true then .ok (.nx, e.set i (.val x)) else .bad := rfl
@[simp] theorem evS_set {i : Nat} {a : Exp} : evS Ph wf br (.set i a) env = (ev Ph a env).bind (kSet br i) := rfl
def kOwn (br : Bool) (i : Nat) (mk : Bool) (p : D × Fram) : Res (Flw × Fram) := if i < p.2.length && !(br && i == 0) && mk && isSeq p.1 then .ok (.nx, p.2.set i (.own p.1)) else .bad
@[simp] theorem kOwn_eq {i : Nat} {mk : Bool} {x : D} : kOwn br i mk (x, e) = if (decide (i < e.length) && !(br && i == 0) && mk && isSeq x) = true then .ok (.nx, e.set i (.own x)) else .bad := rfl
@[simp] theorem evS_own {i : Nat} {a : Exp} : evS Ph wf br (.own i a) env = (ev Ph a env).bind (kOwn br i (makes a)) := rfl
def kUnp (ts : List Tg) (p : D × Fram) : Res (Flw × Fram) := match p.1 with
  | .tuple ds => (match stores ts ds p.2 with
    | some e => .ok (.nx, e)
    | none => .bad)
  | _ => .bad
def optS (o : Option Fram) : Res (Flw × Fram) := match o with
  | some e => .ok (.nx, e)
  | none => .bad
@[simp] theorem optS_some : optS (some e) = .ok (.nx, e) := rfl
theorem optS_eq {o : Option Fram} : ((opt o).bind fun e1 => .ok (.nx, e1)) = optS o := by cases o <;> rfl
@[simp] theorem kUnp_eq {ts : List Tg} {ds : List D} : kUnp ts (.tuple ds, e) = optS (stores ts ds e) := rfl
@[simp] theorem evS_unp {ts : List Tg} {a : Exp} : evS Ph wf br (.unp ts a) env = (ev Ph a env).bind (kUnp ts) := by
  refine bcongr fun p => ?_
  rcases p with ⟨d, e⟩
  cases d with
  | tuple ds => exact optS_eq
  | _ => rfl
def kPar (br : Bool) (is : List (Nat × Bool)) (es : Exs) (p : List D × Fram) : Res (Flw × Fram) := optS (putAll br is es p.1 p.2)
@[simp] theorem kPar_eq {is : List (Nat × Bool)} {es : Exs} {ds : List D} : kPar br is es (ds, e) = optS (putAll br is es ds e) := rfl
@[simp] theorem evS_par {is : List (Nat × Bool)} {es : Exs} : evS Ph wf br (.par is es) env = (evs Ph es env).bind (kPar br is es) := bcongr fun _ => optS_eq
/-- an item of a frame's list, dict is stored -/
def setF (i : Nat) (env : Fram) (y x : D) : Res (Flw × Fram) := match env[i]?, y with
  | some (.own (.list xs)), .int k => (match place xs.length k with
    | some j => .ok (.nx, env.set i (.own (.list (xs.set j x))))
    | none => .bad)
  | some (.own (.dict kvs)), y => (match key? y with
    | some k => if kvs.length < LINE then .ok (.nx, env.set i (.own (.dict (dPut kvs k y x)))) else .bad
    | none => .bad)
  | _, _ => .bad
theorem setF_list {i : Nat} {xs : List D} {k : Int} {j : Nat} {x : D} (h : env[i]? = some (.own (.list xs))) (hp : place xs.length k = some j) : setF i env (.int k) x = .ok (.nx, env.set i (.own (.list (xs.set j x)))) := by
  unfold setF
  rw [h]
  show (match place xs.length k with
    | some j => Res.ok (Flw.nx, env.set i (.own (.list (xs.set j x))))
    | none => .bad) = _
  rw [hp]
theorem setF_dict {i : Nat} {kvs : List (D × D)} {y x : D} {k : NestedKey} (h : env[i]? = some (.own (.dict kvs))) (hk : key? y = some k) (hl : kvs.length < LINE) : setF i env y x = .ok (.nx, env.set i (.own (.dict (dPut kvs k y x)))) := by
  unfold setF
  rw [h]
  show (match key? y with
    | some k => if kvs.length < LINE then Res.ok (Flw.nx, env.set i (.own (.dict (dPut kvs k y x)))) else .bad
    | none => .bad) = _
  rw [hk]
  exact if_pos hl
def kIx2 (i : Nat) (x : D) (p : D × Fram) : Res (Flw × Fram) := setF i p.2 p.1 x
@[simp] theorem kIx2_eq {i : Nat} {x y : D} : kIx2 i x (y, e) = setF i e y x := rfl
def kIx1 (Ph : CallF) (i : Nat) (ix : Exp) (p : D × Fram) : Res (Flw × Fram) := if !isOwn p.2 i then .bad else (ev Ph ix p.2).bind (kIx2 i p.1)
@[simp] theorem kIx1_eq {i : Nat} {ix : Exp} {x : D} : kIx1 Ph i ix (x, e) = if (!isOwn e i) = true then .bad else (ev Ph ix e).bind (kIx2 i x) := rfl
@[simp] theorem evS_setIx {i : Nat} {ix a : Exp} : evS Ph wf br (.setIx i ix a) env = (ev Ph a env).bind (kIx1 Ph i ix) := rfl
/-- divmod into an item and a name -/
def jarF (i j : Nat) (env : Fram) (k x y : D) : Res (Flw × Fram) := match env[i]?, k with
  | some (.own (.list xs)), .int k => (match place xs.length k with
    | some m => (opt (store (.name j) y (env.set i (.own (.list (xs.set m x)))))).bind fun e1 => .ok (.nx, e1)
    | none => .bad)
  | _, _ => .bad
theorem jarF_list {i j : Nat} {xs : List D} {k : Int} {m : Nat} {x y : D} (h : env[i]? = some (.own (.list xs))) (hp : place xs.length k = some m) : jarF i j env (.int k) x y = optS (store (.name j) y (env.set i (.own (.list (xs.set m x))))) := by
  unfold jarF
  rw [h]
  show (match place xs.length k with
    | some m => (opt (store (.name j) y (env.set i (.own (.list (xs.set m x)))))).bind fun e1 => Res.ok (Flw.nx, e1)
    | none => .bad) = _
  rw [hp]
  exact optS_eq
def kJar2 (i j : Nat) (x y : D) (p : D × Fram) : Res (Flw × Fram) := jarF i j p.2 p.1 x y
@[simp] theorem kJar2_eq {i j : Nat} {x y k : D} : kJar2 i j x y (k, e) = jarF i j e k x y := rfl
def kJar1 (Ph : CallF) (i : Nat) (ix : Exp) (j : Nat) (p : D × Fram) : Res (Flw × Fram) := match p.1 with
  | .tuple [x, y] => if !isOwn p.2 i then .bad else (ev Ph ix p.2).bind (kJar2 i j x y)
  | _ => .bad
@[simp] theorem kJar1_eq {i j : Nat} {ix : Exp} {x y : D} : kJar1 Ph i ix j (.tuple [x, y], e) = if (!isOwn e i) = true then .bad else (ev Ph ix e).bind (kJar2 i j x y) := rfl
@[simp] theorem evS_jar {i j : Nat} {ix a : Exp} : evS Ph wf br (.jar i ix j a) env = (ev Ph a env).bind (kJar1 Ph i ix j) := by
  refine bcongr fun p => ?_
  rcases p with ⟨d, e⟩
  cases d with
  | tuple ds =>
    match ds with
    | [] => rfl
    | [_] => rfl
    | [x, y] =>
      show (if (!isOwn e i) = true then Res.bad else _) = (if (!isOwn e i) = true then Res.bad else _)
      by_cases h : (!isOwn e i) = true
      · rw [if_pos h, if_pos h]
      · rw [if_neg h, if_neg h]
        rfl
    | _ :: _ :: _ :: _ => rfl
  | _ => rfl
/-- a list grows -/
def kApp (i : Nat) (p : D × Fram) : Res (Flw × Fram) := match p.2[i]? with
  | some (.own (.list xs)) => if xs.length < LINE then .ok (.nx, p.2.set i (.own (.list (xs ++ [p.1])))) else .bad
  | _ => .bad
theorem kApp_list {i : Nat} {xs : List D} {x : D} (h : e[i]? = some (.own (.list xs))) (hl : xs.length < LINE) : kApp i (x, e) = .ok (.nx, e.set i (.own (.list (xs ++ [x])))) := by
  unfold kApp
  show (match e[i]? with
    | some (.own (.list xs)) => if xs.length < LINE then Res.ok (Flw.nx, e.set i (.own (.list (xs ++ [x])))) else .bad
    | _ => .bad) = _
  rw [h]
  exact if_pos hl
@[simp] theorem evS_append {i : Nat} {a : Exp} : evS Ph wf br (.append i a) env = if (!isOwnL env i) = true then .bad else (ev Ph a env).bind (kApp i) := rfl
def kExt (i : Nat) (p : D × Fram) : Res (Flw × Fram) := match p.2[i]?, p.1 with
  | some (.own (.list xs)), .list ys => if xs.length + ys.length ≤ LINE then .ok (.nx, p.2.set i (.own (.list (xs ++ ys)))) else .bad
  | _, _ => .bad
theorem kExt_list {i : Nat} {xs ys : List D} (h : e[i]? = some (.own (.list xs))) (hl : xs.length + ys.length ≤ LINE) : kExt i (.list ys, e) = .ok (.nx, e.set i (.own (.list (xs ++ ys)))) := by
  unfold kExt
  show (match e[i]?, PyData.list ys with
    | some (.own (.list xs)), .list ys => if xs.length + ys.length ≤ LINE then Res.ok (Flw.nx, e.set i (.own (.list (xs ++ ys)))) else .bad
    | _, _ => .bad) = _
  rw [h]
  exact if_pos hl
@[simp] theorem evS_extend {i : Nat} {a : Exp} : evS Ph wf br (.extend i a) env = if (!isOwnL env i) = true then .bad else (ev Ph a env).bind (kExt i) := rfl
@[simp] theorem evS_retN : evS Ph wf br .retN env = .ok (.ret .none false, env) := rfl
def kIf (Ph : CallF) (wf : Nat) (br : Bool) (a b : Sts) (p : D × Fram) : Res (Flw × Fram) := match p.1 with
  | .bool true => evSs Ph wf br a p.2
  | .bool false => evSs Ph wf br b p.2
  | _ => .bad
@[simp] theorem kIf_eq {a b : Sts} {c : Bool} : kIf Ph wf br a b (.bool c, e) = if c = true then evSs Ph wf br a e else evSs Ph wf br b e := by cases c <;> rfl
@[simp] theorem evS_iff {c : Exp} {a b : Sts} : evS Ph wf br (.iff c a b) env = (ev Ph c env).bind (kIf Ph wf br a b) := by
  refine bcongr fun p => ?_
  rcases p with ⟨d, e⟩
  cases d with
  | bool b => cases b <;> rfl
  | _ => rfl
/-- a loop's test, its body -/
def wTest (Ph : CallF) (c : Exp) (e : Fram) : Res (D × Fram) := ev Ph c e
@[simp] theorem wTest_eq {c : Exp} : wTest Ph c e = ev Ph c e := rfl
def wBody (Ph : CallF) (wf : Nat) (br : Bool) (b : Sts) (e : Fram) : Res (Flw × Fram) := evSs Ph wf br b e
@[simp] theorem wBody_eq {b : Sts} : wBody Ph wf br b e = evSs Ph wf br b e := rfl
@[simp] theorem evS_whil {c : Exp} {b : Sts} : evS Ph wf br (.whil c b) env = whileLoop (wTest Ph c) (wBody Ph wf br b) wf env := rfl
/-- one turn of a loop -/
def fTurn (Ph : CallF) (wf : Nat) (br : Bool) (tg : Tg) (b : Sts) (x : D) (e : Fram) : Res (Flw × Fram) := match store tg x e with
  | some e => evSs Ph wf br b e
  | none => .bad
theorem fTurn_eq {tg : Tg} {b : Sts} {x : D} : fTurn Ph wf br tg b x e = (match store tg x e with
  | some e => evSs Ph wf br b e
  | none => .bad) := rfl
def kFor (Ph : CallF) (wf : Nat) (br : Bool) (tg : Tg) (b : Sts) (p : List D × Fram) : Res (Flw × Fram) := forLoop (fTurn Ph wf br tg b) p.1 p.2
@[simp] theorem kFor_eq {tg : Tg} {b : Sts} {xs : List D} : kFor Ph wf br tg b (xs, e) = forLoop (fTurn Ph wf br tg b) xs e := rfl
@[simp] theorem evS_forr {tg : Tg} {it : Itx} {b : Sts} : evS Ph wf br (.forr tg it b) env = (evIt Ph it env).bind (kFor Ph wf br tg b) := by
  refine bcongr fun p => ?_
  show forLoop _ p.1 p.2 = forLoop _ p.1 p.2
  congr 1
  funext x e
  unfold fTurn
  cases store tg x e <;> rfl
@[simp] theorem evS_brk : evS Ph wf br .brk env = .ok (.brk, env) := rfl
@[simp] theorem evS_cont : evS Ph wf br .cont env = .ok (.cont, env) := rfl
@[simp] theorem evS_pass : evS Ph wf br .pass env = .ok (.nx, env) := rfl
@[simp] theorem evS_never : evS Ph wf br .never env = .bad := rfl
/-- a return's value -/
def kRet (mk : Bool) (p : D × Fram) : Res (Flw × Fram) := .ok (.ret p.1 (mk && isSeq p.1), p.2)
@[simp] theorem kRet_eq {mk : Bool} {x : D} : kRet mk (x, e) = .ok (.ret x (mk && isSeq x), e) := rfl
def kRetv (p : D × Fram) : Res (Flw × Fram) := .ok (.ret p.1 false, p.2)
@[simp] theorem kRetv_eq {x : D} : kRetv (x, e) = .ok (.ret x false, e) := rfl
def optT (o : Option D) (e : Fram) : Res (Flw × Fram) := match o with
  | some d => .ok (.ret d true, e)
  | none => .bad
@[simp] theorem optT_some {x : D} : optT (some x) e = .ok (.ret x true, e) := rfl
@[simp] theorem evS_retv {i : Nat} : evS Ph wf br (.ret (.var i)) env = if (isOwn env i && !(i == 0)) = true then optT (look env i) env else (readVar i env).bind kRetv := by
  show (if isOwn env i && !(i == 0) then (opt (look env i)).bind _ else _) = _
  split
  · cases look env i <;> rfl
  · rfl
@[simp] theorem ret_int {x0 : Int} : evS Ph wf br (.ret (.int x0)) env = (ev Ph (.int x0) env).bind (kRet (makes (.int x0))) := rfl
@[simp] theorem makes_int {x0 : Int} : makes (.int x0) = false := rfl
@[simp] theorem ret_str {x0 : Str} : evS Ph wf br (.ret (.str x0)) env = (ev Ph (.str x0) env).bind (kRet (makes (.str x0))) := rfl
@[simp] theorem makes_str {x0 : Str} : makes (.str x0) = false := rfl
@[simp] theorem ret_bl {x0 : Bool} : evS Ph wf br (.ret (.bl x0)) env = (ev Ph (.bl x0) env).bind (kRet (makes (.bl x0))) := rfl
@[simp] theorem makes_bl {x0 : Bool} : makes (.bl x0) = false := rfl
@[simp] theorem ret_non  : evS Ph wf br (.ret .non) env = (ev Ph .non env).bind (kRet (makes .non)) := rfl
@[simp] theorem makes_non  : makes .non = false := rfl
@[simp] theorem ret_glob {x0 : Str} {x1 : D} : evS Ph wf br (.ret (.glob x0 x1)) env = (ev Ph (.glob x0 x1) env).bind (kRet (makes (.glob x0 x1))) := rfl
@[simp] theorem makes_glob {x0 : Str} {x1 : D} : makes (.glob x0 x1) = false := rfl
@[simp] theorem ret_tup {x0 : Exs} : evS Ph wf br (.ret (.tup x0)) env = (ev Ph (.tup x0) env).bind (kRet (makes (.tup x0))) := rfl
@[simp] theorem makes_tup {x0 : Exs} : makes (.tup x0) = false := rfl
@[simp] theorem ret_lst {x0 : Exs} : evS Ph wf br (.ret (.lst x0)) env = (ev Ph (.lst x0) env).bind (kRet (makes (.lst x0))) := rfl
@[simp] theorem makes_lst {x0 : Exs} : makes (.lst x0) = true := rfl
@[simp] theorem ret_dict0  : evS Ph wf br (.ret .dict0) env = (ev Ph .dict0 env).bind (kRet (makes .dict0)) := rfl
@[simp] theorem makes_dict0  : makes .dict0 = true := rfl
@[simp] theorem ret_bin {x0 : Bop} {x1 : Exp} {x2 : Exp} : evS Ph wf br (.ret (.bin x0 x1 x2)) env = (ev Ph (.bin x0 x1 x2) env).bind (kRet (makes (.bin x0 x1 x2))) := rfl
@[simp] theorem ret_neg {x0 : Exp} : evS Ph wf br (.ret (.neg x0)) env = (ev Ph (.neg x0) env).bind (kRet (makes (.neg x0))) := rfl
@[simp] theorem makes_neg {x0 : Exp} : makes (.neg x0) = false := rfl
@[simp] theorem ret_nott {x0 : Exp} : evS Ph wf br (.ret (.nott x0)) env = (ev Ph (.nott x0) env).bind (kRet (makes (.nott x0))) := rfl
@[simp] theorem makes_nott {x0 : Exp} : makes (.nott x0) = false := rfl
@[simp] theorem ret_conj {x0 : Exs} : evS Ph wf br (.ret (.conj x0)) env = (ev Ph (.conj x0) env).bind (kRet (makes (.conj x0))) := rfl
@[simp] theorem makes_conj {x0 : Exs} : makes (.conj x0) = false := rfl
@[simp] theorem ret_disj {x0 : Exs} : evS Ph wf br (.ret (.disj x0)) env = (ev Ph (.disj x0) env).bind (kRet (makes (.disj x0))) := rfl
@[simp] theorem makes_disj {x0 : Exs} : makes (.disj x0) = false := rfl
@[simp] theorem ret_cmp {x0 : Cop} {x1 : Exp} {x2 : Exp} : evS Ph wf br (.ret (.cmp x0 x1 x2)) env = (ev Ph (.cmp x0 x1 x2) env).bind (kRet (makes (.cmp x0 x1 x2))) := rfl
@[simp] theorem makes_cmp {x0 : Cop} {x1 : Exp} {x2 : Exp} : makes (.cmp x0 x1 x2) = false := rfl
@[simp] theorem ret_cmp2 {x0 : Cop} {x1 : Cop} {x2 : Exp} {x3 : Exp} {x4 : Exp} : evS Ph wf br (.ret (.cmp2 x0 x1 x2 x3 x4)) env = (ev Ph (.cmp2 x0 x1 x2 x3 x4) env).bind (kRet (makes (.cmp2 x0 x1 x2 x3 x4))) := rfl
@[simp] theorem makes_cmp2 {x0 : Cop} {x1 : Cop} {x2 : Exp} {x3 : Exp} {x4 : Exp} : makes (.cmp2 x0 x1 x2 x3 x4) = false := rfl
@[simp] theorem ret_ite {x0 : Exp} {x1 : Exp} {x2 : Exp} : evS Ph wf br (.ret (.ite x0 x1 x2)) env = (ev Ph (.ite x0 x1 x2) env).bind (kRet (makes (.ite x0 x1 x2))) := rfl
@[simp] theorem makes_ite {x0 : Exp} {x1 : Exp} {x2 : Exp} : makes (.ite x0 x1 x2) = false := rfl
@[simp] theorem ret_idx {x0 : Exp} {x1 : Exp} : evS Ph wf br (.ret (.idx x0 x1)) env = (ev Ph (.idx x0 x1) env).bind (kRet (makes (.idx x0 x1))) := rfl
@[simp] theorem makes_idx {x0 : Exp} {x1 : Exp} : makes (.idx x0 x1) = false := rfl
@[simp] theorem ret_slice {x0 : Exp} {x1 : Exo} {x2 : Exo} : evS Ph wf br (.ret (.slice x0 x1 x2)) env = (ev Ph (.slice x0 x1 x2) env).bind (kRet (makes (.slice x0 x1 x2))) := rfl
@[simp] theorem makes_slice {x0 : Exp} {x1 : Exo} {x2 : Exo} : makes (.slice x0 x1 x2) = true := rfl
@[simp] theorem ret_rev {x0 : Exp} : evS Ph wf br (.ret (.rev x0)) env = (ev Ph (.rev x0) env).bind (kRet (makes (.rev x0))) := rfl
@[simp] theorem makes_rev {x0 : Exp} : makes (.rev x0) = true := rfl
@[simp] theorem ret_call {x0 : Str} {x1 : Bool} {x2 : Exs} : evS Ph wf br (.ret (.call x0 x1 x2)) env = (ev Ph (.call x0 x1 x2) env).bind (kRet (makes (.call x0 x1 x2))) := rfl
@[simp] theorem makes_call {x0 : Str} {x1 : Bool} {x2 : Exs} : makes (.call x0 x1 x2) = false := rfl
@[simp] theorem ret_callK {x0 : Str} {x1 : Bool} {x2 : Exs} {x3 : Exs} {x4 : List Str} {x5 : List Nat} : evS Ph wf br (.ret (.callK x0 x1 x2 x3 x4 x5)) env = (ev Ph (.callK x0 x1 x2 x3 x4 x5) env).bind (kRet (makes (.callK x0 x1 x2 x3 x4 x5))) := rfl
@[simp] theorem makes_callK {x0 : Str} {x1 : Bool} {x2 : Exs} {x3 : Exs} {x4 : List Str} {x5 : List Nat} : makes (.callK x0 x1 x2 x3 x4 x5) = false := rfl
@[simp] theorem ret_callJ {x0 : Str} {x1 : Str} {x2 : Exs} : evS Ph wf br (.ret (.callJ x0 x1 x2)) env = (ev Ph (.callJ x0 x1 x2) env).bind (kRet (makes (.callJ x0 x1 x2))) := rfl
@[simp] theorem makes_callJ {x0 : Str} {x1 : Str} {x2 : Exs} : makes (.callJ x0 x1 x2) = false := rfl
@[simp] theorem ret_blt {x0 : Blt} {x1 : Exs} : evS Ph wf br (.ret (.blt x0 x1)) env = (ev Ph (.blt x0 x1) env).bind (kRet (makes (.blt x0 x1))) := rfl
@[simp] theorem ret_isi {x0 : Exp} {x1 : Ty} : evS Ph wf br (.ret (.isi x0 x1)) env = (ev Ph (.isi x0 x1) env).bind (kRet (makes (.isi x0 x1))) := rfl
@[simp] theorem makes_isi {x0 : Exp} {x1 : Ty} : makes (.isi x0 x1) = false := rfl
@[simp] theorem ret_meth {x0 : Met} {x1 : Exp} {x2 : Exs} : evS Ph wf br (.ret (.meth x0 x1 x2)) env = (ev Ph (.meth x0 x1 x2) env).bind (kRet (makes (.meth x0 x1 x2))) := rfl
@[simp] theorem makes_meth {x0 : Met} {x1 : Exp} {x2 : Exs} : makes (.meth x0 x1 x2) = false := rfl
@[simp] theorem ret_pop {x0 : Nat} : evS Ph wf br (.ret (.pop x0)) env = (ev Ph (.pop x0) env).bind (kRet (makes (.pop x0))) := rfl
@[simp] theorem makes_pop {x0 : Nat} : makes (.pop x0) = false := rfl
@[simp] theorem ret_popAt {x0 : Nat} {x1 : Exp} : evS Ph wf br (.ret (.popAt x0 x1)) env = (ev Ph (.popAt x0 x1) env).bind (kRet (makes (.popAt x0 x1))) := rfl
@[simp] theorem makes_popAt {x0 : Nat} {x1 : Exp} : makes (.popAt x0 x1) = false := rfl
@[simp] theorem ret_comp {x0 : Exp} {x1 : Tg} {x2 : Itx} {x3 : Exs} {x4 : List (Str × Nat)} : evS Ph wf br (.ret (.comp x0 x1 x2 x3 x4)) env = (ev Ph (.comp x0 x1 x2 x3 x4) env).bind (kRet (makes (.comp x0 x1 x2 x3 x4))) := rfl
@[simp] theorem makes_comp {x0 : Exp} {x1 : Tg} {x2 : Itx} {x3 : Exs} {x4 : List (Str × Nat)} : makes (.comp x0 x1 x2 x3 x4) = true := rfl
@[simp] theorem makes_add {a b : Exp} : makes (.bin .add a b) = true := rfl
@[simp] theorem makes_mul {a b : Exp} : makes (.bin .mul a b) = true := rfl
@[simp] theorem makes_list {es : Exs} : makes (.blt .list es) = true := rfl
@[simp] theorem makes_sorted {es : Exs} : makes (.blt .sorted es) = true := rfl
@[simp] theorem makes_var {i : Nat} : makes (.var i) = false := rfl
@[simp] theorem evSs_nil : evSs Ph wf br .nil env = .ok (.nx, env) := rfl
/-- what follows a statement -/
def thenS (Ph : CallF) (wf : Nat) (br : Bool) (ss : Sts) : Res (Flw × Fram) → Res (Flw × Fram)
  | .ok (.nx, e) => evSs Ph wf br ss e
  | .ok (.brk, e) => .ok (.brk, e)
  | .ok (.cont, e) => .ok (.cont, e)
  | .ok (.ret d f, e) => .ok (.ret d f, e)
  | .exc x e => .exc x e
  | .bad => .bad
@[simp] theorem thenS_nx {ss : Sts} : thenS Ph wf br ss (.ok (.nx, env)) = evSs Ph wf br ss env := rfl
@[simp] theorem thenS_brk {ss : Sts} : thenS Ph wf br ss (.ok (.brk, env)) = .ok (.brk, env) := rfl
@[simp] theorem thenS_cont {ss : Sts} : thenS Ph wf br ss (.ok (.cont, env)) = .ok (.cont, env) := rfl
@[simp] theorem thenS_ret {ss : Sts} {d : D} {f : Bool} : thenS Ph wf br ss (.ok (.ret d f, env)) = .ok (.ret d f, env) := rfl
@[simp] theorem thenS_exc {ss : Sts} {x : Exc} : thenS Ph wf br ss (.exc x env) = .exc x env := rfl
@[simp] theorem thenS_bad {ss : Sts} : thenS Ph wf br ss .bad = .bad := rfl
@[simp] theorem evSs_cons {s : Stm} {ss : Sts} : evSs Ph wf br (.cons s ss) env = thenS Ph wf br ss (evS Ph wf br s env) := by
  show (evS Ph wf br s env).bind _ = _
  cases evS Ph wf br s env with
  | ok p =>
    rcases p with ⟨f, e⟩
    cases f <;> rfl
  | _ => rfl
/-! loops -/
@[simp] theorem forLoop_nil {turn : D → Fram → Res (Flw × Fram)} : forLoop turn [] env = .ok (.nx, env) := rfl
/-- what follows a turn -/
def forNext (turn : D → Fram → Res (Flw × Fram)) (xs : List D) : Res (Flw × Fram) → Res (Flw × Fram)
  | .ok (.nx, e) => forLoop turn xs e
  | .ok (.cont, e) => forLoop turn xs e
  | .ok (.brk, e) => .ok (.nx, e)
  | .ok (.ret d f, e) => .ok (.ret d f, e)
  | .exc x e => .exc x e
  | .bad => .bad
@[simp] theorem forNext_nx {turn : D → Fram → Res (Flw × Fram)} {xs : List D} : forNext turn xs (.ok (.nx, env)) = forLoop turn xs env := rfl
@[simp] theorem forNext_cont {turn : D → Fram → Res (Flw × Fram)} {xs : List D} : forNext turn xs (.ok (.cont, env)) = forLoop turn xs env := rfl
@[simp] theorem forNext_brk {turn : D → Fram → Res (Flw × Fram)} {xs : List D} : forNext turn xs (.ok (.brk, env)) = .ok (.nx, env) := rfl
@[simp] theorem forNext_ret {turn : D → Fram → Res (Flw × Fram)} {xs : List D} {d : D} {f : Bool} : forNext turn xs (.ok (.ret d f, env)) = .ok (.ret d f, env) := rfl
theorem forLoop_cons {turn : D → Fram → Res (Flw × Fram)} {x : D} {xs : List D} : forLoop turn (x :: xs) env = forNext turn xs (turn x env) := by
  show (turn x env).bind _ = _
  cases turn x env with
  | ok p =>
    rcases p with ⟨f, e⟩
    cases f <;> rfl
  | _ => rfl
theorem compLoop_some {turn : D → Fram → Res (Option D × Fram)} {x y : D} {xs acc : List D} {e : Fram} (h : turn x env = .ok (some y, e)) : compLoop turn (x :: xs) acc env = compLoop turn xs (acc ++ [y]) e := by
  show (turn x env).bind _ = _
  rw [h]
  rfl
theorem compLoop_none {turn : D → Fram → Res (Option D × Fram)} {x : D} {xs acc : List D} {e : Fram} (h : turn x env = .ok (none, e)) : compLoop turn (x :: xs) acc env = compLoop turn xs acc e := by
  show (turn x env).bind _ = _
  rw [h]
  rfl
/-- a comprehension that draws: an invariant of what is left, what is gathered, the frame -/
theorem compLoop_inv {turn : D → Fram → Res (Option D × Fram)} (I : List D → List D → Fram → Prop)
    (step : ∀ x xs acc e, I (x :: xs) acc e → ∃ o e', turn x e = .ok (o, e') ∧ I xs (match o with
      | some y => acc ++ [y]
      | none => acc) e') : ∀ {xs acc : List D} {e : Fram}, I xs acc e → ∃ acc' e', compLoop turn xs acc e = .ok (acc', e') ∧ I [] acc' e'
  | [], acc, e, h => ⟨acc, e, rfl, h⟩
  | x :: xs, acc, e, h => by
    obtain ⟨o, e1, h1, h2⟩ := step x xs acc e h
    obtain ⟨acc', e', h3, h4⟩ := compLoop_inv I step h2
    refine ⟨acc', e', ?_, h4⟩
    cases o with
    | none => rw [compLoop_none h1]; exact h3
    | some y => rw [compLoop_some h1]; exact h3
/-- a loop whose turns go on: an invariant of what is left, the frame -/
theorem forLoop_inv {turn : D → Fram → Res (Flw × Fram)} (I : List D → Fram → Prop)
    (step : ∀ x xs e, I (x :: xs) e → ∃ e', turn x e = .ok (.nx, e') ∧ I xs e') : ∀ {xs : List D} {e : Fram}, I xs e → ∃ e', forLoop turn xs e = .ok (.nx, e') ∧ I [] e'
  | [], e, h => ⟨e, rfl, h⟩
  | x :: xs, e, h => by
    obtain ⟨e1, h1, h2⟩ := step x xs e h
    obtain ⟨e', h3, h4⟩ := forLoop_inv I step h2
    exact ⟨e', by rw [forLoop_cons, h1]; exact h3, h4⟩
theorem whileLoop_done {test : Fram → Res (D × Fram)} {body : Fram → Res (Flw × Fram)} {n : Nat} {e : Fram} (h : test env = .ok (.bool false, e)) : whileLoop test body (n + 1) env = .ok (.nx, e) := by
  show (test env).bind _ = _
  rw [h]
  rfl
theorem whileLoop_turn {test : Fram → Res (D × Fram)} {body : Fram → Res (Flw × Fram)} {n : Nat} {e e' : Fram} (h : test env = .ok (.bool true, e)) (hb : body e = .ok (.nx, e')) : whileLoop test body (n + 1) env = whileLoop test body n e' := by
  show (test env).bind _ = _
  rw [h]
  show (body e).bind _ = _
  rw [hb]
  rfl
/-! defs -/
/-- what a def's end hands out -/
def endF (fn : Def) : Res (Flw × Fram) → Res (D × D)
  | .ok (.ret d f, env) => if fn.fresh && !f then .bad else (opt (out0 fn.br env)).bind fun d0 => .ok (d, d0)
  | .ok (.nx, env) => if fn.fresh then .bad else (opt (out0 fn.br env)).bind fun d0 => .ok (.none, d0)
  | .ok _ => .bad
  | .exc x e => .exc x e
  | .bad => .bad
def outR (d : D) : Option D → Res (D × D)
  | some d0 => .ok (d, d0)
  | none => .bad
@[simp] theorem outR_some {d d0 : D} : outR d (some d0) = .ok (d, d0) := rfl
@[simp] theorem endF_ret {fn : Def} {d : D} {f : Bool} : endF fn (.ok (.ret d f, env)) = if (fn.fresh && !f) = true then .bad else outR d (out0 fn.br env) := by
  show (if fn.fresh && !f then Res.bad else (opt (out0 fn.br env)).bind fun d0 => .ok (d, d0)) = _
  cases out0 fn.br env <;> rfl
@[simp] theorem endF_nx {fn : Def} : endF fn (.ok (.nx, env)) = if fn.fresh = true then .bad else outR .none (out0 fn.br env) := by
  show (if fn.fresh = true then Res.bad else (opt (out0 fn.br env)).bind fun d0 => .ok (PyData.none, d0)) = _
  cases out0 fn.br env <;> rfl
@[simp] theorem endF_exc {fn : Def} {x : Exc} : endF fn (.exc x env) = .exc x env := rfl
theorem callN_eq {tb : List Def} {n : Nat} {f : Str} {fn : Def} {ds : List D} (h : tb.find? (fun g => g.name == f) = some fn) (hl : ds.length = fn.params) :
    callN tb wf (n + 1) f ds = endF fn (evSs (callN tb wf n) wf fn.br fn.body (begin fn ds)) := by
  unfold callN
  rw [h]
  show runFn (callN tb wf n) wf fn ds = _
  unfold runFn
  rw [if_pos hl]
  cases evSs (callN tb wf n) wf fn.br fn.body (begin fn ds) with
  | ok p =>
    rcases p with ⟨fl, e⟩
    cases fl <;> rfl
  | _ => rfl
/-! slots -/
@[simp] theorem readVar_eq {i : Nat} : readVar i env = (match env[i]? with
  | some (.val d) => .ok (d, env)
  | some (.own d) => if i = 0 then .bad else .ok (d, env.set i (.val d))
  | _ => .bad) := rfl
/-- whether a slot holds the frame's own list -/
def sOwn : Option Slot → Bool
  | some (.own _) => true
  | _ => false
@[simp] theorem sOwn_own {d : D} : sOwn (some (.own d)) = true := rfl
@[simp] theorem sOwn_val {d : D} : sOwn (some (.val d)) = false := rfl
@[simp] theorem sOwn_non : sOwn (some .non) = false := rfl
@[simp] theorem isOwn_eq {i : Nat} : isOwn env i = sOwn env[i]? := by
  unfold isOwn sOwn
  rfl
@[simp] theorem isOwnL_eq {i : Nat} : isOwnL env i = (match env[i]? with
  | some (.own (.list _)) => true
  | _ => false) := rfl
@[simp] theorem look_eq {i : Nat} : look env i = (match env[i]? with
  | some (.val d) => some d
  | some (.own d) => some d
  | _ => none) := rfl
@[simp] theorem store_name {i : Nat} {d : D} : store (.name i) d env = if (decide (i < env.length) && !isOwn env i) = true then some (env.set i (.val d)) else none := by
  unfold store
  rfl
@[simp] theorem store_tup {ts : List Tg} {ds : List D} : store (.tup ts) (.tuple ds) env = stores ts ds env := by
  unfold store
  rfl
def storesO (ts : List Tg) (ds : List D) : Option Fram → Option Fram
  | some e => stores ts ds e
  | none => none
@[simp] theorem storesO_some {ts : List Tg} {ds : List D} : storesO ts ds (some e) = stores ts ds e := rfl
@[simp] theorem stores_nil : stores [] [] env = some env := by unfold stores; rfl
@[simp] theorem stores_cons {t : Tg} {ts : List Tg} {d : D} {ds : List D} : stores (t :: ts) (d :: ds) env = storesO ts ds (store t d env) := by
  conv => lhs; unfold stores
  cases store t d env <;> rfl
@[simp] theorem putAll_nil {b : Bool} : putAll b [] .nil [] env = some env := rfl
@[simp] theorem putAll_cons {b : Bool} {i : Nat} {o : Bool} {is : List (Nat × Bool)} {a : Exp} {es : Exs} {d : D} {ds : List D} : putAll b ((i, o) :: is) (.cons a es) (d :: ds) env = if (decide (i < env.length) && !(b && i == 0) && (!o || (makes a && isSeq d))) = true then putAll b is es ds (env.set i (if o = true then .own d else .val d)) else none := rfl
@[simp] theorem wipeF_nil : wipeF env [] = env := rfl
@[simp] theorem wipeF_cons {v : Nat} {vs : List Nat} : wipeF env (v :: vs) = (wipeF env vs).set v .non := rfl
@[simp] theorem restore_nil {old : Fram} : restore env old [] = env := rfl
@[simp] theorem restore_cons {old : Fram} {v : Nat} {vs : List Nat} : restore env old (v :: vs) = (restore env old vs).set v (old[v]?.getD .non) := rfl
@[simp] theorem isSeq_list {xs : List D} : isSeq (.list xs) = true := rfl
@[simp] theorem isSeq_dict {xs : List (D × D)} : isSeq (.dict xs) = true := rfl
@[simp] theorem out0_f : out0 false env = some PyData.none := rfl
@[simp] theorem out0_t {d : D} : out0 true (.own d :: env) = some d := rfl
@[simp] theorem noExc_ok {A : Type} {a : A} : noExc (.ok a) = .ok a := rfl
end
/-- the fuel of loops -/
@[irreducible] def WF : Nat := 2 ^ 64
theorem WF_eq : WF = 2 ^ 64 := by unfold WF; rfl
/-! operations over numbers -/
section
variable {i j : Int} {xs ys : List D}
@[simp] theorem add_int : binF .add (.int i) (.int j) = some (.int (i + j)) := rfl
@[simp] theorem sub_int : binF .sub (.int i) (.int j) = some (.int (i - j)) := rfl
theorem log2_lt {a k : Nat} (h : a < 2 ^ k) (hk : 0 < k) : a.log2 < k := by
  rcases Nat.eq_zero_or_pos a with rfl | ha
  · simpa using hk
  · exact (Nat.log2_lt (Nat.ne_of_gt ha)).mpr h
theorem mul_int (h1 : i.natAbs < 2 ^ 64) (h2 : j.natAbs < 2 ^ 64) : binF .mul (.int i) (.int j) = some (.int (i * j)) := by
  have a := log2_lt h1 (by omega)
  have b := log2_lt h2 (by omega)
  show (if i.natAbs.log2 + j.natAbs.log2 < 1000000 then _ else _) = _
  rw [if_pos (by omega)]
theorem mod_pos (h : 0 < j) : binF .mod (.int i) (.int j) = some (.int (i % j)) := by
  show (if j ≠ 0 then some (PyData.int (i.fmod j)) else none) = _
  rw [if_pos (by omega), Int.fmod_eq_emod_of_nonneg _ (by omega)]
theorem fdiv_pos (h : 0 < j) (h2 : j < 2 ^ 64) : binF .fdiv (.int i) (.int j) = some (.int (i / j)) := by
  have a := log2_lt (a := j.natAbs) (k := 64) (by omega) (by omega)
  show (if j ≠ 0 ∧ j.natAbs.log2 < 9000 then some (PyData.int (i.fdiv j)) else none) = _
  rw [if_pos ⟨by omega, by omega⟩, Int.fdiv_eq_ediv_of_nonneg _ (by omega)]
theorem pow_int (h : 0 ≤ j ∧ j ≤ 1000000 ∧ i.natAbs < 2 ^ 64) : binF .pow (.int i) (.int j) = some (.int (i ^ j.toNat)) := if_pos h
theorem add_tuple (h : xs.length + ys.length ≤ 16777216) : binF .add (.tuple xs) (.tuple ys) = some (.tuple (xs ++ ys)) := if_pos h
theorem add_list (h : xs.length + ys.length ≤ 16777216) : binF .add (.list xs) (.list ys) = some (.list (xs ++ ys)) := if_pos h
theorem mul_tuple (h1 : 0 ≤ j) (h2 : j ≤ 1000) (h3 : xs.length ≤ 1000) : binF .mul (.tuple xs) (.int j) = some (.tuple (List.replicate j.toNat xs).flatten) := if_pos ⟨by omega, h2, h3⟩
@[simp] theorem eqOk_int : eqOk (.int i) = true := by simp [eqOk, PyData.canLay0, PyData.depth, noDict]
@[simp] theorem eqOk_bool {b : Bool} : eqOk (.bool b) = true := by simp [eqOk, PyData.canLay0, PyData.depth, noDict]
@[simp] theorem eqOk_none : eqOk .none = true := by simp [eqOk, PyData.canLay0, PyData.depth, noDict]
@[simp] theorem eqv_int : PyData.eqv (.int i) (.int j) = decide (i = j) := by
  simp only [PyData.eqv]
  rfl
@[simp] theorem eqv_tup {xs ys : List D} : PyData.eqv (.tuple xs) (.tuple ys) = PyData.eqvAll xs ys := by simp [PyData.eqv]
@[simp] theorem eqv_lst {xs ys : List D} : PyData.eqv (.list xs) (.list ys) = PyData.eqvAll xs ys := by simp [PyData.eqv]
@[simp] theorem eqv_nil : PyData.eqvAll [] [] = true := by simp [PyData.eqvAll]
@[simp] theorem eqv_nilc {y : D} {ys : List D} : PyData.eqvAll [] (y :: ys) = false := by simp [PyData.eqvAll]
@[simp] theorem eqv_cnil {y : D} {ys : List D} : PyData.eqvAll (y :: ys) [] = false := by simp [PyData.eqvAll]
@[simp] theorem eqv_cons {x y : D} {xs ys : List D} : PyData.eqvAll (x :: xs) (y :: ys) = (PyData.eqv x y && PyData.eqvAll xs ys) := by simp [PyData.eqvAll]
theorem eq_data {x y : D} (h1 : eqOk x = true) (h2 : eqOk y = true) : cmpF .eq x y = some (PyData.eqv x y) := by
  show (if eqOk x && eqOk y then _ else _) = _
  rw [h1, h2]
  rfl
theorem ne_data {x y : D} (h1 : eqOk x = true) (h2 : eqOk y = true) : cmpF .ne x y = some (!PyData.eqv x y) := by
  show (if eqOk x && eqOk y then _ else _) = _
  rw [h1, h2]
  rfl
@[simp] theorem eq_unit {xs : List D} : cmpF .eq (.tuple xs) (.tuple []) = some xs.isEmpty := by
  show (if eqOk (.tuple xs) && eqOk (.tuple []) then some (PyData.eqv (.tuple xs) (.tuple [])) else some xs.isEmpty) = _
  have e : PyData.eqv (.tuple xs) (.tuple []) = xs.isEmpty := by
    cases xs <;> simp [PyData.eqv, PyData.eqvAll]
  rw [e]
  split <;> rfl
@[simp] theorem eq_int : cmpF .eq (.int i) (.int j) = some (decide (i = j)) := by rw [eq_data eqOk_int eqOk_int, eqv_int]
@[simp] theorem ne_int : cmpF .ne (.int i) (.int j) = some (!decide (i = j)) := by rw [ne_data eqOk_int eqOk_int, eqv_int]
theorem thenS_ite {Ph : CallF} {wf : Nat} {br : Bool} {ss : Sts} {p : Prop} [Decidable p] {x y : Res (Flw × Fram)} : thenS Ph wf br ss (if p then x else y) = if p then thenS Ph wf br ss x else thenS Ph wf br ss y := by split <;> rfl
theorem endF_ite {fn : Def} {p : Prop} [Decidable p] {x y : Res (Flw × Fram)} : endF fn (if p then x else y) = if p then endF fn x else endF fn y := by split <;> rfl
theorem bind_ite {A B : Type} {f : A → Res B} {p : Prop} [Decidable p] {x y : Res A} : (if p then x else y).bind f = if p then x.bind f else y.bind f := by split <;> rfl
@[simp] theorem eq_str {x y : Str} (hx : PyData.strOk x = true) (hy : PyData.strOk y = true) : cmpF .eq (.str x) (.str y) = some (x == y) := by
  rw [eq_data (by simp [eqOk, PyData.canLay0, PyData.depth, noDict, hx]) (by simp [eqOk, PyData.canLay0, PyData.depth, noDict, hy])]
  simp [PyData.eqv]
@[simp] theorem lt_int : cmpF .lt (.int i) (.int j) = some (decide (i < j)) := rfl
@[simp] theorem le_int : cmpF .le (.int i) (.int j) = some (decide (i ≤ j)) := rfl
@[simp] theorem gt_int : cmpF .gt (.int i) (.int j) = some (decide (j < i)) := rfl
@[simp] theorem ge_int : cmpF .ge (.int i) (.int j) = some (decide (j ≤ i)) := rfl
/-- an item of a row -/
def at? (xs : List D) (i : Int) : Option D := if 0 ≤ i then xs[i.toNat]? else if 0 ≤ i + xs.length then xs[(i + xs.length).toNat]? else none
@[simp] theorem at_eq : at? xs i = if 0 ≤ i then xs[i.toNat]? else if 0 ≤ i + xs.length then xs[(i + xs.length).toNat]? else none := rfl
theorem place_at : (place xs.length i).bind (fun j => xs[j]?) = at? xs i := by
  unfold place L2.ixN at?
  by_cases h0 : 0 ≤ i
  · simp only [h0, if_true]
    by_cases h1 : i < xs.length
    · simp only [h1, if_true]
      rfl
    · simp only [h1, if_false]
      rw [List.getElem?_eq_none (by omega)]
      rfl
  · simp only [h0, if_false]
    by_cases h1 : -(xs.length : Int) ≤ i
    · rw [if_pos h1, if_pos (by omega)]
      rfl
    · rw [if_neg h1, if_neg (by omega)]
      rfl
@[simp] theorem idx_list : idxF (.list xs) (.int i) = at? xs i := place_at
@[simp] theorem idx_tuple : idxF (.tuple xs) (.int i) = at? xs i := place_at
@[simp] theorem slice_list {lo hi : Option Int} : sliceF (.list xs) lo hi = some (.list (cut xs lo hi)) := rfl
@[simp] theorem slice_tuple {lo hi : Option Int} : sliceF (.tuple xs) lo hi = some (.tuple (cut xs lo hi)) := rfl
@[simp] theorem blt_len_list : bltF .len [.list xs] = some (.int xs.length) := rfl
@[simp] theorem blt_len_tuple : bltF .len [.tuple xs] = some (.int xs.length) := rfl
@[simp] theorem blt_int_int : bltF .int1 [.int i] = some (.int i) := rfl
@[simp] theorem blt_int_bool {b : Bool} : bltF .int1 [.bool b] = some (.int (if b then 1 else 0)) := rfl
@[simp] theorem blt_abs_int : bltF .abs [.int i] = some (.int (if i < 0 then -i else i)) := rfl
@[simp] theorem blt_max_int : bltF .max2 [.int i, .int j] = some (.int (if j > i then j else i)) := rfl
@[simp] theorem blt_min_int : bltF .min2 [.int i, .int j] = some (.int (if j < i then j else i)) := rfl
@[simp] theorem blt_tuple_list : bltF .tuple [.list xs] = some (.tuple xs) := rfl
@[simp] theorem blt_tuple_tuple : bltF .tuple [.tuple xs] = some (.tuple xs) := rfl
@[simp] theorem blt_list_list : bltF .list [.list xs] = some (.list xs) := rfl
@[simp] theorem blt_list_tuple : bltF .list [.tuple xs] = some (.list xs) := rfl
@[simp] theorem blt_gcd_int : bltF .gcd [.int i, .int j] = some (.int ((Nat.gcd i.natAbs j.natAbs : Nat) : Int)) := rfl
theorem divmod_int (h1 : 0 < j) (h2 : j < 1073741824) : bltF .divmod [.int i, .int j] = some (.tuple [.int (i / j), .int (i % j)]) := if_pos ⟨h1, h2⟩
@[simp] theorem items_list : items? (.list xs) = some xs := rfl
@[simp] theorem items_tuple : items? (.tuple xs) = some xs := rfl
@[simp] theorem walk_list : walk? (.list xs) = some xs := rfl
@[simp] theorem walk_tuple : walk? (.tuple xs) = some xs := rfl
@[simp] theorem walk_dict {kvs : List (D × D)} : walk? (.dict kvs) = some (kvs.map (·.1)) := rfl
@[simp] theorem isF_int_none : isF .int .none = false := by simp [isF, PyData.isInt, PyData.isBool, PyData.isStr, PyData.isTuple, PyData.isList, PyData.isDict]
@[simp] theorem isF_int_bool {b : Bool} : isF .int (.bool b) = true := by simp [isF, PyData.isInt, PyData.isBool, PyData.isStr, PyData.isTuple, PyData.isList, PyData.isDict]
@[simp] theorem isF_int_int {i : Int} : isF .int (.int i) = true := by simp [isF, PyData.isInt, PyData.isBool, PyData.isStr, PyData.isTuple, PyData.isList, PyData.isDict]
@[simp] theorem isF_int_str {s : Str} : isF .int (.str s) = false := by simp [isF, PyData.isInt, PyData.isBool, PyData.isStr, PyData.isTuple, PyData.isList, PyData.isDict]
@[simp] theorem isF_int_list {xs : List D} : isF .int (.list xs) = false := by simp [isF, PyData.isInt, PyData.isBool, PyData.isStr, PyData.isTuple, PyData.isList, PyData.isDict]
@[simp] theorem isF_int_tuple {xs : List D} : isF .int (.tuple xs) = false := by simp [isF, PyData.isInt, PyData.isBool, PyData.isStr, PyData.isTuple, PyData.isList, PyData.isDict]
@[simp] theorem isF_int_dict {xs : List (D × D)} : isF .int (.dict xs) = false := by simp [isF, PyData.isInt, PyData.isBool, PyData.isStr, PyData.isTuple, PyData.isList, PyData.isDict]
@[simp] theorem isF_bool_none : isF .bool .none = false := by simp [isF, PyData.isInt, PyData.isBool, PyData.isStr, PyData.isTuple, PyData.isList, PyData.isDict]
@[simp] theorem isF_bool_bool {b : Bool} : isF .bool (.bool b) = true := by simp [isF, PyData.isInt, PyData.isBool, PyData.isStr, PyData.isTuple, PyData.isList, PyData.isDict]
@[simp] theorem isF_bool_int {i : Int} : isF .bool (.int i) = false := by simp [isF, PyData.isInt, PyData.isBool, PyData.isStr, PyData.isTuple, PyData.isList, PyData.isDict]
@[simp] theorem isF_bool_str {s : Str} : isF .bool (.str s) = false := by simp [isF, PyData.isInt, PyData.isBool, PyData.isStr, PyData.isTuple, PyData.isList, PyData.isDict]
@[simp] theorem isF_bool_list {xs : List D} : isF .bool (.list xs) = false := by simp [isF, PyData.isInt, PyData.isBool, PyData.isStr, PyData.isTuple, PyData.isList, PyData.isDict]
@[simp] theorem isF_bool_tuple {xs : List D} : isF .bool (.tuple xs) = false := by simp [isF, PyData.isInt, PyData.isBool, PyData.isStr, PyData.isTuple, PyData.isList, PyData.isDict]
@[simp] theorem isF_bool_dict {xs : List (D × D)} : isF .bool (.dict xs) = false := by simp [isF, PyData.isInt, PyData.isBool, PyData.isStr, PyData.isTuple, PyData.isList, PyData.isDict]
@[simp] theorem isF_str_none : isF .str .none = false := by simp [isF, PyData.isInt, PyData.isBool, PyData.isStr, PyData.isTuple, PyData.isList, PyData.isDict]
@[simp] theorem isF_str_bool {b : Bool} : isF .str (.bool b) = false := by simp [isF, PyData.isInt, PyData.isBool, PyData.isStr, PyData.isTuple, PyData.isList, PyData.isDict]
@[simp] theorem isF_str_int {i : Int} : isF .str (.int i) = false := by simp [isF, PyData.isInt, PyData.isBool, PyData.isStr, PyData.isTuple, PyData.isList, PyData.isDict]
@[simp] theorem isF_str_str {s : Str} : isF .str (.str s) = true := by simp [isF, PyData.isInt, PyData.isBool, PyData.isStr, PyData.isTuple, PyData.isList, PyData.isDict]
@[simp] theorem isF_str_list {xs : List D} : isF .str (.list xs) = false := by simp [isF, PyData.isInt, PyData.isBool, PyData.isStr, PyData.isTuple, PyData.isList, PyData.isDict]
@[simp] theorem isF_str_tuple {xs : List D} : isF .str (.tuple xs) = false := by simp [isF, PyData.isInt, PyData.isBool, PyData.isStr, PyData.isTuple, PyData.isList, PyData.isDict]
@[simp] theorem isF_str_dict {xs : List (D × D)} : isF .str (.dict xs) = false := by simp [isF, PyData.isInt, PyData.isBool, PyData.isStr, PyData.isTuple, PyData.isList, PyData.isDict]
@[simp] theorem isF_tuple_none : isF .tuple .none = false := by simp [isF, PyData.isInt, PyData.isBool, PyData.isStr, PyData.isTuple, PyData.isList, PyData.isDict]
@[simp] theorem isF_tuple_bool {b : Bool} : isF .tuple (.bool b) = false := by simp [isF, PyData.isInt, PyData.isBool, PyData.isStr, PyData.isTuple, PyData.isList, PyData.isDict]
@[simp] theorem isF_tuple_int {i : Int} : isF .tuple (.int i) = false := by simp [isF, PyData.isInt, PyData.isBool, PyData.isStr, PyData.isTuple, PyData.isList, PyData.isDict]
@[simp] theorem isF_tuple_str {s : Str} : isF .tuple (.str s) = false := by simp [isF, PyData.isInt, PyData.isBool, PyData.isStr, PyData.isTuple, PyData.isList, PyData.isDict]
@[simp] theorem isF_tuple_list {xs : List D} : isF .tuple (.list xs) = false := by simp [isF, PyData.isInt, PyData.isBool, PyData.isStr, PyData.isTuple, PyData.isList, PyData.isDict]
@[simp] theorem isF_tuple_tuple {xs : List D} : isF .tuple (.tuple xs) = true := by simp [isF, PyData.isInt, PyData.isBool, PyData.isStr, PyData.isTuple, PyData.isList, PyData.isDict]
@[simp] theorem isF_tuple_dict {xs : List (D × D)} : isF .tuple (.dict xs) = false := by simp [isF, PyData.isInt, PyData.isBool, PyData.isStr, PyData.isTuple, PyData.isList, PyData.isDict]
@[simp] theorem isF_list_none : isF .list .none = false := by simp [isF, PyData.isInt, PyData.isBool, PyData.isStr, PyData.isTuple, PyData.isList, PyData.isDict]
@[simp] theorem isF_list_bool {b : Bool} : isF .list (.bool b) = false := by simp [isF, PyData.isInt, PyData.isBool, PyData.isStr, PyData.isTuple, PyData.isList, PyData.isDict]
@[simp] theorem isF_list_int {i : Int} : isF .list (.int i) = false := by simp [isF, PyData.isInt, PyData.isBool, PyData.isStr, PyData.isTuple, PyData.isList, PyData.isDict]
@[simp] theorem isF_list_str {s : Str} : isF .list (.str s) = false := by simp [isF, PyData.isInt, PyData.isBool, PyData.isStr, PyData.isTuple, PyData.isList, PyData.isDict]
@[simp] theorem isF_list_list {xs : List D} : isF .list (.list xs) = true := by simp [isF, PyData.isInt, PyData.isBool, PyData.isStr, PyData.isTuple, PyData.isList, PyData.isDict]
@[simp] theorem isF_list_tuple {xs : List D} : isF .list (.tuple xs) = false := by simp [isF, PyData.isInt, PyData.isBool, PyData.isStr, PyData.isTuple, PyData.isList, PyData.isDict]
@[simp] theorem isF_list_dict {xs : List (D × D)} : isF .list (.dict xs) = false := by simp [isF, PyData.isInt, PyData.isBool, PyData.isStr, PyData.isTuple, PyData.isList, PyData.isDict]
@[simp] theorem isF_dict_none : isF .dict .none = false := by simp [isF, PyData.isInt, PyData.isBool, PyData.isStr, PyData.isTuple, PyData.isList, PyData.isDict]
@[simp] theorem isF_dict_bool {b : Bool} : isF .dict (.bool b) = false := by simp [isF, PyData.isInt, PyData.isBool, PyData.isStr, PyData.isTuple, PyData.isList, PyData.isDict]
@[simp] theorem isF_dict_int {i : Int} : isF .dict (.int i) = false := by simp [isF, PyData.isInt, PyData.isBool, PyData.isStr, PyData.isTuple, PyData.isList, PyData.isDict]
@[simp] theorem isF_dict_str {s : Str} : isF .dict (.str s) = false := by simp [isF, PyData.isInt, PyData.isBool, PyData.isStr, PyData.isTuple, PyData.isList, PyData.isDict]
@[simp] theorem isF_dict_list {xs : List D} : isF .dict (.list xs) = false := by simp [isF, PyData.isInt, PyData.isBool, PyData.isStr, PyData.isTuple, PyData.isList, PyData.isDict]
@[simp] theorem isF_dict_tuple {xs : List D} : isF .dict (.tuple xs) = false := by simp [isF, PyData.isInt, PyData.isBool, PyData.isStr, PyData.isTuple, PyData.isList, PyData.isDict]
@[simp] theorem isF_dict_dict {xs : List (D × D)} : isF .dict (.dict xs) = true := by simp [isF, PyData.isInt, PyData.isBool, PyData.isStr, PyData.isTuple, PyData.isList, PyData.isDict]
@[simp] theorem get_0 {A : Type} {x0 : A} {l : List A} : (x0 :: l)[0]? = some x0 := rfl
@[simp] theorem set_0 {A : Type} {x0 y : A} {l : List A} : (x0 :: l).set 0 y = y :: l := rfl
@[simp] theorem get_1 {A : Type} {x0 x1 : A} {l : List A} : (x0 :: x1 :: l)[1]? = some x1 := rfl
@[simp] theorem set_1 {A : Type} {x0 x1 y : A} {l : List A} : (x0 :: x1 :: l).set 1 y = x0 :: y :: l := rfl
@[simp] theorem get_2 {A : Type} {x0 x1 x2 : A} {l : List A} : (x0 :: x1 :: x2 :: l)[2]? = some x2 := rfl
@[simp] theorem set_2 {A : Type} {x0 x1 x2 y : A} {l : List A} : (x0 :: x1 :: x2 :: l).set 2 y = x0 :: x1 :: y :: l := rfl
@[simp] theorem get_3 {A : Type} {x0 x1 x2 x3 : A} {l : List A} : (x0 :: x1 :: x2 :: x3 :: l)[3]? = some x3 := rfl
@[simp] theorem set_3 {A : Type} {x0 x1 x2 x3 y : A} {l : List A} : (x0 :: x1 :: x2 :: x3 :: l).set 3 y = x0 :: x1 :: x2 :: y :: l := rfl
@[simp] theorem get_4 {A : Type} {x0 x1 x2 x3 x4 : A} {l : List A} : (x0 :: x1 :: x2 :: x3 :: x4 :: l)[4]? = some x4 := rfl
@[simp] theorem set_4 {A : Type} {x0 x1 x2 x3 x4 y : A} {l : List A} : (x0 :: x1 :: x2 :: x3 :: x4 :: l).set 4 y = x0 :: x1 :: x2 :: x3 :: y :: l := rfl
@[simp] theorem get_5 {A : Type} {x0 x1 x2 x3 x4 x5 : A} {l : List A} : (x0 :: x1 :: x2 :: x3 :: x4 :: x5 :: l)[5]? = some x5 := rfl
@[simp] theorem set_5 {A : Type} {x0 x1 x2 x3 x4 x5 y : A} {l : List A} : (x0 :: x1 :: x2 :: x3 :: x4 :: x5 :: l).set 5 y = x0 :: x1 :: x2 :: x3 :: x4 :: y :: l := rfl
@[simp] theorem get_6 {A : Type} {x0 x1 x2 x3 x4 x5 x6 : A} {l : List A} : (x0 :: x1 :: x2 :: x3 :: x4 :: x5 :: x6 :: l)[6]? = some x6 := rfl
@[simp] theorem set_6 {A : Type} {x0 x1 x2 x3 x4 x5 x6 y : A} {l : List A} : (x0 :: x1 :: x2 :: x3 :: x4 :: x5 :: x6 :: l).set 6 y = x0 :: x1 :: x2 :: x3 :: x4 :: x5 :: y :: l := rfl
@[simp] theorem get_7 {A : Type} {x0 x1 x2 x3 x4 x5 x6 x7 : A} {l : List A} : (x0 :: x1 :: x2 :: x3 :: x4 :: x5 :: x6 :: x7 :: l)[7]? = some x7 := rfl
@[simp] theorem set_7 {A : Type} {x0 x1 x2 x3 x4 x5 x6 x7 y : A} {l : List A} : (x0 :: x1 :: x2 :: x3 :: x4 :: x5 :: x6 :: x7 :: l).set 7 y = x0 :: x1 :: x2 :: x3 :: x4 :: x5 :: x6 :: y :: l := rfl
@[simp] theorem get_8 {A : Type} {x0 x1 x2 x3 x4 x5 x6 x7 x8 : A} {l : List A} : (x0 :: x1 :: x2 :: x3 :: x4 :: x5 :: x6 :: x7 :: x8 :: l)[8]? = some x8 := rfl
@[simp] theorem set_8 {A : Type} {x0 x1 x2 x3 x4 x5 x6 x7 x8 y : A} {l : List A} : (x0 :: x1 :: x2 :: x3 :: x4 :: x5 :: x6 :: x7 :: x8 :: l).set 8 y = x0 :: x1 :: x2 :: x3 :: x4 :: x5 :: x6 :: x7 :: y :: l := rfl
@[simp] theorem get_9 {A : Type} {x0 x1 x2 x3 x4 x5 x6 x7 x8 x9 : A} {l : List A} : (x0 :: x1 :: x2 :: x3 :: x4 :: x5 :: x6 :: x7 :: x8 :: x9 :: l)[9]? = some x9 := rfl
@[simp] theorem set_9 {A : Type} {x0 x1 x2 x3 x4 x5 x6 x7 x8 x9 y : A} {l : List A} : (x0 :: x1 :: x2 :: x3 :: x4 :: x5 :: x6 :: x7 :: x8 :: x9 :: l).set 9 y = x0 :: x1 :: x2 :: x3 :: x4 :: x5 :: x6 :: x7 :: x8 :: y :: l := rfl
@[simp] theorem get_10 {A : Type} {x0 x1 x2 x3 x4 x5 x6 x7 x8 x9 x10 : A} {l : List A} : (x0 :: x1 :: x2 :: x3 :: x4 :: x5 :: x6 :: x7 :: x8 :: x9 :: x10 :: l)[10]? = some x10 := rfl
@[simp] theorem set_10 {A : Type} {x0 x1 x2 x3 x4 x5 x6 x7 x8 x9 x10 y : A} {l : List A} : (x0 :: x1 :: x2 :: x3 :: x4 :: x5 :: x6 :: x7 :: x8 :: x9 :: x10 :: l).set 10 y = x0 :: x1 :: x2 :: x3 :: x4 :: x5 :: x6 :: x7 :: x8 :: x9 :: y :: l := rfl
@[simp] theorem get_11 {A : Type} {x0 x1 x2 x3 x4 x5 x6 x7 x8 x9 x10 x11 : A} {l : List A} : (x0 :: x1 :: x2 :: x3 :: x4 :: x5 :: x6 :: x7 :: x8 :: x9 :: x10 :: x11 :: l)[11]? = some x11 := rfl
@[simp] theorem set_11 {A : Type} {x0 x1 x2 x3 x4 x5 x6 x7 x8 x9 x10 x11 y : A} {l : List A} : (x0 :: x1 :: x2 :: x3 :: x4 :: x5 :: x6 :: x7 :: x8 :: x9 :: x10 :: x11 :: l).set 11 y = x0 :: x1 :: x2 :: x3 :: x4 :: x5 :: x6 :: x7 :: x8 :: x9 :: x10 :: y :: l := rfl
@[simp] theorem get_12 {A : Type} {x0 x1 x2 x3 x4 x5 x6 x7 x8 x9 x10 x11 x12 : A} {l : List A} : (x0 :: x1 :: x2 :: x3 :: x4 :: x5 :: x6 :: x7 :: x8 :: x9 :: x10 :: x11 :: x12 :: l)[12]? = some x12 := rfl
@[simp] theorem set_12 {A : Type} {x0 x1 x2 x3 x4 x5 x6 x7 x8 x9 x10 x11 x12 y : A} {l : List A} : (x0 :: x1 :: x2 :: x3 :: x4 :: x5 :: x6 :: x7 :: x8 :: x9 :: x10 :: x11 :: x12 :: l).set 12 y = x0 :: x1 :: x2 :: x3 :: x4 :: x5 :: x6 :: x7 :: x8 :: x9 :: x10 :: x11 :: y :: l := rfl
@[simp] theorem get_13 {A : Type} {x0 x1 x2 x3 x4 x5 x6 x7 x8 x9 x10 x11 x12 x13 : A} {l : List A} : (x0 :: x1 :: x2 :: x3 :: x4 :: x5 :: x6 :: x7 :: x8 :: x9 :: x10 :: x11 :: x12 :: x13 :: l)[13]? = some x13 := rfl
@[simp] theorem set_13 {A : Type} {x0 x1 x2 x3 x4 x5 x6 x7 x8 x9 x10 x11 x12 x13 y : A} {l : List A} : (x0 :: x1 :: x2 :: x3 :: x4 :: x5 :: x6 :: x7 :: x8 :: x9 :: x10 :: x11 :: x12 :: x13 :: l).set 13 y = x0 :: x1 :: x2 :: x3 :: x4 :: x5 :: x6 :: x7 :: x8 :: x9 :: x10 :: x11 :: x12 :: y :: l := rfl
@[simp] theorem get_14 {A : Type} {x0 x1 x2 x3 x4 x5 x6 x7 x8 x9 x10 x11 x12 x13 x14 : A} {l : List A} : (x0 :: x1 :: x2 :: x3 :: x4 :: x5 :: x6 :: x7 :: x8 :: x9 :: x10 :: x11 :: x12 :: x13 :: x14 :: l)[14]? = some x14 := rfl
@[simp] theorem set_14 {A : Type} {x0 x1 x2 x3 x4 x5 x6 x7 x8 x9 x10 x11 x12 x13 x14 y : A} {l : List A} : (x0 :: x1 :: x2 :: x3 :: x4 :: x5 :: x6 :: x7 :: x8 :: x9 :: x10 :: x11 :: x12 :: x13 :: x14 :: l).set 14 y = x0 :: x1 :: x2 :: x3 :: x4 :: x5 :: x6 :: x7 :: x8 :: x9 :: x10 :: x11 :: x12 :: x13 :: y :: l := rfl
@[simp] theorem get_15 {A : Type} {x0 x1 x2 x3 x4 x5 x6 x7 x8 x9 x10 x11 x12 x13 x14 x15 : A} {l : List A} : (x0 :: x1 :: x2 :: x3 :: x4 :: x5 :: x6 :: x7 :: x8 :: x9 :: x10 :: x11 :: x12 :: x13 :: x14 :: x15 :: l)[15]? = some x15 := rfl
@[simp] theorem set_15 {A : Type} {x0 x1 x2 x3 x4 x5 x6 x7 x8 x9 x10 x11 x12 x13 x14 x15 y : A} {l : List A} : (x0 :: x1 :: x2 :: x3 :: x4 :: x5 :: x6 :: x7 :: x8 :: x9 :: x10 :: x11 :: x12 :: x13 :: x14 :: x15 :: l).set 15 y = x0 :: x1 :: x2 :: x3 :: x4 :: x5 :: x6 :: x7 :: x8 :: x9 :: x10 :: x11 :: x12 :: x13 :: x14 :: y :: l := rfl
@[simp] theorem get_16 {A : Type} {x0 x1 x2 x3 x4 x5 x6 x7 x8 x9 x10 x11 x12 x13 x14 x15 x16 : A} {l : List A} : (x0 :: x1 :: x2 :: x3 :: x4 :: x5 :: x6 :: x7 :: x8 :: x9 :: x10 :: x11 :: x12 :: x13 :: x14 :: x15 :: x16 :: l)[16]? = some x16 := rfl
@[simp] theorem set_16 {A : Type} {x0 x1 x2 x3 x4 x5 x6 x7 x8 x9 x10 x11 x12 x13 x14 x15 x16 y : A} {l : List A} : (x0 :: x1 :: x2 :: x3 :: x4 :: x5 :: x6 :: x7 :: x8 :: x9 :: x10 :: x11 :: x12 :: x13 :: x14 :: x15 :: x16 :: l).set 16 y = x0 :: x1 :: x2 :: x3 :: x4 :: x5 :: x6 :: x7 :: x8 :: x9 :: x10 :: x11 :: x12 :: x13 :: x14 :: x15 :: y :: l := rfl
@[simp] theorem get_17 {A : Type} {x0 x1 x2 x3 x4 x5 x6 x7 x8 x9 x10 x11 x12 x13 x14 x15 x16 x17 : A} {l : List A} : (x0 :: x1 :: x2 :: x3 :: x4 :: x5 :: x6 :: x7 :: x8 :: x9 :: x10 :: x11 :: x12 :: x13 :: x14 :: x15 :: x16 :: x17 :: l)[17]? = some x17 := rfl
@[simp] theorem set_17 {A : Type} {x0 x1 x2 x3 x4 x5 x6 x7 x8 x9 x10 x11 x12 x13 x14 x15 x16 x17 y : A} {l : List A} : (x0 :: x1 :: x2 :: x3 :: x4 :: x5 :: x6 :: x7 :: x8 :: x9 :: x10 :: x11 :: x12 :: x13 :: x14 :: x15 :: x16 :: x17 :: l).set 17 y = x0 :: x1 :: x2 :: x3 :: x4 :: x5 :: x6 :: x7 :: x8 :: x9 :: x10 :: x11 :: x12 :: x13 :: x14 :: x15 :: x16 :: y :: l := rfl
@[simp] theorem get_18 {A : Type} {x0 x1 x2 x3 x4 x5 x6 x7 x8 x9 x10 x11 x12 x13 x14 x15 x16 x17 x18 : A} {l : List A} : (x0 :: x1 :: x2 :: x3 :: x4 :: x5 :: x6 :: x7 :: x8 :: x9 :: x10 :: x11 :: x12 :: x13 :: x14 :: x15 :: x16 :: x17 :: x18 :: l)[18]? = some x18 := rfl
@[simp] theorem set_18 {A : Type} {x0 x1 x2 x3 x4 x5 x6 x7 x8 x9 x10 x11 x12 x13 x14 x15 x16 x17 x18 y : A} {l : List A} : (x0 :: x1 :: x2 :: x3 :: x4 :: x5 :: x6 :: x7 :: x8 :: x9 :: x10 :: x11 :: x12 :: x13 :: x14 :: x15 :: x16 :: x17 :: x18 :: l).set 18 y = x0 :: x1 :: x2 :: x3 :: x4 :: x5 :: x6 :: x7 :: x8 :: x9 :: x10 :: x11 :: x12 :: x13 :: x14 :: x15 :: x16 :: x17 :: y :: l := rfl
@[simp] theorem get_19 {A : Type} {x0 x1 x2 x3 x4 x5 x6 x7 x8 x9 x10 x11 x12 x13 x14 x15 x16 x17 x18 x19 : A} {l : List A} : (x0 :: x1 :: x2 :: x3 :: x4 :: x5 :: x6 :: x7 :: x8 :: x9 :: x10 :: x11 :: x12 :: x13 :: x14 :: x15 :: x16 :: x17 :: x18 :: x19 :: l)[19]? = some x19 := rfl
@[simp] theorem set_19 {A : Type} {x0 x1 x2 x3 x4 x5 x6 x7 x8 x9 x10 x11 x12 x13 x14 x15 x16 x17 x18 x19 y : A} {l : List A} : (x0 :: x1 :: x2 :: x3 :: x4 :: x5 :: x6 :: x7 :: x8 :: x9 :: x10 :: x11 :: x12 :: x13 :: x14 :: x15 :: x16 :: x17 :: x18 :: x19 :: l).set 19 y = x0 :: x1 :: x2 :: x3 :: x4 :: x5 :: x6 :: x7 :: x8 :: x9 :: x10 :: x11 :: x12 :: x13 :: x14 :: x15 :: x16 :: x17 :: x18 :: y :: l := rfl
@[simp] theorem get_20 {A : Type} {x0 x1 x2 x3 x4 x5 x6 x7 x8 x9 x10 x11 x12 x13 x14 x15 x16 x17 x18 x19 x20 : A} {l : List A} : (x0 :: x1 :: x2 :: x3 :: x4 :: x5 :: x6 :: x7 :: x8 :: x9 :: x10 :: x11 :: x12 :: x13 :: x14 :: x15 :: x16 :: x17 :: x18 :: x19 :: x20 :: l)[20]? = some x20 := rfl
@[simp] theorem set_20 {A : Type} {x0 x1 x2 x3 x4 x5 x6 x7 x8 x9 x10 x11 x12 x13 x14 x15 x16 x17 x18 x19 x20 y : A} {l : List A} : (x0 :: x1 :: x2 :: x3 :: x4 :: x5 :: x6 :: x7 :: x8 :: x9 :: x10 :: x11 :: x12 :: x13 :: x14 :: x15 :: x16 :: x17 :: x18 :: x19 :: x20 :: l).set 20 y = x0 :: x1 :: x2 :: x3 :: x4 :: x5 :: x6 :: x7 :: x8 :: x9 :: x10 :: x11 :: x12 :: x13 :: x14 :: x15 :: x16 :: x17 :: x18 :: x19 :: y :: l := rfl
@[simp] theorem get_21 {A : Type} {x0 x1 x2 x3 x4 x5 x6 x7 x8 x9 x10 x11 x12 x13 x14 x15 x16 x17 x18 x19 x20 x21 : A} {l : List A} : (x0 :: x1 :: x2 :: x3 :: x4 :: x5 :: x6 :: x7 :: x8 :: x9 :: x10 :: x11 :: x12 :: x13 :: x14 :: x15 :: x16 :: x17 :: x18 :: x19 :: x20 :: x21 :: l)[21]? = some x21 := rfl
@[simp] theorem set_21 {A : Type} {x0 x1 x2 x3 x4 x5 x6 x7 x8 x9 x10 x11 x12 x13 x14 x15 x16 x17 x18 x19 x20 x21 y : A} {l : List A} : (x0 :: x1 :: x2 :: x3 :: x4 :: x5 :: x6 :: x7 :: x8 :: x9 :: x10 :: x11 :: x12 :: x13 :: x14 :: x15 :: x16 :: x17 :: x18 :: x19 :: x20 :: x21 :: l).set 21 y = x0 :: x1 :: x2 :: x3 :: x4 :: x5 :: x6 :: x7 :: x8 :: x9 :: x10 :: x11 :: x12 :: x13 :: x14 :: x15 :: x16 :: x17 :: x18 :: x19 :: x20 :: y :: l := rfl
@[simp] theorem get_22 {A : Type} {x0 x1 x2 x3 x4 x5 x6 x7 x8 x9 x10 x11 x12 x13 x14 x15 x16 x17 x18 x19 x20 x21 x22 : A} {l : List A} : (x0 :: x1 :: x2 :: x3 :: x4 :: x5 :: x6 :: x7 :: x8 :: x9 :: x10 :: x11 :: x12 :: x13 :: x14 :: x15 :: x16 :: x17 :: x18 :: x19 :: x20 :: x21 :: x22 :: l)[22]? = some x22 := rfl
@[simp] theorem set_22 {A : Type} {x0 x1 x2 x3 x4 x5 x6 x7 x8 x9 x10 x11 x12 x13 x14 x15 x16 x17 x18 x19 x20 x21 x22 y : A} {l : List A} : (x0 :: x1 :: x2 :: x3 :: x4 :: x5 :: x6 :: x7 :: x8 :: x9 :: x10 :: x11 :: x12 :: x13 :: x14 :: x15 :: x16 :: x17 :: x18 :: x19 :: x20 :: x21 :: x22 :: l).set 22 y = x0 :: x1 :: x2 :: x3 :: x4 :: x5 :: x6 :: x7 :: x8 :: x9 :: x10 :: x11 :: x12 :: x13 :: x14 :: x15 :: x16 :: x17 :: x18 :: x19 :: x20 :: x21 :: y :: l := rfl
@[simp] theorem get_23 {A : Type} {x0 x1 x2 x3 x4 x5 x6 x7 x8 x9 x10 x11 x12 x13 x14 x15 x16 x17 x18 x19 x20 x21 x22 x23 : A} {l : List A} : (x0 :: x1 :: x2 :: x3 :: x4 :: x5 :: x6 :: x7 :: x8 :: x9 :: x10 :: x11 :: x12 :: x13 :: x14 :: x15 :: x16 :: x17 :: x18 :: x19 :: x20 :: x21 :: x22 :: x23 :: l)[23]? = some x23 := rfl
@[simp] theorem set_23 {A : Type} {x0 x1 x2 x3 x4 x5 x6 x7 x8 x9 x10 x11 x12 x13 x14 x15 x16 x17 x18 x19 x20 x21 x22 x23 y : A} {l : List A} : (x0 :: x1 :: x2 :: x3 :: x4 :: x5 :: x6 :: x7 :: x8 :: x9 :: x10 :: x11 :: x12 :: x13 :: x14 :: x15 :: x16 :: x17 :: x18 :: x19 :: x20 :: x21 :: x22 :: x23 :: l).set 23 y = x0 :: x1 :: x2 :: x3 :: x4 :: x5 :: x6 :: x7 :: x8 :: x9 :: x10 :: x11 :: x12 :: x13 :: x14 :: x15 :: x16 :: x17 :: x18 :: x19 :: x20 :: x21 :: x22 :: y :: l := rfl
@[simp] theorem kApp_1 {s0 : Slot} {x : D} {l : Fram} (h : xs.length < 16777216) : kApp 1 (x, s0 :: .own (.list xs) :: l) = .ok (.nx, s0 :: .own (.list (xs ++ [x])) :: l) := kApp_list (e := s0 :: .own (.list xs) :: l) rfl h
@[simp] theorem kExt_1 {s0 : Slot} {l : Fram} (h : xs.length + ys.length ≤ 16777216) : kExt 1 (.list ys, s0 :: .own (.list xs) :: l) = .ok (.nx, s0 :: .own (.list (xs ++ ys)) :: l) := kExt_list (e := s0 :: .own (.list xs) :: l) rfl h
theorem setD_1 {s0 : Slot} {kvs : List (D × D)} {y x : D} {q : NestedKey} {l : Fram} (hk : key? y = some q) (h : kvs.length < LINE) : setF 1 (s0 :: .own (.dict kvs) :: l) y x = .ok (.nx, s0 :: .own (.dict (dPut kvs q y x)) :: l) := setF_dict (env := s0 :: .own (.dict kvs) :: l) rfl hk h
theorem setL_1 {s0 : Slot} {x : D} {q : Int} {p : Nat} {l : Fram} (hp : place xs.length q = some p) : setF 1 (s0 :: .own (.list xs) :: l) (.int q) x = .ok (.nx, s0 :: .own (.list (xs.set p x)) :: l) := setF_list (env := s0 :: .own (.list xs) :: l) rfl hp
@[simp] theorem kApp_2 {s0 s1 : Slot} {x : D} {l : Fram} (h : xs.length < 16777216) : kApp 2 (x, s0 :: s1 :: .own (.list xs) :: l) = .ok (.nx, s0 :: s1 :: .own (.list (xs ++ [x])) :: l) := kApp_list (e := s0 :: s1 :: .own (.list xs) :: l) rfl h
@[simp] theorem kExt_2 {s0 s1 : Slot} {l : Fram} (h : xs.length + ys.length ≤ 16777216) : kExt 2 (.list ys, s0 :: s1 :: .own (.list xs) :: l) = .ok (.nx, s0 :: s1 :: .own (.list (xs ++ ys)) :: l) := kExt_list (e := s0 :: s1 :: .own (.list xs) :: l) rfl h
theorem setD_2 {s0 s1 : Slot} {kvs : List (D × D)} {y x : D} {q : NestedKey} {l : Fram} (hk : key? y = some q) (h : kvs.length < LINE) : setF 2 (s0 :: s1 :: .own (.dict kvs) :: l) y x = .ok (.nx, s0 :: s1 :: .own (.dict (dPut kvs q y x)) :: l) := setF_dict (env := s0 :: s1 :: .own (.dict kvs) :: l) rfl hk h
theorem setL_2 {s0 s1 : Slot} {x : D} {q : Int} {p : Nat} {l : Fram} (hp : place xs.length q = some p) : setF 2 (s0 :: s1 :: .own (.list xs) :: l) (.int q) x = .ok (.nx, s0 :: s1 :: .own (.list (xs.set p x)) :: l) := setF_list (env := s0 :: s1 :: .own (.list xs) :: l) rfl hp
@[simp] theorem kApp_3 {s0 s1 s2 : Slot} {x : D} {l : Fram} (h : xs.length < 16777216) : kApp 3 (x, s0 :: s1 :: s2 :: .own (.list xs) :: l) = .ok (.nx, s0 :: s1 :: s2 :: .own (.list (xs ++ [x])) :: l) := kApp_list (e := s0 :: s1 :: s2 :: .own (.list xs) :: l) rfl h
@[simp] theorem kExt_3 {s0 s1 s2 : Slot} {l : Fram} (h : xs.length + ys.length ≤ 16777216) : kExt 3 (.list ys, s0 :: s1 :: s2 :: .own (.list xs) :: l) = .ok (.nx, s0 :: s1 :: s2 :: .own (.list (xs ++ ys)) :: l) := kExt_list (e := s0 :: s1 :: s2 :: .own (.list xs) :: l) rfl h
theorem setD_3 {s0 s1 s2 : Slot} {kvs : List (D × D)} {y x : D} {q : NestedKey} {l : Fram} (hk : key? y = some q) (h : kvs.length < LINE) : setF 3 (s0 :: s1 :: s2 :: .own (.dict kvs) :: l) y x = .ok (.nx, s0 :: s1 :: s2 :: .own (.dict (dPut kvs q y x)) :: l) := setF_dict (env := s0 :: s1 :: s2 :: .own (.dict kvs) :: l) rfl hk h
theorem setL_3 {s0 s1 s2 : Slot} {x : D} {q : Int} {p : Nat} {l : Fram} (hp : place xs.length q = some p) : setF 3 (s0 :: s1 :: s2 :: .own (.list xs) :: l) (.int q) x = .ok (.nx, s0 :: s1 :: s2 :: .own (.list (xs.set p x)) :: l) := setF_list (env := s0 :: s1 :: s2 :: .own (.list xs) :: l) rfl hp
@[simp] theorem kApp_4 {s0 s1 s2 s3 : Slot} {x : D} {l : Fram} (h : xs.length < 16777216) : kApp 4 (x, s0 :: s1 :: s2 :: s3 :: .own (.list xs) :: l) = .ok (.nx, s0 :: s1 :: s2 :: s3 :: .own (.list (xs ++ [x])) :: l) := kApp_list (e := s0 :: s1 :: s2 :: s3 :: .own (.list xs) :: l) rfl h
@[simp] theorem kExt_4 {s0 s1 s2 s3 : Slot} {l : Fram} (h : xs.length + ys.length ≤ 16777216) : kExt 4 (.list ys, s0 :: s1 :: s2 :: s3 :: .own (.list xs) :: l) = .ok (.nx, s0 :: s1 :: s2 :: s3 :: .own (.list (xs ++ ys)) :: l) := kExt_list (e := s0 :: s1 :: s2 :: s3 :: .own (.list xs) :: l) rfl h
theorem setD_4 {s0 s1 s2 s3 : Slot} {kvs : List (D × D)} {y x : D} {q : NestedKey} {l : Fram} (hk : key? y = some q) (h : kvs.length < LINE) : setF 4 (s0 :: s1 :: s2 :: s3 :: .own (.dict kvs) :: l) y x = .ok (.nx, s0 :: s1 :: s2 :: s3 :: .own (.dict (dPut kvs q y x)) :: l) := setF_dict (env := s0 :: s1 :: s2 :: s3 :: .own (.dict kvs) :: l) rfl hk h
theorem setL_4 {s0 s1 s2 s3 : Slot} {x : D} {q : Int} {p : Nat} {l : Fram} (hp : place xs.length q = some p) : setF 4 (s0 :: s1 :: s2 :: s3 :: .own (.list xs) :: l) (.int q) x = .ok (.nx, s0 :: s1 :: s2 :: s3 :: .own (.list (xs.set p x)) :: l) := setF_list (env := s0 :: s1 :: s2 :: s3 :: .own (.list xs) :: l) rfl hp
@[simp] theorem kApp_5 {s0 s1 s2 s3 s4 : Slot} {x : D} {l : Fram} (h : xs.length < 16777216) : kApp 5 (x, s0 :: s1 :: s2 :: s3 :: s4 :: .own (.list xs) :: l) = .ok (.nx, s0 :: s1 :: s2 :: s3 :: s4 :: .own (.list (xs ++ [x])) :: l) := kApp_list (e := s0 :: s1 :: s2 :: s3 :: s4 :: .own (.list xs) :: l) rfl h
@[simp] theorem kExt_5 {s0 s1 s2 s3 s4 : Slot} {l : Fram} (h : xs.length + ys.length ≤ 16777216) : kExt 5 (.list ys, s0 :: s1 :: s2 :: s3 :: s4 :: .own (.list xs) :: l) = .ok (.nx, s0 :: s1 :: s2 :: s3 :: s4 :: .own (.list (xs ++ ys)) :: l) := kExt_list (e := s0 :: s1 :: s2 :: s3 :: s4 :: .own (.list xs) :: l) rfl h
theorem setD_5 {s0 s1 s2 s3 s4 : Slot} {kvs : List (D × D)} {y x : D} {q : NestedKey} {l : Fram} (hk : key? y = some q) (h : kvs.length < LINE) : setF 5 (s0 :: s1 :: s2 :: s3 :: s4 :: .own (.dict kvs) :: l) y x = .ok (.nx, s0 :: s1 :: s2 :: s3 :: s4 :: .own (.dict (dPut kvs q y x)) :: l) := setF_dict (env := s0 :: s1 :: s2 :: s3 :: s4 :: .own (.dict kvs) :: l) rfl hk h
theorem setL_5 {s0 s1 s2 s3 s4 : Slot} {x : D} {q : Int} {p : Nat} {l : Fram} (hp : place xs.length q = some p) : setF 5 (s0 :: s1 :: s2 :: s3 :: s4 :: .own (.list xs) :: l) (.int q) x = .ok (.nx, s0 :: s1 :: s2 :: s3 :: s4 :: .own (.list (xs.set p x)) :: l) := setF_list (env := s0 :: s1 :: s2 :: s3 :: s4 :: .own (.list xs) :: l) rfl hp
@[simp] theorem kApp_6 {s0 s1 s2 s3 s4 s5 : Slot} {x : D} {l : Fram} (h : xs.length < 16777216) : kApp 6 (x, s0 :: s1 :: s2 :: s3 :: s4 :: s5 :: .own (.list xs) :: l) = .ok (.nx, s0 :: s1 :: s2 :: s3 :: s4 :: s5 :: .own (.list (xs ++ [x])) :: l) := kApp_list (e := s0 :: s1 :: s2 :: s3 :: s4 :: s5 :: .own (.list xs) :: l) rfl h
@[simp] theorem kExt_6 {s0 s1 s2 s3 s4 s5 : Slot} {l : Fram} (h : xs.length + ys.length ≤ 16777216) : kExt 6 (.list ys, s0 :: s1 :: s2 :: s3 :: s4 :: s5 :: .own (.list xs) :: l) = .ok (.nx, s0 :: s1 :: s2 :: s3 :: s4 :: s5 :: .own (.list (xs ++ ys)) :: l) := kExt_list (e := s0 :: s1 :: s2 :: s3 :: s4 :: s5 :: .own (.list xs) :: l) rfl h
theorem setD_6 {s0 s1 s2 s3 s4 s5 : Slot} {kvs : List (D × D)} {y x : D} {q : NestedKey} {l : Fram} (hk : key? y = some q) (h : kvs.length < LINE) : setF 6 (s0 :: s1 :: s2 :: s3 :: s4 :: s5 :: .own (.dict kvs) :: l) y x = .ok (.nx, s0 :: s1 :: s2 :: s3 :: s4 :: s5 :: .own (.dict (dPut kvs q y x)) :: l) := setF_dict (env := s0 :: s1 :: s2 :: s3 :: s4 :: s5 :: .own (.dict kvs) :: l) rfl hk h
theorem setL_6 {s0 s1 s2 s3 s4 s5 : Slot} {x : D} {q : Int} {p : Nat} {l : Fram} (hp : place xs.length q = some p) : setF 6 (s0 :: s1 :: s2 :: s3 :: s4 :: s5 :: .own (.list xs) :: l) (.int q) x = .ok (.nx, s0 :: s1 :: s2 :: s3 :: s4 :: s5 :: .own (.list (xs.set p x)) :: l) := setF_list (env := s0 :: s1 :: s2 :: s3 :: s4 :: s5 :: .own (.list xs) :: l) rfl hp
@[simp] theorem kApp_7 {s0 s1 s2 s3 s4 s5 s6 : Slot} {x : D} {l : Fram} (h : xs.length < 16777216) : kApp 7 (x, s0 :: s1 :: s2 :: s3 :: s4 :: s5 :: s6 :: .own (.list xs) :: l) = .ok (.nx, s0 :: s1 :: s2 :: s3 :: s4 :: s5 :: s6 :: .own (.list (xs ++ [x])) :: l) := kApp_list (e := s0 :: s1 :: s2 :: s3 :: s4 :: s5 :: s6 :: .own (.list xs) :: l) rfl h
@[simp] theorem kExt_7 {s0 s1 s2 s3 s4 s5 s6 : Slot} {l : Fram} (h : xs.length + ys.length ≤ 16777216) : kExt 7 (.list ys, s0 :: s1 :: s2 :: s3 :: s4 :: s5 :: s6 :: .own (.list xs) :: l) = .ok (.nx, s0 :: s1 :: s2 :: s3 :: s4 :: s5 :: s6 :: .own (.list (xs ++ ys)) :: l) := kExt_list (e := s0 :: s1 :: s2 :: s3 :: s4 :: s5 :: s6 :: .own (.list xs) :: l) rfl h
theorem setD_7 {s0 s1 s2 s3 s4 s5 s6 : Slot} {kvs : List (D × D)} {y x : D} {q : NestedKey} {l : Fram} (hk : key? y = some q) (h : kvs.length < LINE) : setF 7 (s0 :: s1 :: s2 :: s3 :: s4 :: s5 :: s6 :: .own (.dict kvs) :: l) y x = .ok (.nx, s0 :: s1 :: s2 :: s3 :: s4 :: s5 :: s6 :: .own (.dict (dPut kvs q y x)) :: l) := setF_dict (env := s0 :: s1 :: s2 :: s3 :: s4 :: s5 :: s6 :: .own (.dict kvs) :: l) rfl hk h
theorem setL_7 {s0 s1 s2 s3 s4 s5 s6 : Slot} {x : D} {q : Int} {p : Nat} {l : Fram} (hp : place xs.length q = some p) : setF 7 (s0 :: s1 :: s2 :: s3 :: s4 :: s5 :: s6 :: .own (.list xs) :: l) (.int q) x = .ok (.nx, s0 :: s1 :: s2 :: s3 :: s4 :: s5 :: s6 :: .own (.list (xs.set p x)) :: l) := setF_list (env := s0 :: s1 :: s2 :: s3 :: s4 :: s5 :: s6 :: .own (.list xs) :: l) rfl hp
@[simp] theorem kApp_8 {s0 s1 s2 s3 s4 s5 s6 s7 : Slot} {x : D} {l : Fram} (h : xs.length < 16777216) : kApp 8 (x, s0 :: s1 :: s2 :: s3 :: s4 :: s5 :: s6 :: s7 :: .own (.list xs) :: l) = .ok (.nx, s0 :: s1 :: s2 :: s3 :: s4 :: s5 :: s6 :: s7 :: .own (.list (xs ++ [x])) :: l) := kApp_list (e := s0 :: s1 :: s2 :: s3 :: s4 :: s5 :: s6 :: s7 :: .own (.list xs) :: l) rfl h
@[simp] theorem kExt_8 {s0 s1 s2 s3 s4 s5 s6 s7 : Slot} {l : Fram} (h : xs.length + ys.length ≤ 16777216) : kExt 8 (.list ys, s0 :: s1 :: s2 :: s3 :: s4 :: s5 :: s6 :: s7 :: .own (.list xs) :: l) = .ok (.nx, s0 :: s1 :: s2 :: s3 :: s4 :: s5 :: s6 :: s7 :: .own (.list (xs ++ ys)) :: l) := kExt_list (e := s0 :: s1 :: s2 :: s3 :: s4 :: s5 :: s6 :: s7 :: .own (.list xs) :: l) rfl h
theorem setD_8 {s0 s1 s2 s3 s4 s5 s6 s7 : Slot} {kvs : List (D × D)} {y x : D} {q : NestedKey} {l : Fram} (hk : key? y = some q) (h : kvs.length < LINE) : setF 8 (s0 :: s1 :: s2 :: s3 :: s4 :: s5 :: s6 :: s7 :: .own (.dict kvs) :: l) y x = .ok (.nx, s0 :: s1 :: s2 :: s3 :: s4 :: s5 :: s6 :: s7 :: .own (.dict (dPut kvs q y x)) :: l) := setF_dict (env := s0 :: s1 :: s2 :: s3 :: s4 :: s5 :: s6 :: s7 :: .own (.dict kvs) :: l) rfl hk h
theorem setL_8 {s0 s1 s2 s3 s4 s5 s6 s7 : Slot} {x : D} {q : Int} {p : Nat} {l : Fram} (hp : place xs.length q = some p) : setF 8 (s0 :: s1 :: s2 :: s3 :: s4 :: s5 :: s6 :: s7 :: .own (.list xs) :: l) (.int q) x = .ok (.nx, s0 :: s1 :: s2 :: s3 :: s4 :: s5 :: s6 :: s7 :: .own (.list (xs.set p x)) :: l) := setF_list (env := s0 :: s1 :: s2 :: s3 :: s4 :: s5 :: s6 :: s7 :: .own (.list xs) :: l) rfl hp
@[simp] theorem kApp_9 {s0 s1 s2 s3 s4 s5 s6 s7 s8 : Slot} {x : D} {l : Fram} (h : xs.length < 16777216) : kApp 9 (x, s0 :: s1 :: s2 :: s3 :: s4 :: s5 :: s6 :: s7 :: s8 :: .own (.list xs) :: l) = .ok (.nx, s0 :: s1 :: s2 :: s3 :: s4 :: s5 :: s6 :: s7 :: s8 :: .own (.list (xs ++ [x])) :: l) := kApp_list (e := s0 :: s1 :: s2 :: s3 :: s4 :: s5 :: s6 :: s7 :: s8 :: .own (.list xs) :: l) rfl h
@[simp] theorem kExt_9 {s0 s1 s2 s3 s4 s5 s6 s7 s8 : Slot} {l : Fram} (h : xs.length + ys.length ≤ 16777216) : kExt 9 (.list ys, s0 :: s1 :: s2 :: s3 :: s4 :: s5 :: s6 :: s7 :: s8 :: .own (.list xs) :: l) = .ok (.nx, s0 :: s1 :: s2 :: s3 :: s4 :: s5 :: s6 :: s7 :: s8 :: .own (.list (xs ++ ys)) :: l) := kExt_list (e := s0 :: s1 :: s2 :: s3 :: s4 :: s5 :: s6 :: s7 :: s8 :: .own (.list xs) :: l) rfl h
theorem setD_9 {s0 s1 s2 s3 s4 s5 s6 s7 s8 : Slot} {kvs : List (D × D)} {y x : D} {q : NestedKey} {l : Fram} (hk : key? y = some q) (h : kvs.length < LINE) : setF 9 (s0 :: s1 :: s2 :: s3 :: s4 :: s5 :: s6 :: s7 :: s8 :: .own (.dict kvs) :: l) y x = .ok (.nx, s0 :: s1 :: s2 :: s3 :: s4 :: s5 :: s6 :: s7 :: s8 :: .own (.dict (dPut kvs q y x)) :: l) := setF_dict (env := s0 :: s1 :: s2 :: s3 :: s4 :: s5 :: s6 :: s7 :: s8 :: .own (.dict kvs) :: l) rfl hk h
theorem setL_9 {s0 s1 s2 s3 s4 s5 s6 s7 s8 : Slot} {x : D} {q : Int} {p : Nat} {l : Fram} (hp : place xs.length q = some p) : setF 9 (s0 :: s1 :: s2 :: s3 :: s4 :: s5 :: s6 :: s7 :: s8 :: .own (.list xs) :: l) (.int q) x = .ok (.nx, s0 :: s1 :: s2 :: s3 :: s4 :: s5 :: s6 :: s7 :: s8 :: .own (.list (xs.set p x)) :: l) := setF_list (env := s0 :: s1 :: s2 :: s3 :: s4 :: s5 :: s6 :: s7 :: s8 :: .own (.list xs) :: l) rfl hp
@[simp] theorem kApp_10 {s0 s1 s2 s3 s4 s5 s6 s7 s8 s9 : Slot} {x : D} {l : Fram} (h : xs.length < 16777216) : kApp 10 (x, s0 :: s1 :: s2 :: s3 :: s4 :: s5 :: s6 :: s7 :: s8 :: s9 :: .own (.list xs) :: l) = .ok (.nx, s0 :: s1 :: s2 :: s3 :: s4 :: s5 :: s6 :: s7 :: s8 :: s9 :: .own (.list (xs ++ [x])) :: l) := kApp_list (e := s0 :: s1 :: s2 :: s3 :: s4 :: s5 :: s6 :: s7 :: s8 :: s9 :: .own (.list xs) :: l) rfl h
@[simp] theorem kExt_10 {s0 s1 s2 s3 s4 s5 s6 s7 s8 s9 : Slot} {l : Fram} (h : xs.length + ys.length ≤ 16777216) : kExt 10 (.list ys, s0 :: s1 :: s2 :: s3 :: s4 :: s5 :: s6 :: s7 :: s8 :: s9 :: .own (.list xs) :: l) = .ok (.nx, s0 :: s1 :: s2 :: s3 :: s4 :: s5 :: s6 :: s7 :: s8 :: s9 :: .own (.list (xs ++ ys)) :: l) := kExt_list (e := s0 :: s1 :: s2 :: s3 :: s4 :: s5 :: s6 :: s7 :: s8 :: s9 :: .own (.list xs) :: l) rfl h
theorem setD_10 {s0 s1 s2 s3 s4 s5 s6 s7 s8 s9 : Slot} {kvs : List (D × D)} {y x : D} {q : NestedKey} {l : Fram} (hk : key? y = some q) (h : kvs.length < LINE) : setF 10 (s0 :: s1 :: s2 :: s3 :: s4 :: s5 :: s6 :: s7 :: s8 :: s9 :: .own (.dict kvs) :: l) y x = .ok (.nx, s0 :: s1 :: s2 :: s3 :: s4 :: s5 :: s6 :: s7 :: s8 :: s9 :: .own (.dict (dPut kvs q y x)) :: l) := setF_dict (env := s0 :: s1 :: s2 :: s3 :: s4 :: s5 :: s6 :: s7 :: s8 :: s9 :: .own (.dict kvs) :: l) rfl hk h
theorem setL_10 {s0 s1 s2 s3 s4 s5 s6 s7 s8 s9 : Slot} {x : D} {q : Int} {p : Nat} {l : Fram} (hp : place xs.length q = some p) : setF 10 (s0 :: s1 :: s2 :: s3 :: s4 :: s5 :: s6 :: s7 :: s8 :: s9 :: .own (.list xs) :: l) (.int q) x = .ok (.nx, s0 :: s1 :: s2 :: s3 :: s4 :: s5 :: s6 :: s7 :: s8 :: s9 :: .own (.list (xs.set p x)) :: l) := setF_list (env := s0 :: s1 :: s2 :: s3 :: s4 :: s5 :: s6 :: s7 :: s8 :: s9 :: .own (.list xs) :: l) rfl hp
@[simp] theorem kApp_11 {s0 s1 s2 s3 s4 s5 s6 s7 s8 s9 s10 : Slot} {x : D} {l : Fram} (h : xs.length < 16777216) : kApp 11 (x, s0 :: s1 :: s2 :: s3 :: s4 :: s5 :: s6 :: s7 :: s8 :: s9 :: s10 :: .own (.list xs) :: l) = .ok (.nx, s0 :: s1 :: s2 :: s3 :: s4 :: s5 :: s6 :: s7 :: s8 :: s9 :: s10 :: .own (.list (xs ++ [x])) :: l) := kApp_list (e := s0 :: s1 :: s2 :: s3 :: s4 :: s5 :: s6 :: s7 :: s8 :: s9 :: s10 :: .own (.list xs) :: l) rfl h
@[simp] theorem kExt_11 {s0 s1 s2 s3 s4 s5 s6 s7 s8 s9 s10 : Slot} {l : Fram} (h : xs.length + ys.length ≤ 16777216) : kExt 11 (.list ys, s0 :: s1 :: s2 :: s3 :: s4 :: s5 :: s6 :: s7 :: s8 :: s9 :: s10 :: .own (.list xs) :: l) = .ok (.nx, s0 :: s1 :: s2 :: s3 :: s4 :: s5 :: s6 :: s7 :: s8 :: s9 :: s10 :: .own (.list (xs ++ ys)) :: l) := kExt_list (e := s0 :: s1 :: s2 :: s3 :: s4 :: s5 :: s6 :: s7 :: s8 :: s9 :: s10 :: .own (.list xs) :: l) rfl h
theorem setD_11 {s0 s1 s2 s3 s4 s5 s6 s7 s8 s9 s10 : Slot} {kvs : List (D × D)} {y x : D} {q : NestedKey} {l : Fram} (hk : key? y = some q) (h : kvs.length < LINE) : setF 11 (s0 :: s1 :: s2 :: s3 :: s4 :: s5 :: s6 :: s7 :: s8 :: s9 :: s10 :: .own (.dict kvs) :: l) y x = .ok (.nx, s0 :: s1 :: s2 :: s3 :: s4 :: s5 :: s6 :: s7 :: s8 :: s9 :: s10 :: .own (.dict (dPut kvs q y x)) :: l) := setF_dict (env := s0 :: s1 :: s2 :: s3 :: s4 :: s5 :: s6 :: s7 :: s8 :: s9 :: s10 :: .own (.dict kvs) :: l) rfl hk h
theorem setL_11 {s0 s1 s2 s3 s4 s5 s6 s7 s8 s9 s10 : Slot} {x : D} {q : Int} {p : Nat} {l : Fram} (hp : place xs.length q = some p) : setF 11 (s0 :: s1 :: s2 :: s3 :: s4 :: s5 :: s6 :: s7 :: s8 :: s9 :: s10 :: .own (.list xs) :: l) (.int q) x = .ok (.nx, s0 :: s1 :: s2 :: s3 :: s4 :: s5 :: s6 :: s7 :: s8 :: s9 :: s10 :: .own (.list (xs.set p x)) :: l) := setF_list (env := s0 :: s1 :: s2 :: s3 :: s4 :: s5 :: s6 :: s7 :: s8 :: s9 :: s10 :: .own (.list xs) :: l) rfl hp
@[simp] theorem kApp_12 {s0 s1 s2 s3 s4 s5 s6 s7 s8 s9 s10 s11 : Slot} {x : D} {l : Fram} (h : xs.length < 16777216) : kApp 12 (x, s0 :: s1 :: s2 :: s3 :: s4 :: s5 :: s6 :: s7 :: s8 :: s9 :: s10 :: s11 :: .own (.list xs) :: l) = .ok (.nx, s0 :: s1 :: s2 :: s3 :: s4 :: s5 :: s6 :: s7 :: s8 :: s9 :: s10 :: s11 :: .own (.list (xs ++ [x])) :: l) := kApp_list (e := s0 :: s1 :: s2 :: s3 :: s4 :: s5 :: s6 :: s7 :: s8 :: s9 :: s10 :: s11 :: .own (.list xs) :: l) rfl h
@[simp] theorem kExt_12 {s0 s1 s2 s3 s4 s5 s6 s7 s8 s9 s10 s11 : Slot} {l : Fram} (h : xs.length + ys.length ≤ 16777216) : kExt 12 (.list ys, s0 :: s1 :: s2 :: s3 :: s4 :: s5 :: s6 :: s7 :: s8 :: s9 :: s10 :: s11 :: .own (.list xs) :: l) = .ok (.nx, s0 :: s1 :: s2 :: s3 :: s4 :: s5 :: s6 :: s7 :: s8 :: s9 :: s10 :: s11 :: .own (.list (xs ++ ys)) :: l) := kExt_list (e := s0 :: s1 :: s2 :: s3 :: s4 :: s5 :: s6 :: s7 :: s8 :: s9 :: s10 :: s11 :: .own (.list xs) :: l) rfl h
theorem setD_12 {s0 s1 s2 s3 s4 s5 s6 s7 s8 s9 s10 s11 : Slot} {kvs : List (D × D)} {y x : D} {q : NestedKey} {l : Fram} (hk : key? y = some q) (h : kvs.length < LINE) : setF 12 (s0 :: s1 :: s2 :: s3 :: s4 :: s5 :: s6 :: s7 :: s8 :: s9 :: s10 :: s11 :: .own (.dict kvs) :: l) y x = .ok (.nx, s0 :: s1 :: s2 :: s3 :: s4 :: s5 :: s6 :: s7 :: s8 :: s9 :: s10 :: s11 :: .own (.dict (dPut kvs q y x)) :: l) := setF_dict (env := s0 :: s1 :: s2 :: s3 :: s4 :: s5 :: s6 :: s7 :: s8 :: s9 :: s10 :: s11 :: .own (.dict kvs) :: l) rfl hk h
theorem setL_12 {s0 s1 s2 s3 s4 s5 s6 s7 s8 s9 s10 s11 : Slot} {x : D} {q : Int} {p : Nat} {l : Fram} (hp : place xs.length q = some p) : setF 12 (s0 :: s1 :: s2 :: s3 :: s4 :: s5 :: s6 :: s7 :: s8 :: s9 :: s10 :: s11 :: .own (.list xs) :: l) (.int q) x = .ok (.nx, s0 :: s1 :: s2 :: s3 :: s4 :: s5 :: s6 :: s7 :: s8 :: s9 :: s10 :: s11 :: .own (.list (xs.set p x)) :: l) := setF_list (env := s0 :: s1 :: s2 :: s3 :: s4 :: s5 :: s6 :: s7 :: s8 :: s9 :: s10 :: s11 :: .own (.list xs) :: l) rfl hp
@[simp] theorem kApp_13 {s0 s1 s2 s3 s4 s5 s6 s7 s8 s9 s10 s11 s12 : Slot} {x : D} {l : Fram} (h : xs.length < 16777216) : kApp 13 (x, s0 :: s1 :: s2 :: s3 :: s4 :: s5 :: s6 :: s7 :: s8 :: s9 :: s10 :: s11 :: s12 :: .own (.list xs) :: l) = .ok (.nx, s0 :: s1 :: s2 :: s3 :: s4 :: s5 :: s6 :: s7 :: s8 :: s9 :: s10 :: s11 :: s12 :: .own (.list (xs ++ [x])) :: l) := kApp_list (e := s0 :: s1 :: s2 :: s3 :: s4 :: s5 :: s6 :: s7 :: s8 :: s9 :: s10 :: s11 :: s12 :: .own (.list xs) :: l) rfl h
@[simp] theorem kExt_13 {s0 s1 s2 s3 s4 s5 s6 s7 s8 s9 s10 s11 s12 : Slot} {l : Fram} (h : xs.length + ys.length ≤ 16777216) : kExt 13 (.list ys, s0 :: s1 :: s2 :: s3 :: s4 :: s5 :: s6 :: s7 :: s8 :: s9 :: s10 :: s11 :: s12 :: .own (.list xs) :: l) = .ok (.nx, s0 :: s1 :: s2 :: s3 :: s4 :: s5 :: s6 :: s7 :: s8 :: s9 :: s10 :: s11 :: s12 :: .own (.list (xs ++ ys)) :: l) := kExt_list (e := s0 :: s1 :: s2 :: s3 :: s4 :: s5 :: s6 :: s7 :: s8 :: s9 :: s10 :: s11 :: s12 :: .own (.list xs) :: l) rfl h
theorem setD_13 {s0 s1 s2 s3 s4 s5 s6 s7 s8 s9 s10 s11 s12 : Slot} {kvs : List (D × D)} {y x : D} {q : NestedKey} {l : Fram} (hk : key? y = some q) (h : kvs.length < LINE) : setF 13 (s0 :: s1 :: s2 :: s3 :: s4 :: s5 :: s6 :: s7 :: s8 :: s9 :: s10 :: s11 :: s12 :: .own (.dict kvs) :: l) y x = .ok (.nx, s0 :: s1 :: s2 :: s3 :: s4 :: s5 :: s6 :: s7 :: s8 :: s9 :: s10 :: s11 :: s12 :: .own (.dict (dPut kvs q y x)) :: l) := setF_dict (env := s0 :: s1 :: s2 :: s3 :: s4 :: s5 :: s6 :: s7 :: s8 :: s9 :: s10 :: s11 :: s12 :: .own (.dict kvs) :: l) rfl hk h
theorem setL_13 {s0 s1 s2 s3 s4 s5 s6 s7 s8 s9 s10 s11 s12 : Slot} {x : D} {q : Int} {p : Nat} {l : Fram} (hp : place xs.length q = some p) : setF 13 (s0 :: s1 :: s2 :: s3 :: s4 :: s5 :: s6 :: s7 :: s8 :: s9 :: s10 :: s11 :: s12 :: .own (.list xs) :: l) (.int q) x = .ok (.nx, s0 :: s1 :: s2 :: s3 :: s4 :: s5 :: s6 :: s7 :: s8 :: s9 :: s10 :: s11 :: s12 :: .own (.list (xs.set p x)) :: l) := setF_list (env := s0 :: s1 :: s2 :: s3 :: s4 :: s5 :: s6 :: s7 :: s8 :: s9 :: s10 :: s11 :: s12 :: .own (.list xs) :: l) rfl hp
@[simp] theorem kApp_14 {s0 s1 s2 s3 s4 s5 s6 s7 s8 s9 s10 s11 s12 s13 : Slot} {x : D} {l : Fram} (h : xs.length < 16777216) : kApp 14 (x, s0 :: s1 :: s2 :: s3 :: s4 :: s5 :: s6 :: s7 :: s8 :: s9 :: s10 :: s11 :: s12 :: s13 :: .own (.list xs) :: l) = .ok (.nx, s0 :: s1 :: s2 :: s3 :: s4 :: s5 :: s6 :: s7 :: s8 :: s9 :: s10 :: s11 :: s12 :: s13 :: .own (.list (xs ++ [x])) :: l) := kApp_list (e := s0 :: s1 :: s2 :: s3 :: s4 :: s5 :: s6 :: s7 :: s8 :: s9 :: s10 :: s11 :: s12 :: s13 :: .own (.list xs) :: l) rfl h
@[simp] theorem kExt_14 {s0 s1 s2 s3 s4 s5 s6 s7 s8 s9 s10 s11 s12 s13 : Slot} {l : Fram} (h : xs.length + ys.length ≤ 16777216) : kExt 14 (.list ys, s0 :: s1 :: s2 :: s3 :: s4 :: s5 :: s6 :: s7 :: s8 :: s9 :: s10 :: s11 :: s12 :: s13 :: .own (.list xs) :: l) = .ok (.nx, s0 :: s1 :: s2 :: s3 :: s4 :: s5 :: s6 :: s7 :: s8 :: s9 :: s10 :: s11 :: s12 :: s13 :: .own (.list (xs ++ ys)) :: l) := kExt_list (e := s0 :: s1 :: s2 :: s3 :: s4 :: s5 :: s6 :: s7 :: s8 :: s9 :: s10 :: s11 :: s12 :: s13 :: .own (.list xs) :: l) rfl h
theorem setD_14 {s0 s1 s2 s3 s4 s5 s6 s7 s8 s9 s10 s11 s12 s13 : Slot} {kvs : List (D × D)} {y x : D} {q : NestedKey} {l : Fram} (hk : key? y = some q) (h : kvs.length < LINE) : setF 14 (s0 :: s1 :: s2 :: s3 :: s4 :: s5 :: s6 :: s7 :: s8 :: s9 :: s10 :: s11 :: s12 :: s13 :: .own (.dict kvs) :: l) y x = .ok (.nx, s0 :: s1 :: s2 :: s3 :: s4 :: s5 :: s6 :: s7 :: s8 :: s9 :: s10 :: s11 :: s12 :: s13 :: .own (.dict (dPut kvs q y x)) :: l) := setF_dict (env := s0 :: s1 :: s2 :: s3 :: s4 :: s5 :: s6 :: s7 :: s8 :: s9 :: s10 :: s11 :: s12 :: s13 :: .own (.dict kvs) :: l) rfl hk h
theorem setL_14 {s0 s1 s2 s3 s4 s5 s6 s7 s8 s9 s10 s11 s12 s13 : Slot} {x : D} {q : Int} {p : Nat} {l : Fram} (hp : place xs.length q = some p) : setF 14 (s0 :: s1 :: s2 :: s3 :: s4 :: s5 :: s6 :: s7 :: s8 :: s9 :: s10 :: s11 :: s12 :: s13 :: .own (.list xs) :: l) (.int q) x = .ok (.nx, s0 :: s1 :: s2 :: s3 :: s4 :: s5 :: s6 :: s7 :: s8 :: s9 :: s10 :: s11 :: s12 :: s13 :: .own (.list (xs.set p x)) :: l) := setF_list (env := s0 :: s1 :: s2 :: s3 :: s4 :: s5 :: s6 :: s7 :: s8 :: s9 :: s10 :: s11 :: s12 :: s13 :: .own (.list xs) :: l) rfl hp
@[simp] theorem kApp_15 {s0 s1 s2 s3 s4 s5 s6 s7 s8 s9 s10 s11 s12 s13 s14 : Slot} {x : D} {l : Fram} (h : xs.length < 16777216) : kApp 15 (x, s0 :: s1 :: s2 :: s3 :: s4 :: s5 :: s6 :: s7 :: s8 :: s9 :: s10 :: s11 :: s12 :: s13 :: s14 :: .own (.list xs) :: l) = .ok (.nx, s0 :: s1 :: s2 :: s3 :: s4 :: s5 :: s6 :: s7 :: s8 :: s9 :: s10 :: s11 :: s12 :: s13 :: s14 :: .own (.list (xs ++ [x])) :: l) := kApp_list (e := s0 :: s1 :: s2 :: s3 :: s4 :: s5 :: s6 :: s7 :: s8 :: s9 :: s10 :: s11 :: s12 :: s13 :: s14 :: .own (.list xs) :: l) rfl h
@[simp] theorem kExt_15 {s0 s1 s2 s3 s4 s5 s6 s7 s8 s9 s10 s11 s12 s13 s14 : Slot} {l : Fram} (h : xs.length + ys.length ≤ 16777216) : kExt 15 (.list ys, s0 :: s1 :: s2 :: s3 :: s4 :: s5 :: s6 :: s7 :: s8 :: s9 :: s10 :: s11 :: s12 :: s13 :: s14 :: .own (.list xs) :: l) = .ok (.nx, s0 :: s1 :: s2 :: s3 :: s4 :: s5 :: s6 :: s7 :: s8 :: s9 :: s10 :: s11 :: s12 :: s13 :: s14 :: .own (.list (xs ++ ys)) :: l) := kExt_list (e := s0 :: s1 :: s2 :: s3 :: s4 :: s5 :: s6 :: s7 :: s8 :: s9 :: s10 :: s11 :: s12 :: s13 :: s14 :: .own (.list xs) :: l) rfl h
theorem setD_15 {s0 s1 s2 s3 s4 s5 s6 s7 s8 s9 s10 s11 s12 s13 s14 : Slot} {kvs : List (D × D)} {y x : D} {q : NestedKey} {l : Fram} (hk : key? y = some q) (h : kvs.length < LINE) : setF 15 (s0 :: s1 :: s2 :: s3 :: s4 :: s5 :: s6 :: s7 :: s8 :: s9 :: s10 :: s11 :: s12 :: s13 :: s14 :: .own (.dict kvs) :: l) y x = .ok (.nx, s0 :: s1 :: s2 :: s3 :: s4 :: s5 :: s6 :: s7 :: s8 :: s9 :: s10 :: s11 :: s12 :: s13 :: s14 :: .own (.dict (dPut kvs q y x)) :: l) := setF_dict (env := s0 :: s1 :: s2 :: s3 :: s4 :: s5 :: s6 :: s7 :: s8 :: s9 :: s10 :: s11 :: s12 :: s13 :: s14 :: .own (.dict kvs) :: l) rfl hk h
theorem setL_15 {s0 s1 s2 s3 s4 s5 s6 s7 s8 s9 s10 s11 s12 s13 s14 : Slot} {x : D} {q : Int} {p : Nat} {l : Fram} (hp : place xs.length q = some p) : setF 15 (s0 :: s1 :: s2 :: s3 :: s4 :: s5 :: s6 :: s7 :: s8 :: s9 :: s10 :: s11 :: s12 :: s13 :: s14 :: .own (.list xs) :: l) (.int q) x = .ok (.nx, s0 :: s1 :: s2 :: s3 :: s4 :: s5 :: s6 :: s7 :: s8 :: s9 :: s10 :: s11 :: s12 :: s13 :: s14 :: .own (.list (xs.set p x)) :: l) := setF_list (env := s0 :: s1 :: s2 :: s3 :: s4 :: s5 :: s6 :: s7 :: s8 :: s9 :: s10 :: s11 :: s12 :: s13 :: s14 :: .own (.list xs) :: l) rfl hp
@[simp] theorem kApp_16 {s0 s1 s2 s3 s4 s5 s6 s7 s8 s9 s10 s11 s12 s13 s14 s15 : Slot} {x : D} {l : Fram} (h : xs.length < 16777216) : kApp 16 (x, s0 :: s1 :: s2 :: s3 :: s4 :: s5 :: s6 :: s7 :: s8 :: s9 :: s10 :: s11 :: s12 :: s13 :: s14 :: s15 :: .own (.list xs) :: l) = .ok (.nx, s0 :: s1 :: s2 :: s3 :: s4 :: s5 :: s6 :: s7 :: s8 :: s9 :: s10 :: s11 :: s12 :: s13 :: s14 :: s15 :: .own (.list (xs ++ [x])) :: l) := kApp_list (e := s0 :: s1 :: s2 :: s3 :: s4 :: s5 :: s6 :: s7 :: s8 :: s9 :: s10 :: s11 :: s12 :: s13 :: s14 :: s15 :: .own (.list xs) :: l) rfl h
@[simp] theorem kExt_16 {s0 s1 s2 s3 s4 s5 s6 s7 s8 s9 s10 s11 s12 s13 s14 s15 : Slot} {l : Fram} (h : xs.length + ys.length ≤ 16777216) : kExt 16 (.list ys, s0 :: s1 :: s2 :: s3 :: s4 :: s5 :: s6 :: s7 :: s8 :: s9 :: s10 :: s11 :: s12 :: s13 :: s14 :: s15 :: .own (.list xs) :: l) = .ok (.nx, s0 :: s1 :: s2 :: s3 :: s4 :: s5 :: s6 :: s7 :: s8 :: s9 :: s10 :: s11 :: s12 :: s13 :: s14 :: s15 :: .own (.list (xs ++ ys)) :: l) := kExt_list (e := s0 :: s1 :: s2 :: s3 :: s4 :: s5 :: s6 :: s7 :: s8 :: s9 :: s10 :: s11 :: s12 :: s13 :: s14 :: s15 :: .own (.list xs) :: l) rfl h
theorem setD_16 {s0 s1 s2 s3 s4 s5 s6 s7 s8 s9 s10 s11 s12 s13 s14 s15 : Slot} {kvs : List (D × D)} {y x : D} {q : NestedKey} {l : Fram} (hk : key? y = some q) (h : kvs.length < LINE) : setF 16 (s0 :: s1 :: s2 :: s3 :: s4 :: s5 :: s6 :: s7 :: s8 :: s9 :: s10 :: s11 :: s12 :: s13 :: s14 :: s15 :: .own (.dict kvs) :: l) y x = .ok (.nx, s0 :: s1 :: s2 :: s3 :: s4 :: s5 :: s6 :: s7 :: s8 :: s9 :: s10 :: s11 :: s12 :: s13 :: s14 :: s15 :: .own (.dict (dPut kvs q y x)) :: l) := setF_dict (env := s0 :: s1 :: s2 :: s3 :: s4 :: s5 :: s6 :: s7 :: s8 :: s9 :: s10 :: s11 :: s12 :: s13 :: s14 :: s15 :: .own (.dict kvs) :: l) rfl hk h
theorem setL_16 {s0 s1 s2 s3 s4 s5 s6 s7 s8 s9 s10 s11 s12 s13 s14 s15 : Slot} {x : D} {q : Int} {p : Nat} {l : Fram} (hp : place xs.length q = some p) : setF 16 (s0 :: s1 :: s2 :: s3 :: s4 :: s5 :: s6 :: s7 :: s8 :: s9 :: s10 :: s11 :: s12 :: s13 :: s14 :: s15 :: .own (.list xs) :: l) (.int q) x = .ok (.nx, s0 :: s1 :: s2 :: s3 :: s4 :: s5 :: s6 :: s7 :: s8 :: s9 :: s10 :: s11 :: s12 :: s13 :: s14 :: s15 :: .own (.list (xs.set p x)) :: l) := setF_list (env := s0 :: s1 :: s2 :: s3 :: s4 :: s5 :: s6 :: s7 :: s8 :: s9 :: s10 :: s11 :: s12 :: s13 :: s14 :: s15 :: .own (.list xs) :: l) rfl hp
@[simp] theorem kApp_17 {s0 s1 s2 s3 s4 s5 s6 s7 s8 s9 s10 s11 s12 s13 s14 s15 s16 : Slot} {x : D} {l : Fram} (h : xs.length < 16777216) : kApp 17 (x, s0 :: s1 :: s2 :: s3 :: s4 :: s5 :: s6 :: s7 :: s8 :: s9 :: s10 :: s11 :: s12 :: s13 :: s14 :: s15 :: s16 :: .own (.list xs) :: l) = .ok (.nx, s0 :: s1 :: s2 :: s3 :: s4 :: s5 :: s6 :: s7 :: s8 :: s9 :: s10 :: s11 :: s12 :: s13 :: s14 :: s15 :: s16 :: .own (.list (xs ++ [x])) :: l) := kApp_list (e := s0 :: s1 :: s2 :: s3 :: s4 :: s5 :: s6 :: s7 :: s8 :: s9 :: s10 :: s11 :: s12 :: s13 :: s14 :: s15 :: s16 :: .own (.list xs) :: l) rfl h
@[simp] theorem kExt_17 {s0 s1 s2 s3 s4 s5 s6 s7 s8 s9 s10 s11 s12 s13 s14 s15 s16 : Slot} {l : Fram} (h : xs.length + ys.length ≤ 16777216) : kExt 17 (.list ys, s0 :: s1 :: s2 :: s3 :: s4 :: s5 :: s6 :: s7 :: s8 :: s9 :: s10 :: s11 :: s12 :: s13 :: s14 :: s15 :: s16 :: .own (.list xs) :: l) = .ok (.nx, s0 :: s1 :: s2 :: s3 :: s4 :: s5 :: s6 :: s7 :: s8 :: s9 :: s10 :: s11 :: s12 :: s13 :: s14 :: s15 :: s16 :: .own (.list (xs ++ ys)) :: l) := kExt_list (e := s0 :: s1 :: s2 :: s3 :: s4 :: s5 :: s6 :: s7 :: s8 :: s9 :: s10 :: s11 :: s12 :: s13 :: s14 :: s15 :: s16 :: .own (.list xs) :: l) rfl h
theorem setD_17 {s0 s1 s2 s3 s4 s5 s6 s7 s8 s9 s10 s11 s12 s13 s14 s15 s16 : Slot} {kvs : List (D × D)} {y x : D} {q : NestedKey} {l : Fram} (hk : key? y = some q) (h : kvs.length < LINE) : setF 17 (s0 :: s1 :: s2 :: s3 :: s4 :: s5 :: s6 :: s7 :: s8 :: s9 :: s10 :: s11 :: s12 :: s13 :: s14 :: s15 :: s16 :: .own (.dict kvs) :: l) y x = .ok (.nx, s0 :: s1 :: s2 :: s3 :: s4 :: s5 :: s6 :: s7 :: s8 :: s9 :: s10 :: s11 :: s12 :: s13 :: s14 :: s15 :: s16 :: .own (.dict (dPut kvs q y x)) :: l) := setF_dict (env := s0 :: s1 :: s2 :: s3 :: s4 :: s5 :: s6 :: s7 :: s8 :: s9 :: s10 :: s11 :: s12 :: s13 :: s14 :: s15 :: s16 :: .own (.dict kvs) :: l) rfl hk h
theorem setL_17 {s0 s1 s2 s3 s4 s5 s6 s7 s8 s9 s10 s11 s12 s13 s14 s15 s16 : Slot} {x : D} {q : Int} {p : Nat} {l : Fram} (hp : place xs.length q = some p) : setF 17 (s0 :: s1 :: s2 :: s3 :: s4 :: s5 :: s6 :: s7 :: s8 :: s9 :: s10 :: s11 :: s12 :: s13 :: s14 :: s15 :: s16 :: .own (.list xs) :: l) (.int q) x = .ok (.nx, s0 :: s1 :: s2 :: s3 :: s4 :: s5 :: s6 :: s7 :: s8 :: s9 :: s10 :: s11 :: s12 :: s13 :: s14 :: s15 :: s16 :: .own (.list (xs.set p x)) :: l) := setF_list (env := s0 :: s1 :: s2 :: s3 :: s4 :: s5 :: s6 :: s7 :: s8 :: s9 :: s10 :: s11 :: s12 :: s13 :: s14 :: s15 :: s16 :: .own (.list xs) :: l) rfl hp
@[simp] theorem kApp_18 {s0 s1 s2 s3 s4 s5 s6 s7 s8 s9 s10 s11 s12 s13 s14 s15 s16 s17 : Slot} {x : D} {l : Fram} (h : xs.length < 16777216) : kApp 18 (x, s0 :: s1 :: s2 :: s3 :: s4 :: s5 :: s6 :: s7 :: s8 :: s9 :: s10 :: s11 :: s12 :: s13 :: s14 :: s15 :: s16 :: s17 :: .own (.list xs) :: l) = .ok (.nx, s0 :: s1 :: s2 :: s3 :: s4 :: s5 :: s6 :: s7 :: s8 :: s9 :: s10 :: s11 :: s12 :: s13 :: s14 :: s15 :: s16 :: s17 :: .own (.list (xs ++ [x])) :: l) := kApp_list (e := s0 :: s1 :: s2 :: s3 :: s4 :: s5 :: s6 :: s7 :: s8 :: s9 :: s10 :: s11 :: s12 :: s13 :: s14 :: s15 :: s16 :: s17 :: .own (.list xs) :: l) rfl h
@[simp] theorem kExt_18 {s0 s1 s2 s3 s4 s5 s6 s7 s8 s9 s10 s11 s12 s13 s14 s15 s16 s17 : Slot} {l : Fram} (h : xs.length + ys.length ≤ 16777216) : kExt 18 (.list ys, s0 :: s1 :: s2 :: s3 :: s4 :: s5 :: s6 :: s7 :: s8 :: s9 :: s10 :: s11 :: s12 :: s13 :: s14 :: s15 :: s16 :: s17 :: .own (.list xs) :: l) = .ok (.nx, s0 :: s1 :: s2 :: s3 :: s4 :: s5 :: s6 :: s7 :: s8 :: s9 :: s10 :: s11 :: s12 :: s13 :: s14 :: s15 :: s16 :: s17 :: .own (.list (xs ++ ys)) :: l) := kExt_list (e := s0 :: s1 :: s2 :: s3 :: s4 :: s5 :: s6 :: s7 :: s8 :: s9 :: s10 :: s11 :: s12 :: s13 :: s14 :: s15 :: s16 :: s17 :: .own (.list xs) :: l) rfl h
theorem setD_18 {s0 s1 s2 s3 s4 s5 s6 s7 s8 s9 s10 s11 s12 s13 s14 s15 s16 s17 : Slot} {kvs : List (D × D)} {y x : D} {q : NestedKey} {l : Fram} (hk : key? y = some q) (h : kvs.length < LINE) : setF 18 (s0 :: s1 :: s2 :: s3 :: s4 :: s5 :: s6 :: s7 :: s8 :: s9 :: s10 :: s11 :: s12 :: s13 :: s14 :: s15 :: s16 :: s17 :: .own (.dict kvs) :: l) y x = .ok (.nx, s0 :: s1 :: s2 :: s3 :: s4 :: s5 :: s6 :: s7 :: s8 :: s9 :: s10 :: s11 :: s12 :: s13 :: s14 :: s15 :: s16 :: s17 :: .own (.dict (dPut kvs q y x)) :: l) := setF_dict (env := s0 :: s1 :: s2 :: s3 :: s4 :: s5 :: s6 :: s7 :: s8 :: s9 :: s10 :: s11 :: s12 :: s13 :: s14 :: s15 :: s16 :: s17 :: .own (.dict kvs) :: l) rfl hk h
theorem setL_18 {s0 s1 s2 s3 s4 s5 s6 s7 s8 s9 s10 s11 s12 s13 s14 s15 s16 s17 : Slot} {x : D} {q : Int} {p : Nat} {l : Fram} (hp : place xs.length q = some p) : setF 18 (s0 :: s1 :: s2 :: s3 :: s4 :: s5 :: s6 :: s7 :: s8 :: s9 :: s10 :: s11 :: s12 :: s13 :: s14 :: s15 :: s16 :: s17 :: .own (.list xs) :: l) (.int q) x = .ok (.nx, s0 :: s1 :: s2 :: s3 :: s4 :: s5 :: s6 :: s7 :: s8 :: s9 :: s10 :: s11 :: s12 :: s13 :: s14 :: s15 :: s16 :: s17 :: .own (.list (xs.set p x)) :: l) := setF_list (env := s0 :: s1 :: s2 :: s3 :: s4 :: s5 :: s6 :: s7 :: s8 :: s9 :: s10 :: s11 :: s12 :: s13 :: s14 :: s15 :: s16 :: s17 :: .own (.list xs) :: l) rfl hp
@[simp] theorem kApp_19 {s0 s1 s2 s3 s4 s5 s6 s7 s8 s9 s10 s11 s12 s13 s14 s15 s16 s17 s18 : Slot} {x : D} {l : Fram} (h : xs.length < 16777216) : kApp 19 (x, s0 :: s1 :: s2 :: s3 :: s4 :: s5 :: s6 :: s7 :: s8 :: s9 :: s10 :: s11 :: s12 :: s13 :: s14 :: s15 :: s16 :: s17 :: s18 :: .own (.list xs) :: l) = .ok (.nx, s0 :: s1 :: s2 :: s3 :: s4 :: s5 :: s6 :: s7 :: s8 :: s9 :: s10 :: s11 :: s12 :: s13 :: s14 :: s15 :: s16 :: s17 :: s18 :: .own (.list (xs ++ [x])) :: l) := kApp_list (e := s0 :: s1 :: s2 :: s3 :: s4 :: s5 :: s6 :: s7 :: s8 :: s9 :: s10 :: s11 :: s12 :: s13 :: s14 :: s15 :: s16 :: s17 :: s18 :: .own (.list xs) :: l) rfl h
@[simp] theorem kExt_19 {s0 s1 s2 s3 s4 s5 s6 s7 s8 s9 s10 s11 s12 s13 s14 s15 s16 s17 s18 : Slot} {l : Fram} (h : xs.length + ys.length ≤ 16777216) : kExt 19 (.list ys, s0 :: s1 :: s2 :: s3 :: s4 :: s5 :: s6 :: s7 :: s8 :: s9 :: s10 :: s11 :: s12 :: s13 :: s14 :: s15 :: s16 :: s17 :: s18 :: .own (.list xs) :: l) = .ok (.nx, s0 :: s1 :: s2 :: s3 :: s4 :: s5 :: s6 :: s7 :: s8 :: s9 :: s10 :: s11 :: s12 :: s13 :: s14 :: s15 :: s16 :: s17 :: s18 :: .own (.list (xs ++ ys)) :: l) := kExt_list (e := s0 :: s1 :: s2 :: s3 :: s4 :: s5 :: s6 :: s7 :: s8 :: s9 :: s10 :: s11 :: s12 :: s13 :: s14 :: s15 :: s16 :: s17 :: s18 :: .own (.list xs) :: l) rfl h
theorem setD_19 {s0 s1 s2 s3 s4 s5 s6 s7 s8 s9 s10 s11 s12 s13 s14 s15 s16 s17 s18 : Slot} {kvs : List (D × D)} {y x : D} {q : NestedKey} {l : Fram} (hk : key? y = some q) (h : kvs.length < LINE) : setF 19 (s0 :: s1 :: s2 :: s3 :: s4 :: s5 :: s6 :: s7 :: s8 :: s9 :: s10 :: s11 :: s12 :: s13 :: s14 :: s15 :: s16 :: s17 :: s18 :: .own (.dict kvs) :: l) y x = .ok (.nx, s0 :: s1 :: s2 :: s3 :: s4 :: s5 :: s6 :: s7 :: s8 :: s9 :: s10 :: s11 :: s12 :: s13 :: s14 :: s15 :: s16 :: s17 :: s18 :: .own (.dict (dPut kvs q y x)) :: l) := setF_dict (env := s0 :: s1 :: s2 :: s3 :: s4 :: s5 :: s6 :: s7 :: s8 :: s9 :: s10 :: s11 :: s12 :: s13 :: s14 :: s15 :: s16 :: s17 :: s18 :: .own (.dict kvs) :: l) rfl hk h
theorem setL_19 {s0 s1 s2 s3 s4 s5 s6 s7 s8 s9 s10 s11 s12 s13 s14 s15 s16 s17 s18 : Slot} {x : D} {q : Int} {p : Nat} {l : Fram} (hp : place xs.length q = some p) : setF 19 (s0 :: s1 :: s2 :: s3 :: s4 :: s5 :: s6 :: s7 :: s8 :: s9 :: s10 :: s11 :: s12 :: s13 :: s14 :: s15 :: s16 :: s17 :: s18 :: .own (.list xs) :: l) (.int q) x = .ok (.nx, s0 :: s1 :: s2 :: s3 :: s4 :: s5 :: s6 :: s7 :: s8 :: s9 :: s10 :: s11 :: s12 :: s13 :: s14 :: s15 :: s16 :: s17 :: s18 :: .own (.list (xs.set p x)) :: l) := setF_list (env := s0 :: s1 :: s2 :: s3 :: s4 :: s5 :: s6 :: s7 :: s8 :: s9 :: s10 :: s11 :: s12 :: s13 :: s14 :: s15 :: s16 :: s17 :: s18 :: .own (.list xs) :: l) rfl hp
@[simp high] theorem idx_last {x : D} : idxF (.list (xs ++ [x])) (.int (-1)) = some x := by
  rw [idx_list]
  unfold at?
  rw [if_neg (by omega), if_pos (by simp; omega), show (-1 + ((xs ++ [x]).length : Int)).toNat = xs.length by simp; omega]
  simp
@[simp high] theorem idx_lastt {x : D} : idxF (.tuple (xs ++ [x])) (.int (-1)) = some x := by
  rw [idx_tuple]
  unfold at?
  rw [if_neg (by omega), if_pos (by simp; omega), show (-1 + ((xs ++ [x]).length : Int)).toNat = xs.length by simp; omega]
  simp
theorem idx_at {k : Nat} {x : D} (h : xs[k]? = some x) : idxF (.list xs) (.int k) = some x ∧ idxF (.tuple xs) (.int k) = some x := by
  rw [idx_list, idx_tuple]
  unfold at?
  rw [if_pos (by omega)]
  simp [h]
end
end PV.M
set_option Elab.async false
set_option linter.all false
set_option maxRecDepth 100000
/-! PM, part B: jars, Euclid, what is shown. -/
namespace PV.M
open PySem PV
/-! ### a jar -/
structure J where
  a : Int
  b : Int
  c : Int
def jd (j : J) : D := .list [.int j.a, .int j.b, .int j.c]
/-- a jar that was drawn from so often at most -/
structure JOk (m : Nat) (j : J) : Prop where
  a0 : 0 ≤ j.a
  b0 : 0 ≤ j.b
  b1 : j.b < 2 ^ 31
  c0 : 0 ≤ j.c
  c1 : j.c ≤ m
theorem JOk.mono {m m' : Nat} {j : J} (h : JOk m j) (le : m ≤ m') : JOk m' j := ⟨h.a0, h.b0, h.b1, h.c0, by have := h.c1; omega⟩
/-- what a def that draws hands out -/
def Dr (m : Nat) (P : D → Prop) (r : Res (D × D)) : Prop := ∃ d j, r = .ok (d, jd j) ∧ JOk m j ∧ P d
theorem Dr.mono {m m' : Nat} {P P' : D → Prop} {r : Res (D × D)} (h : Dr m P r) (le : m ≤ m') (hp : ∀ d, P d → P' d) : Dr m' P' r := by
  obtain ⟨d, j, e, ok, p⟩ := h
  exact ⟨d, j, e, ok.mono le, hp d p⟩
/-- an int from 0 on, below -/
def Below (k : Int) (d : D) : Prop := ∃ r : Int, d = .int r ∧ 0 ≤ r ∧ r < k
/-! ### Euclid -/
theorem euclid {test : Fram → Res (D × Fram)} {body : Fram → Res (Flw × Fram)} (fr : Int → Int → Fram) (ht : ∀ a b : Int, test (fr a b) = .ok (.bool (decide (0 < b)), fr a b)) (hb : ∀ a b : Int, 0 < b → body (fr a b) = .ok (.nx, fr b (a % b))) :
    ∀ (b a k : Nat), b < k → whileLoop test body k (fr a b) = .ok (.nx, fr ((Nat.gcd a b : Nat) : Int) 0) := by
  intro b
  induction b using Nat.strongRecOn with
  | ind b ih =>
    intro a k hk
    obtain ⟨k, rfl⟩ : ∃ n, k = n + 1 := ⟨k - 1, by omega⟩
    rcases Nat.eq_zero_or_pos b with rfl | hp
    · rw [whileLoop_done (e := fr a 0) (by rw [show ((0 : Nat) : Int) = 0 from rfl, ht]; rfl), Nat.gcd_zero_right]
    · have h1 : (0 : Int) < (b : Int) := by omega
      rw [whileLoop_turn (e := fr a b) (e' := fr b ((a % b : Nat) : Int)) (by rw [ht]; simp [h1]; omega) (by rw [hb _ _ h1]; simp)]
      have h2 := Nat.mod_lt a hp
      rw [ih (a % b) h2 b k (by omega), Nat.gcd_comm b, ← Nat.gcd_rec, Nat.gcd_comm]
/-! ### ranges -/
theorem rangeD_zero {j : Int} : rangeD 0 j = (List.range j.toNat).map fun (k : Nat) => PyData.int k := by
  unfold rangeD
  simp
theorem mem_rangeD {i j : Int} {x : D} (h : x ∈ rangeD i j) : ∃ k : Int, x = .int k ∧ i ≤ k ∧ k < j := by
  unfold rangeD at h
  obtain ⟨k, hk, rfl⟩ := List.mem_map.mp h
  have := List.mem_range.mp hk
  exact ⟨_, rfl, by omega, by omega⟩
theorem len_rangeD {i j : Int} : (rangeD i j).length = (j - i).toNat := by simp [rangeD]
theorem rangeD_nil {i j : Int} (h : j ≤ i) : rangeD i j = [] := by
  unfold rangeD
  rw [show (j - i).toNat = 0 by omega]
  rfl
theorem rangeD_cons {i j : Int} (h : i < j) : rangeD i j = .int i :: rangeD (i + 1) j := by
  unfold rangeD
  rw [show (j - i).toNat = (j - (i + 1)).toNat + 1 by omega, List.range_succ_eq_map, List.map_cons, List.map_map]
  congr 1
  · simp
  · apply List.map_congr_left
    intro k _
    show PyData.int (i + ((k + 1 : Nat) : Int)) = PyData.int (i + 1 + (k : Int))
    congr 1
    omega
/-! ### what is shown -/
mutual
/-- no text, no dict, ints that are not too long -/
def plain : D → Bool
  | .int i => decide (i.natAbs.log2 < 1920)
  | .none => true
  | .bool _ => true
  | .str _ => false
  | .dict _ => false
  | .list xs => plains xs
  | .tuple xs => plains xs
def plains : List D → Bool
  | [] => true
  | x :: xs => plain x && plains xs
end
mutual
theorem plain_show : ∀ d : D, plain d = true → PyData.showable d = true ∧ PyData.hasDict d = false ∧ noDict d = true ∧ PyData.leavesShort 1921 d = true
  | .int i, h => by
    have h1 : i.natAbs.log2 < 1920 := by simpa [plain] using h
    refine ⟨by simp [PyData.showable, h1], by simp [PyData.hasDict], by simp [noDict], ?_⟩
    have := PyProof.Rows.int_text_len_1921 h1
    simp only [PyData.leavesShort, decide_eq_true_eq]
    exact this
  | .none, h => ⟨by simp [PyData.showable], by simp [PyData.hasDict], by simp [noDict], rfl⟩
  | .bool _, h => ⟨by simp [PyData.showable], by simp [PyData.hasDict], by simp [noDict], rfl⟩
  | .str _, h => by simp [plain] at h
  | .dict _, h => by simp [plain] at h
  | .list xs, h => by
    obtain ⟨a, b, c, d⟩ := plains_show xs (by simpa [plain] using h)
    exact ⟨by simpa [PyData.showable] using a, by simpa [PyData.hasDict] using b, by simpa [noDict] using c, by simpa [PyData.leavesShort] using d⟩
  | .tuple xs, h => by
    obtain ⟨a, b, c, d⟩ := plains_show xs (by simpa [plain] using h)
    exact ⟨by simpa [PyData.showable] using a, by simpa [PyData.hasDict] using b, by simpa [noDict] using c, by simpa [PyData.leavesShort] using d⟩
theorem plains_show : ∀ xs : List D, plains xs = true → PyData.showableAll xs = true ∧ PyData.hasDictAll xs = false ∧ noDict.noDicts xs = true ∧ PyData.leavesShortAll 1921 xs = true
  | [], _ => ⟨rfl, rfl, rfl, rfl⟩
  | x :: xs, h => by
    simp only [plains, Bool.and_eq_true] at h
    obtain ⟨a, b, c, d⟩ := plain_show x h.1
    obtain ⟨a', b', c', d'⟩ := plains_show xs h.2
    exact ⟨by simp [PyData.showableAll, a, a'], by simp [PyData.hasDictAll, b, b'], by simp [noDict.noDicts, c, c'], by simp [PyData.leavesShortAll, d, d']⟩
end
theorem lt_of_join {sep : Str} (hs : ∀ c ∈ sep.cps.toList, c < 0x110000) {ts : List Str} (h : ∀ t ∈ ts, ∀ c ∈ t.cps.toList, c < 0x110000) : ∀ c ∈ (Str.join sep ts).cps.toList, c < 0x110000 := by
  intro c hc
  rcases (PyProof.Rows.mem_join sep c ts).mp hc with ⟨t, ht, h2⟩ | ⟨_, h2⟩
  · exact h t ht c h2
  · exact hs c h2
theorem small_ofString {s : String} (h : ((Str.ofString s).cps.toList.all fun c => decide (c < 0x110000)) = true) : ∀ c ∈ (Str.ofString s).cps.toList, c < 0x110000 := by
  intro c hc
  simpa using List.all_eq_true.mp h c hc
mutual
theorem plain_cps : ∀ d : D, plain d = true → ∀ c ∈ (PyData.shown d).cps.toList, c < 0x110000
  | .int i, h, c, hc => by
    rcases Nat.lt_or_ge c 0x110000 with q | q
    · exact q
    · exact absurd hc (PyProof.Rows.shown_int_free' (by omega) i)
  | .none, h, c, hc => by
    have e : (PyData.shown .none) = Str.ofString "None" := by rw [PyData.shown_none]
    rw [e] at hc
    exact small_ofString (by decide) c hc
  | .bool b, h, c, hc => by
    rw [PyData.shown_bool] at hc
    cases b
    · exact small_ofString (s := "False") (by decide) c hc
    · exact small_ofString (s := "True") (by decide) c hc
  | .str _, h, _, _ => by simp [plain] at h
  | .dict _, h, _, _ => by simp [plain] at h
  | .list xs, h, c, hc => by
    rw [PyData.shown_list, PyProof.Rows.mem_cps_append, PyProof.Rows.mem_cps_append, PyProof.Rows.signs_lbrack, PyProof.Rows.signs_rbrack] at hc
    have ih := plains_cps xs (by simpa [plain] using h)
    rcases hc with (hc | hc) | hc
    · have : c = 91 := by simpa using hc
      omega
    · exact lt_of_join (by rw [PyProof.Rows.signs_sep]; decide) ih c hc
    · have : c = 93 := by simpa using hc
      omega
  | .tuple xs, h, c, hc => by
    rw [PyData.shown_tuple, PyProof.Rows.mem_cps_append, PyProof.Rows.mem_cps_append, PyProof.Rows.signs_lparen] at hc
    have ih := plains_cps xs (by simpa [plain] using h)
    rcases hc with (hc | hc) | hc
    · have : c = 40 := by simpa using hc
      omega
    · exact lt_of_join (by rw [PyProof.Rows.signs_sep]; decide) ih c hc
    · split at hc
      · exact small_ofString (s := ",)") (by decide) c hc
      · exact small_ofString (s := ")") (by decide) c hc
theorem plains_cps : ∀ xs : List D, plains xs = true → ∀ t ∈ PyData.shownAll xs, ∀ c ∈ t.cps.toList, c < 0x110000
  | [], _, t, ht => by
    rw [PyData.shownAll_nil] at ht
    exact absurd ht (by simp)
  | x :: xs, h, t, ht => by
    simp only [plains, Bool.and_eq_true] at h
    rw [PyData.shownAll_cons, List.mem_cons] at ht
    rcases ht with rfl | ht
    · exact plain_cps x h.1
    · exact plains_cps xs h.2 t ht
end
theorem strOk_of {x : Str} (h : ∀ c ∈ x.cps.toList, c < 0x110000) : PyData.strOk x = true := by
  unfold PyData.strOk
  rw [Array.all_eq_true_iff_forall_mem]
  intro c hc
  simpa using h c (Array.mem_toList_iff.mpr hc)
/-- data of which the text may be made and compared -/
structure Sh (d : D) : Prop where
  one : bltF .repr [d] = some (.str d.shown)
  ok : PyData.strOk d.shown = true
theorem sh_plain {d : D} (h : plain d = true) (hd : PyData.depth d ≤ 64) (hw : PyData.weight d ≤ 8000) : Sh d := by
  obtain ⟨a, b, c, e⟩ := plain_show d h
  have l := PyData.shown_le 1921 (by decide) d e
  have hl : d.shown.length ≤ LINE := by
    have : (1921 + 2) * d.weight ≤ 1923 * 8000 := Nat.mul_le_mul (by omega) hw
    show _ ≤ 16777216
    omega
  refine ⟨?_, strOk_of (plain_cps d h)⟩
  show (if d.showable && !d.hasDict && decide (d.shown.length ≤ LINE) && decide (PyData.depth d ≤ 64) && noDict d then some (PyData.str d.shown) else none) = _
  rw [a, b, c, decide_eq_true hl, decide_eq_true hd]
  rfl
theorem cmp_shown {d : D} (h : Sh d) : cmpF .eq (.str d.shown) (.str d.shown) = some true := by
  rw [eq_str h.ok h.ok]
  simp
end PV.M
set_option Elab.async false
set_option linter.all false
set_option maxRecDepth 100000
set_option maxHeartbeats 400000
/-! PM, part C: slices, rows of ints, keys, order. -/
namespace PV.M
open PySem PV
section
variable {xs ys : List D} {i j : Nat}
/-! ### slices -/
theorem bound_nat {n d : Nat} : bound n d (some (i : Int)) = min i n := HT.sIx_nat n d i
@[simp] theorem cut_from : cut xs (some (i : Int)) none = xs.drop i := by
  unfold cut
  rw [bound_nat, show bound xs.length xs.length none = xs.length from rfl]
  rw [List.take_of_length_le (by simp)]
  rcases Nat.le_total i xs.length with h | h
  · rw [Nat.min_eq_left h]
  · rw [Nat.min_eq_right h, List.drop_of_length_le h, List.drop_of_length_le (Nat.le_refl _)]
@[simp] theorem cut_to : cut xs none (some (i : Int)) = xs.take i := by
  unfold cut
  rw [bound_nat, show bound xs.length 0 none = 0 from rfl, List.drop_zero, Nat.sub_zero]
  rcases Nat.le_total i xs.length with h | h
  · rw [Nat.min_eq_left h]
  · rw [Nat.min_eq_right h, List.take_of_length_le h, List.take_of_length_le (Nat.le_refl _)]
@[simp] theorem cut_one : cut xs (some 1) none = xs.drop 1 := cut_from (i := 1)
theorem cut_froms {k : Int} (h : 0 ≤ k) : cut xs (some k) none = xs.drop k.toNat := by
  obtain ⟨n, rfl⟩ := Int.eq_ofNat_of_zero_le h
  exact cut_from
theorem cut_tos {k : Int} (h : 0 ≤ k) : cut xs none (some k) = xs.take k.toNat := by
  obtain ⟨n, rfl⟩ := Int.eq_ofNat_of_zero_le h
  exact cut_to
/-! ### all, any, sum -/
theorem bools_map {A : Type} {f : A → Bool} : ∀ l : List A, bools? (l.map fun x => PyData.bool (f x)) = some (l.map f)
  | [] => rfl
  | x :: l => by
    rw [List.map_cons]
    show (bools? _).map _ = _
    rw [bools_map l]
    rfl
/-- all of a list, left alone by simp -/
def allB {A : Type} (f : A → Bool) (l : List A) : Bool := l.all f
def anyB {A : Type} (f : A → Bool) (l : List A) : Bool := l.any f
theorem allB_true {A : Type} {f : A → Bool} {l : List A} : allB f l = true ↔ ∀ x ∈ l, f x = true := by simp [allB]
theorem allB_nil {A : Type} {f : A → Bool} : allB f [] = true := rfl
theorem allB_cons {A : Type} {f : A → Bool} {x : A} {l : List A} : allB f (x :: l) = (f x && allB f l) := by simp [allB]
theorem anyB_true {A : Type} {f : A → Bool} {l : List A} : anyB f l = true ↔ ∃ x ∈ l, f x = true := by simp [anyB]
@[simp] theorem blt_all_map {A : Type} {f : A → Bool} {l : List A} : bltF .all [.list (l.map fun x => PyData.bool (f x))] = some (.bool (allB f l)) := by
  show (bools? _).map _ = _
  rw [bools_map]
  simp [List.all_map, allB]
@[simp] theorem blt_any_map {A : Type} {f : A → Bool} {l : List A} : bltF .any [.list (l.map fun x => PyData.bool (f x))] = some (.bool (anyB f l)) := by
  show (bools? _).map _ = _
  rw [bools_map]
  simp [List.any_map, anyB]
theorem ints_map : ∀ l : List Int, ints? (l.map .int) = some l
  | [] => rfl
  | x :: l => by
    rw [List.map_cons]
    show (ints? _).map _ = _
    rw [ints_map l]
    rfl
@[simp] theorem blt_sum_tuple {l : List Int} : bltF .sum [.tuple (l.map .int)] = some (.int l.sum) := by
  show (ints? _).map _ = _
  rw [ints_map]
  rfl
@[simp] theorem blt_sum_list {l : List Int} : bltF .sum [.list (l.map .int)] = some (.int l.sum) := by
  show (ints? _).map _ = _
  rw [ints_map]
  rfl
/-- data that are all ints -/
theorem ints_of {p : D → Bool} (hp : ∀ d, p d = true → ∃ i, d = .int i) : ∀ {l : List D}, allB p l = true → ∃ ns : List Int, l = ns.map .int
  | [], _ => ⟨[], rfl⟩
  | x :: l, h => by
    simp only [allB_cons, Bool.and_eq_true] at h
    obtain ⟨i, rfl⟩ := hp x h.1
    obtain ⟨ns, rfl⟩ := ints_of hp h.2
    exact ⟨i :: ns, rfl⟩
/-! ### zip -/
theorem zipD_eq : ∀ (as bs : List D), zipD as bs = (as.zip bs).map fun p => .tuple [p.1, p.2]
  | [], bs => by simp [zipD]
  | x :: xs, [] => by simp [zipD]
  | x :: xs, y :: ys => by simp [zipD, zipD_eq xs ys]
theorem enumD_eq : ∀ (as : List D) (k : Nat), enumD k as = (as.zipIdx k).map fun p => .tuple [.int p.2, p.1]
  | [], k => by simp [enumD]
  | x :: xs, k => by simp [enumD, enumD_eq xs (k + 1)]
theorem zip_mem {A B : Type} {as : List A} {bs : List B} {p : A × B} (h : p ∈ as.zip bs) : p.1 ∈ as ∧ p.2 ∈ bs := ⟨(List.of_mem_zip h).1, (List.of_mem_zip h).2⟩
theorem cRun_zip {Ph : CallF} {env : Fram} {elt : Exp} {tg : Tg} {cs : Exs} {own : List Nat} {as bs : List D} (g : D → D → D) (h : (own.all fun v => !isOwn env v) = true) (hl : as.length ≤ LINE)
    (ht : ∀ x ∈ as, ∀ y ∈ bs, cTurn Ph elt tg cs own (.tuple [x, y]) (wipeF env own) = .ok (some (g x y), wipeF env own)) (hr : restore (wipeF env own) env own = env) : cRun Ph elt tg cs own (zipD as bs) env = .ok (.list ((as.zip bs).map fun p => g p.1 p.2), env) := by
  rw [cRun_map1 (fun d => match d with
    | .tuple [x, y] => g x y
    | _ => .none) h (by rw [zipD_eq, List.length_map, List.length_zip]; omega) (fun x hx => ?_) hr]
  · rw [zipD_eq, List.map_map]
    rfl
  · rw [zipD_eq] at hx
    obtain ⟨p, hp, rfl⟩ := List.mem_map.mp hx
    exact ht p.1 (zip_mem hp).1 p.2 (zip_mem hp).2
theorem allB_map {A B : Type} {f : B → Bool} {g : A → B} {l : List A} : allB f (l.map g) = allB (fun x => f (g x)) l := by
  simp [allB, List.all_map]
  rfl
theorem allB_congr {A : Type} {f g : A → Bool} {l : List A} (h : ∀ x ∈ l, f x = g x) : allB f l = allB g l := by
  unfold allB
  induction l with
  | nil => rfl
  | cons x l ih => rw [List.all_cons, List.all_cons, h x (List.mem_cons_self ..), ih fun y hy => h y (List.mem_cons_of_mem _ hy)]
/-! ### order -/
theorem alikes_ints : ∀ (ms ns : List Int), PySem.W.alikeAll (ms.map .int) (ns.map .int) = true
  | [], ns => by cases ns <;> rfl
  | m :: ms, [] => rfl
  | m :: ms, n :: ns => by
    rw [List.map_cons, List.map_cons, PySem.W.alikeAll, alikes_ints ms ns]
    rfl
theorem depths_ints : ∀ ns : List Int, PyData.depthAll (ns.map .int) ≤ 1
  | [] => by simp [PyData.depthAll]
  | n :: ns => by
    have := depths_ints ns
    simp [PyData.depthAll, PyData.depth]
    omega
theorem noDicts_ints : ∀ ns : List Int, noDict.noDicts (ns.map .int) = true
  | [] => rfl
  | n :: ns => by
    rw [List.map_cons, noDict.noDicts, noDicts_ints ns]
    rfl
/-- a key: a number ahead of a row of numbers -/
def keyI (s : Int) (ns : List Int) : D := .tuple [.int s, .tuple (ns.map .int)]
theorem key_depth (s : Int) (ns : List Int) : PyData.depth (keyI s ns) ≤ 64 := by
  have := depths_ints ns
  simp [keyI, PyData.depth, PyData.depthAll]
  omega
theorem key_noDict (s : Int) (ns : List Int) : noDict (keyI s ns) = true := by
  simp [keyI, noDict, noDict.noDicts, noDicts_ints]
theorem key_alike (s t : Int) (ns ms : List Int) : PySem.W.alike (keyI s ns) (keyI t ms) = true := by
  simp [keyI, PySem.W.alike, PySem.W.alikeAll, alikes_ints]
theorem gt_key (s t : Int) (ns ms : List Int) : cmpF .gt (keyI s ns) (keyI t ms) = some (PySem.W.dataLt (keyI t ms) (keyI s ns)) := by
  show ordF (keyI s ns) (keyI t ms) _ = _
  unfold ordF
  rw [key_alike, decide_eq_true (key_depth s ns), key_noDict, key_noDict]
  rfl
end
end PV.M
set_option Elab.async false
set_option linter.all false
set_option maxRecDepth 100000
set_option maxHeartbeats 0
/-! PV: the defs of k02. -/
namespace PV.K02
open PySem PV.M
def b_is_whole : Sts :=
  (.cons (.ret (.conj (.cons (.isi (.var 0) .int) (.cons (.nott (.isi (.var 0) .bool)) .nil))))
  .nil)
def f_is_whole : Def := { name := "is_whole", params := 1, N := ["value"], br := false, fresh := false, body := b_is_whole }
def b_is_between : Sts :=
  (.cons (.ret (.conj (.cons (.call "is_whole" false (.cons (.var 0) .nil)) (.cons (.cmp2 .le .le (.var 1) (.var 0) (.var 2)) .nil))))
  .nil)
def f_is_between : Def := { name := "is_between", params := 3, N := ["value", "low", "high"], br := false, fresh := false, body := b_is_between }
def b_is_ratio : Sts :=
  (.cons (.iff (.disj (.cons (.nott (.isi (.var 0) .tuple)) (.cons (.cmp .ne (.blt .len (.cons (.var 0) .nil)) (.int 2)) (.cons (.nott (.call "is_whole" false (.cons (.idx (.var 0) (.int 0)) .nil))) (.cons (.nott (.call "is_whole" false (.cons (.idx (.var 0) (.int 1)) .nil))) .nil))))) (.cons (.ret (.bl false))
  .nil) .nil)
  (.cons (.ret (.conj (.cons (.cmp .gt (.idx (.var 0) (.int 1)) (.int 0)) (.cons (.cmp .eq (.blt .gcd (.cons (.idx (.var 0) (.int 0)) (.cons (.idx (.var 0) (.int 1)) .nil))) (.int 1)) .nil))))
  .nil))
def f_is_ratio : Def := { name := "is_ratio", params := 1, N := ["value"], br := false, fresh := false, body := b_is_ratio }
def b_is_told : Sts :=
  (.cons (.ret (.conj (.cons (.call "is_ratio" false (.cons (.var 0) .nil)) (.cons (.cmp2 .le .le (.neg (.glob "MOST_TOLD" (.int 999))) (.idx (.var 0) (.int 0)) (.glob "MOST_TOLD" (.int 999))) (.cons (.cmp .le (.idx (.var 0) (.int 1)) (.glob "MOST_TOLD" (.int 999))) .nil)))))
  .nil)
def f_is_told : Def := { name := "is_told", params := 1, N := ["value"], br := false, fresh := false, body := b_is_told }
def b_is_unknown : Sts :=
  (.cons (.iff (.disj (.cons (.nott (.isi (.var 0) .tuple)) (.cons (.cmp .ne (.blt .len (.cons (.var 0) .nil)) (.int 2)) (.cons (.nott (.isi (.idx (.var 0) (.int 0)) .str)) (.cons (.cmp .ne (.idx (.var 0) (.int 0)) (.glob "UNKNOWN" (.str "x"))) .nil))))) (.cons (.ret (.bl false))
  .nil) .nil)
  (.cons (.ret (.call "is_between" false (.cons (.idx (.var 0) (.int 1)) (.cons (.int 0) (.cons (.bin .sub (.var 1) (.int 1)) .nil)))))
  .nil))
def f_is_unknown : Def := { name := "is_unknown", params := 2, N := ["value", "many"], br := false, fresh := false, body := b_is_unknown }
def b_is_pipe : Sts :=
  (.cons (.iff (.disj (.cons (.nott (.isi (.var 0) .tuple)) (.cons (.cmp .ne (.blt .len (.cons (.var 0) .nil)) (.int 3)) (.cons (.nott (.call "is_between" false (.cons (.idx (.var 0) (.int 0)) (.cons (.int 0) (.cons (.bin .sub (.var 1) (.int 1)) .nil))))) .nil)))) (.cons (.ret (.bl false))
  .nil) .nil)
  (.cons (.iff (.conj (.cons (.cmp .notN (.idx (.var 0) (.int 1)) .non) (.cons (.disj (.cons (.nott (.call "is_between" false (.cons (.idx (.var 0) (.int 1)) (.cons (.int 0) (.cons (.bin .sub (.var 1) (.int 1)) .nil))))) (.cons (.cmp .eq (.idx (.var 0) (.int 1)) (.idx (.var 0) (.int 0))) .nil))) .nil))) (.cons (.ret (.bl false))
  .nil) .nil)
  (.cons (.ret (.disj (.cons (.call "is_told" false (.cons (.idx (.var 0) (.int 2)) .nil)) (.cons (.call "is_unknown" false (.cons (.idx (.var 0) (.int 2)) (.cons (.var 2) .nil))) .nil))))
  .nil)))
def f_is_pipe : Def := { name := "is_pipe", params := 3, N := ["value", "tanks", "unknowns"], br := false, fresh := false, body := b_is_pipe }
def x1_are_tanks : Exp :=
  (.call "is_between" false (.cons (.var 2) (.cons (.int 0) (.cons (.bin .sub (.var 1) (.int 1)) .nil))))
def x2_are_tanks : Exp :=
  (.cmp .lt (.var 3) (.var 4))
def b_are_tanks : Sts :=
  (.cons (.iff (.disj (.cons (.nott (.isi (.var 0) .tuple)) (.cons (.cmp .eq (.var 0) (.tup .nil)) (.cons (.nott (.blt .all (.cons (.comp x1_are_tanks (.name 2) (.seq (.var 0)) .nil [("each", 2)]) .nil))) .nil)))) (.cons (.ret (.bl false))
  .nil) .nil)
  (.cons (.ret (.blt .all (.cons (.comp x2_are_tanks (.tup [(.name 3), (.name 4)]) (.zip (.var 0) (.slice (.var 0) (.som (.int 1)) .non)) .nil [("one", 3), ("two", 4)]) .nil)))
  .nil))
def f_are_tanks : Def := { name := "are_tanks", params := 2, N := ["value", "tanks", "each", "one", "two"], br := false, fresh := false, body := b_are_tanks }
def x1_is_net_by : Exp :=
  (.call "is_pipe" false (.cons (.var 6) (.cons (.var 1) (.cons (.var 2) .nil))))
def b_is_net_by : Sts :=
  (.cons (.iff (.disj (.cons (.nott (.isi (.var 0) .tuple)) (.cons (.cmp .ne (.blt .len (.cons (.var 0) .nil)) (.int 5)) .nil))) (.cons (.ret (.bl false))
  .nil) .nil)
  (.cons (.unp [(.name 1), (.name 2), (.name 3), (.name 4), (.name 5)] (.var 0))
  (.cons (.iff (.disj (.cons (.nott (.call "is_between" false (.cons (.var 1) (.cons (.int 1) (.cons (.glob "MOST_TANKS" (.int 4)) .nil))))) (.cons (.nott (.call "is_between" false (.cons (.var 2) (.cons (.int 0) (.cons (.glob "MOST_UNKNOWNS" (.int 4)) .nil))))) .nil))) (.cons (.ret (.bl false))
  .nil) .nil)
  (.cons (.iff (.disj (.cons (.cmp .gt (.bin .add (.var 1) (.var 2)) (.glob "MOST_BOTH" (.int 7))) (.cons (.nott (.isi (.var 3) .tuple)) (.cons (.cmp .gt (.blt .len (.cons (.var 3) .nil)) (.glob "MOST_PIPES" (.int 12))) .nil)))) (.cons (.ret (.bl false))
  .nil) .nil)
  (.cons (.iff (.disj (.cons (.nott (.blt .all (.cons (.comp x1_is_net_by (.name 6) (.seq (.var 3)) .nil [("each", 6)]) .nil))) (.cons (.cmp .ne (.blt .lenset (.cons (.var 3) .nil)) (.blt .len (.cons (.var 3) .nil))) .nil))) (.cons (.ret (.bl false))
  .nil) .nil)
  (.cons (.ret (.conj (.cons (.call "are_tanks" false (.cons (.var 4) (.cons (.var 1) .nil))) (.cons (.call "are_tanks" false (.cons (.var 5) (.cons (.var 1) .nil))) .nil))))
  .nil))))))
def f_is_net_by : Def := { name := "is_net_by", params := 1, N := ["value", "tanks", "unknowns", "pipes", "filled", "seen", "each"], br := false, fresh := false, body := b_is_net_by }
def b_is_net : Sts :=
  (.cons (.ret (.call "is_net_by" false (.cons (.var 0) .nil)))
  .nil)
def f_is_net : Def := { name := "is_net", params := 1, N := ["value"], br := false, fresh := false, body := b_is_net }
def l1_law_jar : Sts :=
  (.cons (.set 2 (.bin .mod (.blt .int1 (.cons (.bin .add (.bin .add (.bin .mul (.var 2) (.int 52361)) (.bin .mul (.bin .mod (.blt .int1 (.cons (.var 3) .nil)) (.int 2147483399)) (.int 11))) (.int 3)) .nil)) (.int 2147483399)))
  .nil)
def b_law_jar : Sts :=
  (.cons (.set 2 (.bin .add (.int 6007) (.bin .mul (.int 9001) (.var 1))))
  (.cons (.forr (.name 3) (.seq (.slice (.var 0) .non (.som (.int 10)))) l1_law_jar)
  (.cons (.set 4 (.ite (.cmp .lt (.var 1) (.blt .len (.cons (.var 0) .nil))) (.blt .int1 (.cons (.idx (.var 0) (.var 1)) .nil)) (.int 0)))
  (.cons (.ret (.lst (.cons (.ite (.disj (.cons (.cmp .lt (.var 4) (.int 0)) (.cons (.cmp .ge (.var 4) (.bin .pow (.int 10) (.int 15))) .nil))) (.blt .abs (.cons (.var 4) .nil)) (.int 0)) (.cons (.var 2) (.cons (.int 0) .nil)))))
  .nil))))
def f_law_jar : Def := { name := "_law_jar", params := 2, N := ["script", "turn", "mixed", "cell", "own"], br := false, fresh := true, body := b_law_jar }
def b_law_dip : Sts :=
  (.cons (.iff (.cmp .gt (.idx (.var 0) (.int 0)) (.int 0)) (.cons (.jar 0 (.int 0) 2 (.blt .divmod (.cons (.idx (.var 0) (.int 0)) (.cons (.var 1) .nil))))
  (.cons (.ret (.var 2))
  .nil)) .nil)
  (.cons (.setIx 0 (.int 2) (.bin .add (.idx (.var 0) (.int 2)) (.int 1)))
  (.cons (.set 3 (.bin .mod (.blt .int1 (.cons (.bin .add (.idx (.var 0) (.int 1)) (.bin .mul (.int 28657) (.idx (.var 0) (.int 2)))) .nil)) (.int 2147483399)))
  (.cons (.setIx 0 (.int 1) (.bin .mod (.blt .int1 (.cons (.bin .add (.bin .mul (.var 3) (.bin .add (.bin .mod (.blt .int1 (.cons (.var 3) .nil)) (.int 5003)) (.int 48271))) (.bin .mul (.int 17) (.idx (.var 0) (.int 2)))) .nil)) (.int 2147483399)))
  (.cons (.ret (.bin .mod (.blt .int1 (.cons (.bin .fdiv (.idx (.var 0) (.int 1)) (.int 613)) .nil)) (.var 1)))
  .nil)))))
def f_law_dip : Def := { name := "_law_dip", params := 2, N := ["jar", "top", "figure", "stirred"], br := true, fresh := false, body := b_law_dip }
def b_law_one_of : Sts :=
  (.cons (.ret (.idx (.var 1) (.call "_law_dip" true (.cons (.var 0) (.cons (.blt .len (.cons (.var 1) .nil)) .nil)))))
  .nil)
def f_law_one_of : Def := { name := "_law_one_of", params := 2, N := ["jar", "some"], br := true, fresh := false, body := b_law_one_of }
def b_law_same : Sts :=
  (.cons (.ret (.cmp .eq (.blt .repr (.cons (.var 0) .nil)) (.blt .repr (.cons (.var 1) .nil))))
  .nil)
def f_law_same : Def := { name := "_law_same", params := 2, N := ["told", "due"], br := false, fresh := false, body := b_law_same }
def w1_law_frac : Exp :=
  (.cmp .gt (.var 3) (.int 0))
def l1_law_frac : Sts :=
  (.cons (.par [(2, false), (3, false)] (.cons (.var 3) (.cons (.bin .mod (.blt .int1 (.cons (.var 2) .nil)) (.var 3)) .nil)))
  .nil)
def b_law_frac : Sts :=
  (.cons (.par [(2, false), (3, false)] (.cons (.blt .abs (.cons (.var 0) .nil)) (.cons (.var 1) .nil)))
  (.cons (.whil w1_law_frac l1_law_frac)
  (.cons (.ret (.tup (.cons (.bin .fdiv (.var 0) (.var 2)) (.cons (.bin .fdiv (.var 1) (.var 2)) .nil))))
  .nil)))
def f_law_frac : Def := { name := "_law_frac", params := 2, N := ["top", "low", "one", "two"], br := false, fresh := false, body := b_law_frac }
def b_law_told_part : Sts :=
  (.cons (.set 1 (.call "_law_dip" true (.cons (.var 0) (.cons (.int 12) .nil))))
  (.cons (.iff (.cmp .lt (.var 1) (.int 9)) (.cons (.ret (.call "_law_one_of" true (.cons (.var 0) (.cons (.lst (.cons (.tup (.cons (.int 0) (.cons (.int 1) .nil))) (.cons (.tup (.cons (.int 1) (.cons (.int 1) .nil))) (.cons (.tup (.cons (.int 1) (.cons (.int 2) .nil))) (.cons (.tup (.cons (.int 1) (.cons (.int 3) .nil))) (.cons (.tup (.cons (.int 1) (.cons (.int 4) .nil))) (.cons (.tup (.cons (.int 2) (.cons (.int 3) .nil))) (.cons (.tup (.cons (.neg (.int 1)) (.cons (.int 2) .nil))) (.cons (.tup (.cons (.int 3) (.cons (.int 2) .nil))) (.cons (.tup (.cons (.int 1) (.cons (.int 5) .nil))) (.cons (.tup (.cons (.int 2) (.cons (.int 1) .nil))) .nil))))))))))) .nil))))
  .nil) .nil)
  (.cons (.iff (.cmp .lt (.var 1) (.int 11)) (.cons (.ret (.call "_law_frac" false (.cons (.bin .sub (.call "_law_dip" true (.cons (.var 0) (.cons (.int 25) .nil))) (.int 12)) (.cons (.bin .add (.int 1) (.call "_law_dip" true (.cons (.var 0) (.cons (.int 12) .nil)))) .nil))))
  .nil) .nil)
  (.cons (.ret (.call "_law_frac" false (.cons (.bin .sub (.call "_law_dip" true (.cons (.var 0) (.cons (.int 1999) .nil))) (.int 999)) (.cons (.bin .add (.int 1) (.call "_law_dip" true (.cons (.var 0) (.cons (.int 999) .nil)))) .nil))))
  .nil))))
def f_law_told_part : Def := { name := "_law_told_part", params := 1, N := ["jar", "way"], br := true, fresh := false, body := b_law_told_part }
def x1_law_lot : Exp :=
  (.var 3)
def t1_law_lot : Exs :=
  (.cons (.cmp .eq (.bin .band (.bin .shr (.idx (.var 0) (.int 1)) (.var 3)) (.int 1)) (.int 1)) .nil)
def b_law_lot : Sts :=
  (.cons (.set 2 (.comp x1_law_lot (.name 3) (.range1 (.var 1)) t1_law_lot [("at", 3)]))
  (.cons (.set 4 (.call "_law_dip" true (.cons (.var 0) (.cons (.var 1) .nil))))
  (.cons (.ret (.slice (.blt .tuple (.cons (.blt .sortset (.cons (.bin .add (.var 2) (.lst (.cons (.var 4) .nil))) .nil)) .nil)) .non (.som (.bin .add (.int 1) (.call "_law_dip" true (.cons (.var 0) (.cons (.var 1) .nil)))))))
  .nil)))
def f_law_lot : Def := { name := "_law_lot", params := 2, N := ["jar", "many", "found", "at", "keep"], br := true, fresh := false, body := b_law_lot }
def x1_law_net : Exp :=
  (.var 8)
def t1_law_net : Exs :=
  (.cons (.cmp .ne (.var 8) (.var 6)) .nil)
def l1_law_net : Sts :=
  (.cons (.set 6 (.call "_law_dip" true (.cons (.var 0) (.cons (.var 2) .nil))))
  (.cons (.set 7 (.bin .add (.comp x1_law_net (.name 8) (.range1 (.var 2)) t1_law_net [("at", 8)]) (.lst (.cons .non .nil))))
  (.cons (.set 9 (.ite (.conj (.cons (.cmp .gt (.var 3) (.int 0)) (.cons (.cmp .gt (.call "_law_dip" true (.cons (.var 0) (.cons (.int 3) .nil))) (.int 0)) .nil))) (.tup (.cons (.str "x") (.cons (.call "_law_dip" true (.cons (.var 0) (.cons (.var 3) .nil))) .nil))) (.call "_law_told_part" true (.cons (.var 0) .nil))))
  (.cons (.set 10 (.tup (.cons (.var 6) (.cons (.call "_law_one_of" true (.cons (.var 0) (.cons (.var 7) .nil))) (.cons (.var 9) .nil)))))
  (.cons (.set 4 (.bin .add (.var 4) (.ite (.cmp .notin (.var 10) (.var 4)) (.lst (.cons (.var 10) .nil)) (.lst .nil))))
  .nil)))))
def b_law_net : Sts :=
  (.cons (.set 2 (.call "_law_one_of" true (.cons (.var 0) (.cons (.slice (.lst (.cons (.int 1) (.cons (.int 2) (.cons (.int 2) (.cons (.int 3) (.cons (.int 3) (.cons (.int 4) .nil))))))) .non (.som (.bin .add (.var 1) (.int 2)))) .nil))))
  (.cons (.par [(3, false), (4, false)] (.cons (.call "_law_one_of" true (.cons (.var 0) (.cons (.lst (.cons (.int 0) (.cons (.int 1) (.cons (.int 1) (.cons (.int 2) (.cons (.int 2) (.cons (.int 3) (.cons (.ite (.cmp .eq (.var 2) (.int 4)) (.int 3) (.int 4)) .nil)))))))) .nil))) (.cons (.lst .nil) .nil)))
  (.cons (.forr (.name 5) (.range1 (.call "_law_one_of" true (.cons (.var 0) (.cons (.lst (.cons (.int 0) (.cons (.int 1) (.cons (.int 2) (.cons (.int 3) (.cons (.int 4) (.cons (.int 5) (.cons (.int 6) (.cons (.int 8) (.cons (.int 12) .nil)))))))))) .nil)))) l1_law_net)
  (.cons (.ret (.tup (.cons (.var 2) (.cons (.var 3) (.cons (.blt .tuple (.cons (.var 4) .nil)) (.cons (.call "_law_lot" true (.cons (.var 0) (.cons (.var 2) .nil))) (.cons (.call "_law_lot" true (.cons (.var 0) (.cons (.var 2) .nil))) .nil)))))))
  .nil))))
def f_law_net : Def := { name := "_law_net", params := 2, N := ["jar", "most", "many", "unknowns", "pipes", "turn", "start", "aims", "at", "share", "pipe"], br := true, fresh := false, body := b_law_net }
def b_law_is_whole : Sts :=
  (.cons (.ret (.conj (.cons (.isi (.var 0) .int) (.cons (.nott (.isi (.var 0) .bool)) (.cons (.cmp2 .le .le (.var 1) (.var 0) (.var 2)) .nil)))))
  .nil)
def f_law_is_whole : Def := { name := "_law_is_whole", params := 3, N := ["thing", "low", "high"], br := false, fresh := false, body := b_law_is_whole }
def b_law_is_told : Sts :=
  (.cons (.iff (.disj (.cons (.nott (.isi (.var 0) .tuple)) (.cons (.cmp .ne (.blt .len (.cons (.var 0) .nil)) (.int 2)) .nil))) (.cons (.ret (.bl false))
  .nil) .nil)
  (.cons (.iff (.disj (.cons (.nott (.call "_law_is_whole" false (.cons (.idx (.var 0) (.int 0)) (.cons (.neg (.int 999)) (.cons (.int 999) .nil))))) (.cons (.nott (.call "_law_is_whole" false (.cons (.idx (.var 0) (.int 1)) (.cons (.int 1) (.cons (.int 999) .nil))))) .nil))) (.cons (.ret (.bl false))
  .nil) .nil)
  (.cons (.ret (.cmp .eq (.call "_law_frac" false (.cons (.idx (.var 0) (.int 0)) (.cons (.idx (.var 0) (.int 1)) .nil))) (.var 0)))
  .nil)))
def f_law_is_told : Def := { name := "_law_is_told", params := 1, N := ["thing"], br := false, fresh := false, body := b_law_is_told }
def b_law_is_pipe : Sts :=
  (.cons (.iff (.disj (.cons (.nott (.isi (.var 2) .tuple)) (.cons (.cmp .ne (.blt .len (.cons (.var 2) .nil)) (.int 3)) (.cons (.nott (.call "_law_is_whole" false (.cons (.idx (.var 2) (.int 0)) (.cons (.int 0) (.cons (.bin .sub (.var 0) (.int 1)) .nil))))) .nil)))) (.cons (.ret (.bl false))
  .nil) .nil)
  (.cons (.unp [(.name 3), (.name 4), (.name 5)] (.var 2))
  (.cons (.iff (.conj (.cons (.cmp .notN (.var 4) .non) (.cons (.disj (.cons (.nott (.call "_law_is_whole" false (.cons (.var 4) (.cons (.int 0) (.cons (.bin .sub (.var 0) (.int 1)) .nil))))) (.cons (.cmp .eq (.var 4) (.var 3)) .nil))) .nil))) (.cons (.ret (.bl false))
  .nil) .nil)
  (.cons (.iff (.conj (.cons (.isi (.var 5) .tuple) (.cons (.cmp .eq (.blt .len (.cons (.var 5) .nil)) (.int 2)) (.cons (.isi (.idx (.var 5) (.int 0)) .str) .nil)))) (.cons (.ret (.conj (.cons (.cmp .eq (.idx (.var 5) (.int 0)) (.str "x")) (.cons (.call "_law_is_whole" false (.cons (.idx (.var 5) (.int 1)) (.cons (.int 0) (.cons (.bin .sub (.var 1) (.int 1)) .nil)))) .nil))))
  .nil) .nil)
  (.cons (.ret (.call "_law_is_told" false (.cons (.var 5) .nil)))
  .nil)))))
def f_law_is_pipe : Def := { name := "_law_is_pipe", params := 3, N := ["many", "unknowns", "thing", "start", "aim", "share"], br := false, fresh := false, body := b_law_is_pipe }
def x1_law_are_tanks : Exp :=
  (.call "_law_is_whole" false (.cons (.var 2) (.cons (.int 0) (.cons (.bin .sub (.var 0) (.int 1)) .nil))))
def x2_law_are_tanks : Exp :=
  (.cmp .lt (.idx (.var 1) (.var 3)) (.idx (.var 1) (.bin .add (.var 3) (.int 1))))
def b_law_are_tanks : Sts :=
  (.cons (.iff (.disj (.cons (.nott (.isi (.var 1) .tuple)) (.cons (.cmp .eq (.var 1) (.tup .nil)) (.cons (.nott (.blt .all (.cons (.comp x1_law_are_tanks (.name 2) (.seq (.var 1)) .nil [("each", 2)]) .nil))) .nil)))) (.cons (.ret (.bl false))
  .nil) .nil)
  (.cons (.ret (.blt .all (.cons (.comp x2_law_are_tanks (.name 3) (.range1 (.bin .sub (.blt .len (.cons (.var 1) .nil)) (.int 1))) .nil [("at", 3)]) .nil)))
  .nil))
def f_law_are_tanks : Def := { name := "_law_are_tanks", params := 2, N := ["many", "thing", "each", "at"], br := false, fresh := false, body := b_law_are_tanks }
def x1_law_is_net : Exp :=
  (.call "_law_is_pipe" false (.cons (.var 1) (.cons (.var 2) (.cons (.var 6) .nil))))
def x2_law_is_net : Exp :=
  (.cmp .inn (.var 6) (.slice (.var 3) .non (.som (.var 7))))
def b_law_is_net : Sts :=
  (.cons (.iff (.disj (.cons (.nott (.isi (.var 0) .tuple)) (.cons (.cmp .ne (.blt .len (.cons (.var 0) .nil)) (.int 5)) .nil))) (.cons (.ret (.bl false))
  .nil) .nil)
  (.cons (.unp [(.name 1), (.name 2), (.name 3), (.name 4), (.name 5)] (.var 0))
  (.cons (.iff (.disj (.cons (.nott (.call "_law_is_whole" false (.cons (.var 1) (.cons (.int 1) (.cons (.int 4) .nil))))) (.cons (.nott (.call "_law_is_whole" false (.cons (.var 2) (.cons (.int 0) (.cons (.int 4) .nil))))) (.cons (.cmp .gt (.bin .add (.var 1) (.var 2)) (.int 7)) .nil)))) (.cons (.ret (.bl false))
  .nil) .nil)
  (.cons (.iff (.disj (.cons (.nott (.isi (.var 3) .tuple)) (.cons (.cmp .gt (.blt .len (.cons (.var 3) .nil)) (.int 12)) .nil))) (.cons (.ret (.bl false))
  .nil) .nil)
  (.cons (.iff (.nott (.blt .all (.cons (.comp x1_law_is_net (.name 6) (.seq (.var 3)) .nil [("pipe", 6)]) .nil))) (.cons (.ret (.bl false))
  .nil) .nil)
  (.cons (.iff (.blt .any (.cons (.comp x2_law_is_net (.tup [(.name 7), (.name 6)]) (.enum (.var 3)) .nil [("at", 7), ("pipe", 6)]) .nil)) (.cons (.ret (.bl false))
  .nil) .nil)
  (.cons (.ret (.conj (.cons (.call "_law_are_tanks" false (.cons (.var 1) (.cons (.var 4) .nil))) (.cons (.call "_law_are_tanks" false (.cons (.var 1) (.cons (.var 5) .nil))) .nil))))
  .nil)))))))
def f_law_is_net : Def := { name := "_law_is_net", params := 1, N := ["thing", "many", "unknowns", "pipes", "filled", "seen", "pipe", "at"], br := false, fresh := false, body := b_law_is_net }
def b_law_odd : Sts :=
  (.cons (.set 1 (.tup (.cons .non (.cons (.bl true) (.cons (.bl false) (.cons (.int 0) (.cons (.int 1) (.cons (.int 2) (.cons (.neg (.int 1)) (.cons (.int 5) (.cons (.int 8) (.cons (.int 1000) (.cons (.bin .pow (.int 10) (.int 40)) (.cons (.str "") (.cons (.str "x") (.cons (.str "x0") (.cons (.str "out") (.cons (.tup .nil) (.cons (.tup (.cons (.int 0) .nil)) (.cons (.tup (.cons (.int 1) .nil)) (.cons (.tup (.cons (.int 0) (.cons (.int 1) .nil))) .nil)))))))))))))))))))))
  (.cons (.set 2 (.tup (.cons (.tup (.cons (.int 2) (.cons (.int 4) .nil))) (.cons (.tup (.cons (.int 1) (.cons (.int 0) .nil))) (.cons (.tup (.cons (.str "x") (.cons (.int 0) .nil))) (.cons (.tup (.cons (.str "x") (.cons (.int 9) .nil))) (.cons (.tup (.cons (.str "y") (.cons (.int 0) .nil))) (.cons (.tup (.cons (.str "x") .nil)) (.cons (.tup (.cons (.int 1000) (.cons (.int 1) .nil))) (.cons (.tup (.cons (.int 1) (.cons (.int 1000) .nil))) (.cons (.tup (.cons (.bl true) (.cons (.int 1) .nil))) (.cons (.lst .nil) (.cons .dict0 (.cons (.tup (.cons .non .nil)) .nil))))))))))))))
  (.cons (.ret (.call "_law_one_of" true (.cons (.var 0) (.cons (.bin .add (.var 1) (.var 2)) .nil))))
  .nil)))
def f_law_odd : Def := { name := "_law_odd", params := 1, N := ["jar", "some", "more"], br := true, fresh := false, body := b_law_odd }
def l1_law_bent : Sts :=
  (.cons (.iff (.disj (.cons (.nott (.isi (.var 3) .tuple)) (.cons (.cmp .eq (.var 3) (.tup .nil)) .nil))) (.cons .brk
  .nil) .nil)
  (.cons (.set 5 (.call "_law_dip" true (.cons (.var 0) (.cons (.blt .len (.cons (.var 3) .nil)) .nil))))
  (.cons (.append 2 (.tup (.cons (.var 3) (.cons (.var 5) .nil))))
  (.cons (.set 3 (.idx (.var 3) (.var 5)))
  .nil))))
def l2_law_bent : Sts :=
  (.cons (.set 3 (.bin .add (.bin .add (.slice (.var 8) .non (.som (.var 5))) (.tup (.cons (.var 3) .nil))) (.slice (.var 8) (.som (.bin .add (.var 5) (.int 1))) .non)))
  .nil)
def b_law_bent : Sts :=
  (.cons (.par [(2, true), (3, false)] (.cons (.lst .nil) (.cons (.var 1) .nil)))
  (.cons (.forr (.name 4) (.range1 (.call "_law_dip" true (.cons (.var 0) (.cons (.int 5) .nil)))) l1_law_bent)
  (.cons (.set 6 (.call "_law_dip" true (.cons (.var 0) (.cons (.int 8) .nil))))
  (.cons (.iff (.conj (.cons (.isi (.var 3) .tuple) (.cons (.cmp .lt (.var 6) (.int 5)) .nil))) (.cons (.set 3 (.idx (.tup (.cons (.blt .list (.cons (.var 3) .nil)) (.cons (.slice (.var 3) .non (.som (.neg (.int 1)))) (.cons (.bin .add (.var 3) (.slice (.var 3) .non (.som (.int 1)))) (.cons (.slice (.var 3) (.som (.int 1)) .non) (.cons (.rev (.var 3)) .nil)))))) (.var 6)))
  .nil) (.cons (.set 7 (.conj (.cons (.call "_law_is_whole" false (.cons (.var 3) (.cons (.neg (.bin .pow (.int 10) (.int 9))) (.cons (.bin .pow (.int 10) (.int 9)) .nil)))) (.cons (.cmp .lt (.var 6) (.int 4)) .nil))))
  (.cons (.set 3 (.ite (.var 7) (.bin .sub (.bin .add (.var 3) (.int 1)) (.bin .mul (.int 2) (.call "_law_dip" true (.cons (.var 0) (.cons (.int 2) .nil))))) (.call "_law_odd" true (.cons (.var 0) .nil))))
  .nil)))
  (.cons (.forr (.tup [(.name 8), (.name 5)]) (.seq (.rev (.var 2))) l2_law_bent)
  (.cons (.ret (.var 3))
  .nil))))))
def f_law_bent : Def := { name := "_law_bent", params := 2, N := ["jar", "thing", "path", "here", "turn", "at", "way", "is_small", "whole"], br := true, fresh := false, body := b_law_bent }
def x1_law_planted : Exp :=
  (.tup (.cons (.int 0) (.cons .non (.cons (.tup (.cons (.bin .add (.int 1) (.var 10)) (.cons (.int 997) .nil))) .nil))))
def b_law_planted : Sts :=
  (.cons (.unp [(.name 2), (.name 3), (.name 4), (.name 5), (.name 6)] (.var 1))
  (.cons (.par [(7, false), (8, false)] (.cons (.call "_law_dip" true (.cons (.var 0) (.cons (.int 8) .nil))) (.cons (.call "_law_dip" true (.cons (.var 0) (.cons (.int 2) .nil))) .nil)))
  (.cons (.iff (.cmp .eq (.var 7) (.int 0)) (.cons (.ret (.tup (.cons (.var 2) (.cons (.var 3) (.cons (.bin .add (.var 4) (.slice (.var 4) .non (.som (.int 1)))) (.cons (.var 5) (.cons (.var 6) .nil)))))))
  .nil) .nil)
  (.cons (.iff (.cmp .eq (.var 7) (.int 1)) (.cons (.ret (.tup (.cons (.var 2) (.cons (.var 3) (.cons (.bin .add (.slice (.var 4) .non (.som (.int 11))) (.tup (.cons (.tup (.cons (.int 0) (.cons (.ite (.cmp .eq (.var 8) (.int 1)) (.int 0) .non) (.cons (.tup (.cons (.int 7) (.cons (.int 8) .nil))) .nil)))) .nil))) (.cons (.var 5) (.cons (.var 6) .nil)))))))
  .nil) .nil)
  (.cons (.iff (.cmp .eq (.var 7) (.int 2)) (.cons (.ret (.tup (.cons (.var 2) (.cons (.var 3) (.cons (.bin .add (.slice (.var 4) .non (.som (.int 11))) (.tup (.cons (.tup (.cons (.bin .sub (.var 2) (.int 1)) (.cons .non (.cons (.tup (.cons (.str "x") (.cons (.bin .add (.bin .sub (.var 3) (.int 1)) (.var 8)) .nil))) .nil)))) .nil))) (.cons (.var 5) (.cons (.var 6) .nil)))))))
  .nil) .nil)
  (.cons (.iff (.cmp .eq (.var 7) (.int 3)) (.cons (.set 9 (.blt .tuple (.cons (.comp x1_law_planted (.name 10) (.range1 (.bin .add (.int 12) (.var 8))) .nil [("at", 10)]) .nil)))
  (.cons (.ret (.tup (.cons (.var 2) (.cons (.var 3) (.cons (.var 9) (.cons (.var 5) (.cons (.var 6) .nil)))))))
  .nil)) .nil)
  (.cons (.iff (.cmp .eq (.var 7) (.int 4)) (.cons (.ret (.tup (.cons (.bin .add (.int 3) (.var 8)) (.cons (.int 4) (.cons (.tup .nil) (.cons (.tup (.cons (.int 0) .nil)) (.cons (.tup (.cons (.int 0) (.cons (.int 1) .nil))) .nil)))))))
  .nil) .nil)
  (.cons (.iff (.cmp .eq (.var 7) (.int 5)) (.cons (.ret (.tup (.cons (.var 2) (.cons (.var 3) (.cons (.var 4) (.cons (.bin .add (.var 5) (.slice (.var 5) .non (.som (.var 8)))) (.cons (.var 6) .nil)))))))
  .nil) .nil)
  (.cons (.iff (.cmp .eq (.var 7) (.int 6)) (.cons (.ret (.tup (.cons (.var 2) (.cons (.var 3) (.cons (.var 4) (.cons (.var 5) (.cons (.blt .ranget (.cons (.bin .add (.var 2) (.var 8)) .nil)) .nil)))))))
  .nil) .nil)
  (.cons (.set 11 (.call "_law_one_of" true (.cons (.var 0) (.cons (.lst (.cons (.tup (.cons (.int 999) (.cons (.int 1) .nil))) (.cons (.tup (.cons (.int 1000) (.cons (.int 1) .nil))) (.cons (.tup (.cons (.int 1) (.cons (.int 999) .nil))) (.cons (.tup (.cons (.int 1) (.cons (.int 1000) .nil))) (.cons (.tup (.cons (.neg (.int 999)) (.cons (.int 998) .nil))) (.cons (.tup (.cons (.neg (.int 1000)) (.cons (.int 999) .nil))) (.cons (.tup (.cons (.int 2) (.cons (.int 4) .nil))) .nil)))))))) .nil))))
  (.cons (.ret (.tup (.cons (.var 2) (.cons (.var 3) (.cons (.tup (.cons (.tup (.cons (.int 0) (.cons .non (.cons (.var 11) .nil)))) .nil)) (.cons (.var 5) (.cons (.var 6) .nil)))))))
  .nil)))))))))))
def f_law_planted : Def := { name := "_law_planted", params := 2, N := ["jar", "net", "many", "unknowns", "pipes", "filled", "seen", "way", "more", "some", "at", "part"], br := true, fresh := false, body := b_law_planted }
def l1_law_right : Sts :=
  (.cons (.set 6 (.call "_law_is_net" false (.cons (.var 5) .nil)))
  (.cons (.iff (.nott (.call "_law_same" false (.cons (.lst (.cons (.call "is_net" false (.cons (.var 5) .nil)) (.cons (.callK "is_net" false .nil (.cons (.var 5) .nil) ["value"] [0]) .nil))) (.cons (.lst (.cons (.var 6) (.cons (.var 6) .nil))) .nil)))) (.cons (.ret (.bl false))
  .nil) .nil)
  .nil))
def l2_law_right : Sts :=
  (.cons (.set 2 (.call "_law_net" true (.cons (.var 0) (.cons (.int 4) .nil))))
  (.cons (.set 3 (.call "_law_bent" true (.cons (.var 0) (.cons (.var 2) .nil))))
  (.cons (.set 4 (.lst (.cons (.var 2) (.cons (.var 3) (.cons (.call "_law_bent" true (.cons (.var 0) (.cons (.var 3) .nil))) (.cons (.call "_law_odd" true (.cons (.var 0) .nil)) (.cons (.call "_law_planted" true (.cons (.var 0) (.cons (.var 2) .nil))) (.cons (.call "_law_planted" true (.cons (.var 0) (.cons (.var 2) .nil))) .nil))))))))
  (.cons (.forr (.name 5) (.seq (.bin .add (.var 4) (.lst (.cons (.call "_law_bent" true (.cons (.var 0) (.cons (.call "_law_planted" true (.cons (.var 0) (.cons (.var 2) .nil))) .nil))) .nil)))) l1_law_right)
  .nil))))
def b_law_right : Sts :=
  (.cons (.forr (.name 1) (.range1 (.int 4)) l2_law_right)
  (.cons (.ret (.bl true))
  .nil))
def f_law_right : Def := { name := "_law_right", params := 1, N := ["jar", "turn", "net", "bent", "some", "each", "due"], br := true, fresh := false, body := b_law_right }
def x1_law : Exp :=
  (.callJ "_law_right" "_law_jar" (.cons (.var 0) (.cons (.var 1) .nil)))
def b_law : Sts :=
  (.cons (.ret (.blt .all (.cons (.comp x1_law (.name 1) (.range1 (.blt .max2 (.cons (.int 2) (.cons (.blt .min2 (.cons (.blt .len (.cons (.var 0) .nil)) (.cons (.int 4) .nil))) .nil)))) .nil [("turn", 1)]) .nil)))
  .nil)
def f_law : Def := { name := "law", params := 1, N := ["script", "turn"], br := false, fresh := false, body := b_law }
def defs : List Def := [f_is_whole, f_is_between, f_is_ratio, f_is_told, f_is_unknown, f_is_pipe, f_are_tanks, f_is_net_by, f_is_net, f_law_jar, f_law_dip, f_law_one_of, f_law_same, f_law_frac, f_law_told_part, f_law_lot, f_law_net, f_law_is_whole, f_law_is_told, f_law_is_pipe, f_law_are_tanks, f_law_is_net, f_law_odd, f_law_bent, f_law_planted, f_law_right, f_law]
abbrev C (n : Nat) : CallF := callN defs WF n
@[simp] theorem fb_is_whole : f_is_whole.br = false := rfl
@[simp] theorem ff_is_whole : f_is_whole.fresh = false := rfl
theorem g_is_whole {n : Nat} {a0 : D} : C (n + 1) "is_whole" [a0] = endF f_is_whole (evSs (C n) WF false b_is_whole [.val a0]) := callN_eq (fn := f_is_whole) (by kernel_rfl) rfl
@[simp] theorem fb_is_between : f_is_between.br = false := rfl
@[simp] theorem ff_is_between : f_is_between.fresh = false := rfl
theorem g_is_between {n : Nat} {a0 a1 a2 : D} : C (n + 1) "is_between" [a0, a1, a2] = endF f_is_between (evSs (C n) WF false b_is_between [.val a0, .val a1, .val a2]) := callN_eq (fn := f_is_between) (by kernel_rfl) rfl
@[simp] theorem fb_is_ratio : f_is_ratio.br = false := rfl
@[simp] theorem ff_is_ratio : f_is_ratio.fresh = false := rfl
theorem g_is_ratio {n : Nat} {a0 : D} : C (n + 1) "is_ratio" [a0] = endF f_is_ratio (evSs (C n) WF false b_is_ratio [.val a0]) := callN_eq (fn := f_is_ratio) (by kernel_rfl) rfl
@[simp] theorem fb_is_told : f_is_told.br = false := rfl
@[simp] theorem ff_is_told : f_is_told.fresh = false := rfl
theorem g_is_told {n : Nat} {a0 : D} : C (n + 1) "is_told" [a0] = endF f_is_told (evSs (C n) WF false b_is_told [.val a0]) := callN_eq (fn := f_is_told) (by kernel_rfl) rfl
@[simp] theorem fb_is_unknown : f_is_unknown.br = false := rfl
@[simp] theorem ff_is_unknown : f_is_unknown.fresh = false := rfl
theorem g_is_unknown {n : Nat} {a0 a1 : D} : C (n + 1) "is_unknown" [a0, a1] = endF f_is_unknown (evSs (C n) WF false b_is_unknown [.val a0, .val a1]) := callN_eq (fn := f_is_unknown) (by kernel_rfl) rfl
@[simp] theorem fb_is_pipe : f_is_pipe.br = false := rfl
@[simp] theorem ff_is_pipe : f_is_pipe.fresh = false := rfl
theorem g_is_pipe {n : Nat} {a0 a1 a2 : D} : C (n + 1) "is_pipe" [a0, a1, a2] = endF f_is_pipe (evSs (C n) WF false b_is_pipe [.val a0, .val a1, .val a2]) := callN_eq (fn := f_is_pipe) (by kernel_rfl) rfl
@[simp] theorem fb_are_tanks : f_are_tanks.br = false := rfl
@[simp] theorem ff_are_tanks : f_are_tanks.fresh = false := rfl
theorem g_are_tanks {n : Nat} {a0 a1 : D} : C (n + 1) "are_tanks" [a0, a1] = endF f_are_tanks (evSs (C n) WF false b_are_tanks [.val a0, .val a1, .non, .non, .non]) := callN_eq (fn := f_are_tanks) (by kernel_rfl) rfl
@[simp] theorem fb_is_net_by : f_is_net_by.br = false := rfl
@[simp] theorem ff_is_net_by : f_is_net_by.fresh = false := rfl
theorem g_is_net_by {n : Nat} {a0 : D} : C (n + 1) "is_net_by" [a0] = endF f_is_net_by (evSs (C n) WF false b_is_net_by [.val a0, .non, .non, .non, .non, .non, .non]) := callN_eq (fn := f_is_net_by) (by kernel_rfl) rfl
@[simp] theorem fb_is_net : f_is_net.br = false := rfl
@[simp] theorem ff_is_net : f_is_net.fresh = false := rfl
theorem g_is_net {n : Nat} {a0 : D} : C (n + 1) "is_net" [a0] = endF f_is_net (evSs (C n) WF false b_is_net [.val a0]) := callN_eq (fn := f_is_net) (by kernel_rfl) rfl
@[simp] theorem fb_law_jar : f_law_jar.br = false := rfl
@[simp] theorem ff_law_jar : f_law_jar.fresh = true := rfl
theorem g_law_jar {n : Nat} {a0 a1 : D} : C (n + 1) "_law_jar" [a0, a1] = endF f_law_jar (evSs (C n) WF false b_law_jar [.val a0, .val a1, .non, .non, .non]) := callN_eq (fn := f_law_jar) (by kernel_rfl) rfl
@[simp] theorem fb_law_dip : f_law_dip.br = true := rfl
@[simp] theorem ff_law_dip : f_law_dip.fresh = false := rfl
theorem g_law_dip {n : Nat} {a0 a1 : D} : C (n + 1) "_law_dip" [a0, a1] = endF f_law_dip (evSs (C n) WF true b_law_dip [.own a0, .val a1, .non, .non]) := callN_eq (fn := f_law_dip) (by kernel_rfl) rfl
@[simp] theorem fb_law_one_of : f_law_one_of.br = true := rfl
@[simp] theorem ff_law_one_of : f_law_one_of.fresh = false := rfl
theorem g_law_one_of {n : Nat} {a0 a1 : D} : C (n + 1) "_law_one_of" [a0, a1] = endF f_law_one_of (evSs (C n) WF true b_law_one_of [.own a0, .val a1]) := callN_eq (fn := f_law_one_of) (by kernel_rfl) rfl
@[simp] theorem fb_law_same : f_law_same.br = false := rfl
@[simp] theorem ff_law_same : f_law_same.fresh = false := rfl
theorem g_law_same {n : Nat} {a0 a1 : D} : C (n + 1) "_law_same" [a0, a1] = endF f_law_same (evSs (C n) WF false b_law_same [.val a0, .val a1]) := callN_eq (fn := f_law_same) (by kernel_rfl) rfl
@[simp] theorem fb_law_frac : f_law_frac.br = false := rfl
@[simp] theorem ff_law_frac : f_law_frac.fresh = false := rfl
theorem g_law_frac {n : Nat} {a0 a1 : D} : C (n + 1) "_law_frac" [a0, a1] = endF f_law_frac (evSs (C n) WF false b_law_frac [.val a0, .val a1, .non, .non]) := callN_eq (fn := f_law_frac) (by kernel_rfl) rfl
@[simp] theorem fb_law_told_part : f_law_told_part.br = true := rfl
@[simp] theorem ff_law_told_part : f_law_told_part.fresh = false := rfl
theorem g_law_told_part {n : Nat} {a0 : D} : C (n + 1) "_law_told_part" [a0] = endF f_law_told_part (evSs (C n) WF true b_law_told_part [.own a0, .non]) := callN_eq (fn := f_law_told_part) (by kernel_rfl) rfl
@[simp] theorem fb_law_lot : f_law_lot.br = true := rfl
@[simp] theorem ff_law_lot : f_law_lot.fresh = false := rfl
theorem g_law_lot {n : Nat} {a0 a1 : D} : C (n + 1) "_law_lot" [a0, a1] = endF f_law_lot (evSs (C n) WF true b_law_lot [.own a0, .val a1, .non, .non, .non]) := callN_eq (fn := f_law_lot) (by kernel_rfl) rfl
@[simp] theorem fb_law_net : f_law_net.br = true := rfl
@[simp] theorem ff_law_net : f_law_net.fresh = false := rfl
theorem g_law_net {n : Nat} {a0 a1 : D} : C (n + 1) "_law_net" [a0, a1] = endF f_law_net (evSs (C n) WF true b_law_net [.own a0, .val a1, .non, .non, .non, .non, .non, .non, .non, .non, .non]) := callN_eq (fn := f_law_net) (by kernel_rfl) rfl
@[simp] theorem fb_law_is_whole : f_law_is_whole.br = false := rfl
@[simp] theorem ff_law_is_whole : f_law_is_whole.fresh = false := rfl
theorem g_law_is_whole {n : Nat} {a0 a1 a2 : D} : C (n + 1) "_law_is_whole" [a0, a1, a2] = endF f_law_is_whole (evSs (C n) WF false b_law_is_whole [.val a0, .val a1, .val a2]) := callN_eq (fn := f_law_is_whole) (by kernel_rfl) rfl
@[simp] theorem fb_law_is_told : f_law_is_told.br = false := rfl
@[simp] theorem ff_law_is_told : f_law_is_told.fresh = false := rfl
theorem g_law_is_told {n : Nat} {a0 : D} : C (n + 1) "_law_is_told" [a0] = endF f_law_is_told (evSs (C n) WF false b_law_is_told [.val a0]) := callN_eq (fn := f_law_is_told) (by kernel_rfl) rfl
@[simp] theorem fb_law_is_pipe : f_law_is_pipe.br = false := rfl
@[simp] theorem ff_law_is_pipe : f_law_is_pipe.fresh = false := rfl
theorem g_law_is_pipe {n : Nat} {a0 a1 a2 : D} : C (n + 1) "_law_is_pipe" [a0, a1, a2] = endF f_law_is_pipe (evSs (C n) WF false b_law_is_pipe [.val a0, .val a1, .val a2, .non, .non, .non]) := callN_eq (fn := f_law_is_pipe) (by kernel_rfl) rfl
@[simp] theorem fb_law_are_tanks : f_law_are_tanks.br = false := rfl
@[simp] theorem ff_law_are_tanks : f_law_are_tanks.fresh = false := rfl
theorem g_law_are_tanks {n : Nat} {a0 a1 : D} : C (n + 1) "_law_are_tanks" [a0, a1] = endF f_law_are_tanks (evSs (C n) WF false b_law_are_tanks [.val a0, .val a1, .non, .non]) := callN_eq (fn := f_law_are_tanks) (by kernel_rfl) rfl
@[simp] theorem fb_law_is_net : f_law_is_net.br = false := rfl
@[simp] theorem ff_law_is_net : f_law_is_net.fresh = false := rfl
theorem g_law_is_net {n : Nat} {a0 : D} : C (n + 1) "_law_is_net" [a0] = endF f_law_is_net (evSs (C n) WF false b_law_is_net [.val a0, .non, .non, .non, .non, .non, .non, .non]) := callN_eq (fn := f_law_is_net) (by kernel_rfl) rfl
@[simp] theorem fb_law_odd : f_law_odd.br = true := rfl
@[simp] theorem ff_law_odd : f_law_odd.fresh = false := rfl
theorem g_law_odd {n : Nat} {a0 : D} : C (n + 1) "_law_odd" [a0] = endF f_law_odd (evSs (C n) WF true b_law_odd [.own a0, .non, .non]) := callN_eq (fn := f_law_odd) (by kernel_rfl) rfl
@[simp] theorem fb_law_bent : f_law_bent.br = true := rfl
@[simp] theorem ff_law_bent : f_law_bent.fresh = false := rfl
theorem g_law_bent {n : Nat} {a0 a1 : D} : C (n + 1) "_law_bent" [a0, a1] = endF f_law_bent (evSs (C n) WF true b_law_bent [.own a0, .val a1, .non, .non, .non, .non, .non, .non, .non]) := callN_eq (fn := f_law_bent) (by kernel_rfl) rfl
@[simp] theorem fb_law_planted : f_law_planted.br = true := rfl
@[simp] theorem ff_law_planted : f_law_planted.fresh = false := rfl
theorem g_law_planted {n : Nat} {a0 a1 : D} : C (n + 1) "_law_planted" [a0, a1] = endF f_law_planted (evSs (C n) WF true b_law_planted [.own a0, .val a1, .non, .non, .non, .non, .non, .non, .non, .non, .non, .non]) := callN_eq (fn := f_law_planted) (by kernel_rfl) rfl
@[simp] theorem fb_law_right : f_law_right.br = true := rfl
@[simp] theorem ff_law_right : f_law_right.fresh = false := rfl
theorem g_law_right {n : Nat} {a0 : D} : C (n + 1) "_law_right" [a0] = endF f_law_right (evSs (C n) WF true b_law_right [.own a0, .non, .non, .non, .non, .non, .non]) := callN_eq (fn := f_law_right) (by kernel_rfl) rfl
@[simp] theorem fb_law : f_law.br = false := rfl
@[simp] theorem ff_law : f_law.fresh = false := rfl
theorem g_law {n : Nat} {a0 : D} : C (n + 1) "law" [a0] = endF f_law (evSs (C n) WF false b_law [.val a0, .non]) := callN_eq (fn := f_law) (by kernel_rfl) rfl
end PV.K02
set_option Elab.async false
set_option linter.all false
set_option maxRecDepth 100000
set_option maxHeartbeats 1000000
namespace PV.K02
open PySem PV.M
/-- a whole number's datum -/
def isInt : D → Bool
  | .int _ => true
  | _ => false
def isBetween (lo hi : Int) : D → Bool
  | .int i => decide (lo ≤ i) && decide (i ≤ hi)
  | _ => false
theorem e_is_whole {n : Nat} {d : D} : C (n + 1) "is_whole" [d] = .ok (.bool (isInt d), .none) := by
  rw [g_is_whole]
  cases d <;> simp [b_is_whole, isInt]
theorem e_is_between {n : Nat} {d : D} {lo hi : Int} : C (n + 2) "is_between" [d, .int lo, .int hi] = .ok (.bool (isBetween lo hi d), .none) := by
  rw [g_is_between]
  cases d <;> simp [b_is_between, e_is_whole, isInt, isBetween]
theorem e_law_is_whole {n : Nat} {d : D} {lo hi : Int} : C (n + 1) "_law_is_whole" [d, .int lo, .int hi] = .ok (.bool (isBetween lo hi d), .none) := by
  rw [g_law_is_whole]
  cases d <;> simp [b_law_is_whole, isBetween]
/-- a fraction in lowest terms -/
def isRatio : D → Bool
  | .tuple [.int a, .int b] => decide (0 < b) && decide (((Nat.gcd a.natAbs b.natAbs : Nat) : Int) = 1)
  | _ => false
theorem e_is_ratio {n : Nat} {d : D} : C (n + 2) "is_ratio" [d] = .ok (.bool (isRatio d), .none) := by
  rw [g_is_ratio]
  cases d with
  | tuple ds =>
    match ds with
    | [] => simp [b_is_ratio, isRatio]
    | [x] => simp [b_is_ratio, isRatio]
    | [x, y] =>
      cases x <;> cases y <;> simp [b_is_ratio, isRatio, e_is_whole, isInt]
      done
    | x :: y :: z :: r =>
      have h : ¬ ((r.length : Int) + 1 + 1 + 1 = 2) := by omega
      simp [b_is_ratio, isRatio, h]
  | _ => simp [b_is_ratio, isRatio]
/-- a told number -/
def isTold : D → Bool
  | .tuple [.int a, .int b] => decide (0 < b) && decide (((Nat.gcd a.natAbs b.natAbs : Nat) : Int) = 1) && decide (-999 ≤ a) && decide (a ≤ 999) && decide (b ≤ 999)
  | _ => false
theorem ratio_form {d : D} (h : isRatio d = true) : ∃ a b, d = .tuple [.int a, .int b] ∧ 0 < b ∧ Nat.gcd a.natAbs b.natAbs = 1 := by
  unfold isRatio at h
  split at h
  · rename_i a b
    simp at h
    exact ⟨a, b, rfl, h.1, by omega⟩
  · cases h
theorem told_no {d : D} (h : isRatio d = false) : isTold d = false := by
  unfold isTold
  split
  · rename_i a b
    unfold isRatio at h
    simp only at h
    rw [h]
    rfl
  · rfl
theorem e_is_told {n : Nat} {d : D} : C (n + 3) "is_told" [d] = .ok (.bool (isTold d), .none) := by
  rw [g_is_told]
  cases h : isRatio d with
  | false => simp [b_is_told, e_is_ratio, h, told_no h]
  | true =>
    obtain ⟨a, b, rfl, h1, h2⟩ := ratio_form h
    simp [b_is_told, e_is_ratio, h, isTold, h1, h2]
def isUnk (m : Int) : D → Bool
  | .tuple [.str s, y] => (s == "x") && isBetween 0 (m - 1) y
  | _ => false
end PV.K02
set_option Elab.async false
set_option linter.all false
set_option maxRecDepth 100000
set_option maxHeartbeats 1000000
namespace PV.K02
open PySem PV.M
mutual
/-- texts that may be laid, rows that are not long -/
def fine (k : Nat) : D → Bool
  | .str s => PyData.strOk s
  | .tuple xs => decide (xs.length ≤ k) && fines k xs
  | .list xs => decide (xs.length ≤ k) && fines k xs
  | _ => true
def fines (k : Nat) : List D → Bool
  | [] => true
  | x :: xs => fine k x && fines k xs
end
theorem fines_mem {k : Nat} : ∀ {xs : List D}, fines k xs = true → ∀ x ∈ xs, fine k x = true
  | [], _, x, hx => by cases hx
  | y :: ys, h, x, hx => by
    simp only [fines, Bool.and_eq_true] at h
    rcases List.mem_cons.mp hx with rfl | hx
    · exact h.1
    · exact fines_mem h.2 x hx
theorem mem_fines {k : Nat} : ∀ {xs : List D}, (∀ x ∈ xs, fine k x = true) → fines k xs = true
  | [], _ => rfl
  | y :: ys, h => by
    simp only [fines, Bool.and_eq_true]
    exact ⟨h y (List.mem_cons_self ..), mem_fines fun x hx => h x (List.mem_cons_of_mem _ hx)⟩
theorem fine_tup {k : Nat} {xs : List D} (h : fine k (.tuple xs) = true) : xs.length ≤ k ∧ ∀ x ∈ xs, fine k x = true := by
  simp only [fine, Bool.and_eq_true, decide_eq_true_eq] at h
  exact ⟨h.1, fines_mem h.2⟩
theorem tup_fine {k : Nat} {xs : List D} (h : xs.length ≤ k) (g : ∀ x ∈ xs, fine k x = true) : fine k (.tuple xs) = true := by
  simp only [fine, Bool.and_eq_true, decide_eq_true_eq]
  exact ⟨h, mem_fines g⟩
theorem strX : PyData.strOk ("x" : Str) = true := by decide +kernel
theorem ne_str {x y : Str} (hx : PyData.strOk x = true) (hy : PyData.strOk y = true) : cmpF .ne (.str x) (.str y) = some (!(x == y)) := by
  rw [ne_data (by simp [eqOk, PyData.canLay0, PyData.depth, noDict, hx]) (by simp [eqOk, PyData.canLay0, PyData.depth, noDict, hy])]
  simp [PyData.eqv]
theorem e_is_unknown {n k : Nat} {d : D} {m : Int} (hf : fine k d = true) : C (n + 3) "is_unknown" [d, .int m] = .ok (.bool (isUnk m d), .none) := by
  rw [g_is_unknown]
  cases d with
  | tuple ds =>
    match ds, hf with
    | [], _ => simp [b_is_unknown, isUnk]
    | [x], _ => simp [b_is_unknown, isUnk]
    | [x, y], hf =>
      cases x with
      | str s =>
        have hs : PyData.strOk s = true := (fine_tup hf).2 (.str s) (by simp)
        by_cases hx : s = "x" <;> simp [b_is_unknown, isUnk, ne_str hs strX, ne_str strX strX, e_is_between, hx]
      | _ => simp [b_is_unknown, isUnk]
    | x :: y :: z :: r, _ =>
      have h : ¬ ((r.length : Int) + 1 + 1 + 1 = 2) := by omega
      simp [b_is_unknown, isUnk, h]
  | _ => simp [b_is_unknown, isUnk]
/-- where a pipe may lead -/
def isAim (t : Int) : D → D → Bool
  | _, .none => true
  | .int a, .int b => decide (0 ≤ b) && decide (b ≤ t - 1) && !decide (b = a)
  | _, _ => false
def isPipe (t u : Int) : D → Bool
  | .tuple [x, y, z] => isBetween 0 (t - 1) x && isAim t x y && (isTold z || isUnk u z)
  | _ => false
theorem between_int {lo hi : Int} {d : D} (h : isBetween lo hi d = true) : ∃ i, d = .int i ∧ lo ≤ i ∧ i ≤ hi := by
  cases d <;> simp [isBetween] at h
  exact ⟨_, rfl, h.1, h.2⟩
theorem e_is_pipe {n k : Nat} {d : D} {t u : Int} (hf : fine k d = true) : C (n + 4) "is_pipe" [d, .int t, .int u] = .ok (.bool (isPipe t u d), .none) := by
  rw [g_is_pipe]
  cases d with
  | tuple ds =>
    match ds, hf with
    | [], _ => simp [b_is_pipe, isPipe]
    | [x], _ => simp [b_is_pipe, isPipe]
    | [x, y], _ => simp [b_is_pipe, isPipe]
    | [x, y, z], hf =>
      have hz := (fine_tup hf).2 z (by simp)
      cases h : isBetween 0 (t - 1) x with
      | false => simp [b_is_pipe, isPipe, e_is_between, h]
      | true =>
        obtain ⟨a, rfl, a0, a1⟩ := between_int h
        cases y with
        | none =>
          simp [b_is_pipe, isPipe, isAim, e_is_between, h, e_is_told, e_is_unknown hz]
        | int b =>
          by_cases b0 : 0 ≤ b <;> by_cases b1 : b ≤ t - 1 <;> by_cases b2 : b = a <;> simp [b_is_pipe, isPipe, isAim, e_is_between, h, isBetween, b0, b1, b2, a0, a1, e_is_told, e_is_unknown hz]
        | _ => simp [b_is_pipe, isPipe, isAim, e_is_between, h, isBetween, a0, a1]
    | x :: y :: z :: v :: r, _ =>
      have h : ¬ ((r.length : Int) + 1 + 1 + 1 + 1 = 3) := by omega
      simp [b_is_pipe, isPipe, h]
  | _ => simp [b_is_pipe, isPipe]
end PV.K02
set_option Elab.async false
set_option linter.all false
set_option maxRecDepth 100000
set_option maxHeartbeats 1000000
namespace PV.K02
open PySem PV.M
def ltD : D → D → Bool
  | .int a, .int b => decide (a < b)
  | _, _ => false
def riseB (xs : List D) : Bool := allB (fun p => ltD p.1 p.2) (xs.zip xs.tail)
def isTanks (t : Int) : D → Bool
  | .tuple xs => !xs.isEmpty && allB (isBetween 0 (t - 1)) xs && riseB xs
  | _ => false
theorem e_are_tanks {n k : Nat} {d : D} {t : Int} (hk : k ≤ 1000) (hf : fine k d = true) : C (n + 3) "are_tanks" [d, .int t] = .ok (.bool (isTanks t d), .none) := by
  rw [g_are_tanks]
  cases d with
  | tuple xs =>
    have h3 : xs.length ≤ LINE := by
      have := (fine_tup hf).1
      show _ ≤ 16777216
      omega
    cases h0 : xs.isEmpty with
    | true => simp [b_are_tanks, isTanks, h0]
    | false =>
      simp [b_are_tanks, h0]
      rw [cRun_map1 (fun x => PyData.bool (isBetween 0 (t - 1) x))]
      case h => rfl
      case hl => exact h3
      case hr => rfl
      case ht =>
        intro x hx
        simp [cTurn_eq, x1_are_tanks, e_is_between]
      cases h4 : allB (isBetween 0 (t - 1)) xs with
      | false => simp [h4, isTanks, h0]
      | true =>
        simp [h4, isTanks, h0]
        rw [cRun_zip (fun x y => PyData.bool (ltD x y))]
        case h => rfl
        case hl => exact h3
        case hr => rfl
        case ht =>
          intro x hx y hy
          obtain ⟨a, rfl, _⟩ := between_int (allB_true.mp h4 x hx)
          obtain ⟨b, rfl, _⟩ := between_int (allB_true.mp h4 y (List.mem_of_mem_tail hy))
          simp [cTurn_eq, x2_are_tanks, ltD]
        simp [riseB]
  | _ => simp [b_are_tanks, isTanks]
theorem rise_range : ∀ xs : List D, riseB xs = (List.range (xs.length - 1)).all fun i => ltD (xs[i]?.getD .none) (xs[i + 1]?.getD .none)
  | [] => rfl
  | [x] => rfl
  | x :: y :: r => by
    have ih := rise_range (y :: r)
    unfold riseB at ih ⊢
    rw [List.tail_cons, List.zip_cons_cons, allB_cons]
    rw [List.tail_cons] at ih
    rw [ih]
    simp [List.range_succ_eq_map, List.all_map, Function.comp_def]
theorem e_law_are_tanks {n k : Nat} {d : D} {t : Int} (hk : k ≤ 1000) (hf : fine k d = true) : C (n + 3) "_law_are_tanks" [.int t, d] = .ok (.bool (isTanks t d), .none) := by
  rw [g_law_are_tanks]
  cases d with
  | tuple xs =>
    have h3 : xs.length ≤ LINE := by
      have := (fine_tup hf).1
      show _ ≤ 16777216
      omega
    cases h0 : xs.isEmpty with
    | true => simp [b_law_are_tanks, isTanks, h0]
    | false =>
      simp [b_law_are_tanks, h0]
      rw [cRun_map1 (fun x => PyData.bool (isBetween 0 (t - 1) x))]
      case h => rfl
      case hl => exact h3
      case hr => rfl
      case ht =>
        intro x hx
        simp [cTurn_eq, x1_law_are_tanks, e_law_is_whole]
      cases h4 : allB (isBetween 0 (t - 1)) xs with
      | false => simp [h4, isTanks, h0]
      | true =>
        have hr := rng1_int (j := (xs.length : Int) - 1) (by omega) (by have : LINE = 16777216 := rfl; omega)
        simp [h4, isTanks, h0, hr]
        rw [cRun_map1 (fun i => PyData.bool (match i with | .int i => ltD (xs[i.toNat]?.getD .none) (xs[i.toNat + 1]?.getD .none) | _ => false))]
        case h => rfl
        case hl =>
          rw [len_rangeD]
          have : LINE = 16777216 := rfl
          omega
        case hr => rfl
        case ht =>
          intro x hx
          obtain ⟨i, rfl, i0, i1⟩ := mem_rangeD hx
          have l0 : i.toNat < xs.length := by omega
          have l1 : i.toNat + 1 < xs.length := by omega
          obtain ⟨a, ea, _⟩ := between_int (allB_true.mp h4 _ (List.getElem_mem l0))
          obtain ⟨b, eb, _⟩ := between_int (allB_true.mp h4 _ (List.getElem_mem l1))
          have p0 : 0 ≤ i + 1 := by omega
          have q1 : (i + 1).toNat = i.toNat + 1 := by omega
          simp [cTurn_eq, x2_law_are_tanks, i0, p0, l0, l1, q1, ea, eb, ltD]
        rw [rise_range]
        simp [allB, rangeD_zero, List.all_map, Function.comp_def]
  | _ => simp [b_law_are_tanks, isTanks]
end PV.K02
set_option Elab.async false
set_option linter.all false
set_option maxRecDepth 100000
set_option maxHeartbeats 1000000
namespace PV.K02
open PySem PV.M
abbrev gI (a b : Int) : Int := ((Nat.gcd a.natAbs b.natAbs : Nat) : Int)
theorem e_law_frac {n : Nat} {a b : Int} (hb : 0 < b) (hb' : b ≤ 1000) : C (n + 1) "_law_frac" [.int a, .int b] = .ok (.tuple [.int (a / gI a b), .int (b / gI a b)], .none) := by
  rw [g_law_frac]
  have e1 : ∀ i : Int, (if i < 0 then -i else i) = (i.natAbs : Int) := fun i => by split <;> omega
  have eb : b = (b.natAbs : Int) := by omega
  have hg : 0 < Nat.gcd a.natAbs b.natAbs := Nat.gcd_pos_of_pos_right _ (by omega)
  have hl : Nat.gcd a.natAbs b.natAbs ≤ b.natAbs := Nat.gcd_le_right _ (by omega)
  have e2 := euclid (test := wTest (C n) w1_law_frac) (body := wBody (C n) WF false l1_law_frac) (fun x y => [.val (.int a), .val (.int b), .val (.int x), .val (.int y)]) (fun x y => by simp [w1_law_frac]) (fun x y h => by simp [l1_law_frac, mod_pos h]) b.natAbs a.natAbs WF (by rw [WF_eq]; omega)
  rw [← eb] at e2
  have h3 : (0 : Int) < gI a b := by unfold gI; omega
  have h4 : gI a b < 2 ^ 64 := by unfold gI; omega
  simp [b_law_frac, e1, e2, fdiv_pos h3 h4]
theorem one_of_div {b g : Int} (hb : 0 < b) (hg : 0 < g) : b / g = b ↔ g = 1 := by
  constructor
  · intro h
    rcases Int.lt_or_le 1 g with h1 | h1
    · have := Int.ediv_lt_self_of_pos_of_ne_one hb (by omega) (y := g)
      omega
    · omega
  · rintro rfl
    simp
theorem e_law_is_told {n : Nat} {d : D} : C (n + 2) "_law_is_told" [d] = .ok (.bool (isTold d), .none) := by
  rw [g_law_is_told]
  cases d with
  | tuple ds =>
    match ds with
    | [] => simp [b_law_is_told, isTold]
    | [x] => simp [b_law_is_told, isTold]
    | [x, y] =>
      cases h : isBetween (-999) 999 x with
      | false =>
        have : isTold (.tuple [x, y]) = false := by
          cases x <;> cases y <;> simp [isTold]
          simp [isBetween] at h
          omega
        simp [b_law_is_told, e_law_is_whole, h, this]
      | true =>
        cases h' : isBetween 1 999 y with
        | false =>
          have : isTold (.tuple [x, y]) = false := by
            cases x <;> cases y <;> simp [isTold]
            simp [isBetween] at h'
            omega
          simp [b_law_is_told, e_law_is_whole, h, h', this]
        | true =>
          obtain ⟨a, rfl, a0, a1⟩ := K02.between_int h
          obtain ⟨b, rfl, b0, b1⟩ := K02.between_int h'
          have hg : 0 < Nat.gcd a.natAbs b.natAbs := Nat.gcd_pos_of_pos_right _ (by omega)
          have ok : ∀ u v : Int, eqOk (.tuple [.int u, .int v]) = true := fun u v => by simp [eqOk, PyData.canLay0, PyData.canLayAll0, PyData.depth, PyData.depthAll, noDict, noDict.noDicts]
          have key := one_of_div (b := b) (g := gI a b) (by omega) (by unfold gI; omega)
          simp [b_law_is_told, e_law_is_whole, h, h', e_law_frac (a := a) (b := b) (by omega) (by omega), eq_data (ok _ _) (ok _ _), isTold]
          by_cases hg1 : gI a b = 1
          · have hg2 : Nat.gcd a.natAbs b.natAbs = 1 := by
              unfold gI at hg1
              omega
            simp [hg1, hg2]
            omega
          · have := fun q => hg1 (key.mp q)
            have hg2 : ¬ Nat.gcd a.natAbs b.natAbs = 1 := by
              unfold gI at hg1
              omega
            have hg3 : ¬ ((Nat.gcd a.natAbs b.natAbs : Nat) : Int) = 1 := by omega
            simp [hg2, hg3]
            exact fun _ => this
    | x :: y :: z :: r =>
      have h : ¬ ((r.length : Int) + 1 + 1 + 1 = 2) := by omega
      simp [b_law_is_told, isTold, h]
  | _ => simp [b_law_is_told, isTold]
theorem told_text {s : Str} {y : D} : isTold (.tuple [.str s, y]) = false := rfl
theorem e_law_is_pipe {n k : Nat} {d : D} {t u : Int} (hf : fine k d = true) : C (n + 3) "_law_is_pipe" [.int t, .int u, d] = .ok (.bool (isPipe t u d), .none) := by
  rw [g_law_is_pipe]
  cases d with
  | tuple ds =>
    match ds, hf with
    | [], _ => simp [b_law_is_pipe, isPipe]
    | [x], _ => simp [b_law_is_pipe, isPipe]
    | [x, y], _ => simp [b_law_is_pipe, isPipe]
    | [x, y, z], hf =>
      have hz := (fine_tup hf).2 z (by simp)
      cases h : isBetween 0 (t - 1) x with
      | false => simp [b_law_is_pipe, isPipe, e_law_is_whole, h]
      | true =>
        obtain ⟨a, rfl, a0, a1⟩ := between_int h
        have fin : isAim t (.int a) y = true → endF f_law_is_pipe (evSs (C (n + 2)) WF false b_law_is_pipe [.val (.int t), .val (.int u), .val (.tuple [.int a, y, z]), .non, .non, .non]) = .ok (.bool (isTold z || isUnk u z), .none) := fun hy => by
          have hy' : y = .none ∨ ∃ b, y = .int b ∧ 0 ≤ b ∧ b ≤ t - 1 ∧ ¬ b = a := by
            cases y <;> simp [isAim] at hy
            · exact .inl rfl
            · exact .inr ⟨_, rfl, hy.1.1, hy.1.2, hy.2⟩
          have tail : ∀ y', y' = y → endF f_law_is_pipe (evSs (C (n + 2)) WF false b_law_is_pipe [.val (.int t), .val (.int u), .val (.tuple [.int a, y, z]), .non, .non, .non]) = .ok (.bool (isTold z || isUnk u z), .none) := fun y' _ => by
            cases z with
            | tuple zs =>
              match zs, hz with
              | [], _ => rcases hy' with rfl | ⟨b, rfl, b0, b1, b2⟩ <;> simp [b_law_is_pipe, e_law_is_whole, isBetween, a0, a1, *, e_law_is_told, isUnk]
              | [p], _ => rcases hy' with rfl | ⟨b, rfl, b0, b1, b2⟩ <;> simp [b_law_is_pipe, e_law_is_whole, isBetween, a0, a1, *, e_law_is_told, isUnk]
              | [p, q], hz =>
                cases p with
                | str s =>
                  have hs : PyData.strOk s = true := (fine_tup hz).2 (.str s) (by simp)
                  by_cases hx : s = "x" <;> rcases hy' with rfl | ⟨b, rfl, b0, b1, b2⟩ <;> simp [b_law_is_pipe, e_law_is_whole, isBetween, a0, a1, *, eq_str hs strX, eq_str strX strX, told_text, isUnk]
                | _ => rcases hy' with rfl | ⟨b, rfl, b0, b1, b2⟩ <;> simp [b_law_is_pipe, e_law_is_whole, isBetween, a0, a1, *, e_law_is_told, isUnk]
              | p :: q :: v :: r, _ =>
                have h : ¬ ((r.length : Int) + 1 + 1 + 1 = 2) := by omega
                rcases hy' with rfl | ⟨b, rfl, b0, b1, b2⟩ <;> simp [b_law_is_pipe, e_law_is_whole, isBetween, a0, a1, *, e_law_is_told, isUnk]
            | _ => rcases hy' with rfl | ⟨b, rfl, b0, b1, b2⟩ <;> simp [b_law_is_pipe, e_law_is_whole, isBetween, a0, a1, *, e_law_is_told, isUnk]
          exact tail y rfl
        cases hy : isAim t (.int a) y with
        | true =>
          rw [fin hy]
          simp [isPipe, h, hy]
        | false =>
          cases y with
          | none => simp [isAim] at hy
          | int b =>
            by_cases b0 : 0 ≤ b <;> by_cases b1 : b ≤ t - 1 <;> by_cases b2 : b = a <;> simp [b_law_is_pipe, isPipe, isAim, e_law_is_whole, h, isBetween, b0, b1, b2, a0, a1]
            simp [isAim, b0, b1, b2] at hy
          | _ => simp [b_law_is_pipe, isPipe, isAim, e_law_is_whole, h, isBetween, a0, a1]
    | x :: y :: z :: v :: r, _ =>
      have h : ¬ ((r.length : Int) + 1 + 1 + 1 + 1 = 3) := by omega
      simp [b_law_is_pipe, isPipe, h]
  | _ => simp [b_law_is_pipe, isPipe]
end PV.K02
set_option Elab.async false
set_option linter.all false
set_option maxRecDepth 100000
set_option maxHeartbeats 1000000
namespace PV.K02
open PySem PV.M
def PipeF (d : D) : Prop := ∃ (a : Int) (y z : D), d = .tuple [.int a, y, z] ∧ (y = .none ∨ ∃ b : Int, y = .int b) ∧ ((∃ p q : Int, z = .tuple [.int p, .int q]) ∨ ∃ i : Int, z = .tuple [.str "x", .int i])
theorem pipe_form {t u : Int} {d : D} (h : isPipe t u d = true) : PipeF d := by
  unfold isPipe at h
  split at h
  · rename_i x y z
    simp only [Bool.and_eq_true, Bool.or_eq_true] at h
    obtain ⟨⟨h1, h2⟩, h3⟩ := h
    obtain ⟨a, rfl, _⟩ := between_int h1
    refine ⟨a, y, z, rfl, ?_, ?_⟩
    · cases y <;> simp [isAim] at h2
      · exact .inl rfl
      · exact .inr ⟨_, rfl⟩
    · rcases h3 with h3 | h3
      · unfold isTold at h3
        split at h3
        · exact .inl ⟨_, _, rfl⟩
        · cases h3
      · unfold isUnk at h3
        split at h3
        · simp only [Bool.and_eq_true, beq_iff_eq] at h3
          obtain ⟨rfl, h4⟩ := h3
          obtain ⟨i, rfl, _⟩ := between_int h4
          exact .inr ⟨i, rfl⟩
        · cases h3
  · cases h
theorem pipe_eqv {d e : D} (h : PipeF d) (g : PipeF e) : PyData.eqv d e = true ↔ d = e := by
  obtain ⟨a, y, z, rfl, hy, hz⟩ := h
  obtain ⟨a', y', z', rfl, hy', hz'⟩ := g
  rcases hy with rfl | ⟨b, rfl⟩ <;> rcases hy' with rfl | ⟨b', rfl⟩ <;> rcases hz with ⟨p, q, rfl⟩ | ⟨i, rfl⟩ <;> rcases hz' with ⟨p', q', rfl⟩ | ⟨i', rfl⟩ <;> simp [PyData.eqv, PyData.eqvAll, Bool.and_assoc] <;> grind
theorem pipe_eqOk {d : D} (h : PipeF d) : eqOk d = true ∧ PyData.canLay0 d = true ∧ PyData.depth d ≤ 3 ∧ noDict d = true := by
  obtain ⟨a, y, z, rfl, hy, hz⟩ := h
  rcases hy with rfl | ⟨b, rfl⟩ <;> rcases hz with ⟨p, q, rfl⟩ | ⟨i, rfl⟩ <;> simp [eqOk, PyData.canLay0, PyData.canLayAll0, PyData.depth, PyData.depthAll, noDict, noDict.noDicts, strX]
theorem pipe_key {d : D} (h : PipeF d) : ∃ k, key? d = some k := by
  obtain ⟨a, y, z, rfl, hy, hz⟩ := h
  rcases hy with rfl | ⟨b, rfl⟩ <;> rcases hz with ⟨p, q, rfl⟩ | ⟨i, rfl⟩ <;> simp [key?, nk?, nks?, NestedKey.depth, NestedKey.depthAll]
def kf (d : D) : NestedKey := (key? d).getD .none
theorem keys_all : ∀ {ds : List D}, (∀ d ∈ ds, PipeF d) → keysT ds = some (ds.map kf)
  | [], _ => rfl
  | d :: ds, h => by
    obtain ⟨k, e⟩ := pipe_key (h d (List.mem_cons_self ..))
    have e2 := keys_all fun x hx => h x (List.mem_cons_of_mem d hx)
    unfold keysT
    rw [e2, e]
    simp [kf, e]
theorem kf_inj {d e : D} (h : PipeF d) (g : PipeF e) : kf d = kf e → d = e := by
  obtain ⟨a, y, z, rfl, hy, hz⟩ := h
  obtain ⟨a', y', z', rfl, hy', hz'⟩ := g
  rcases hy with rfl | ⟨b, rfl⟩ <;> rcases hy' with rfl | ⟨b', rfl⟩ <;> rcases hz with ⟨p, q, rfl⟩ | ⟨i, rfl⟩ <;> rcases hz' with ⟨p', q', rfl⟩ | ⟨i', rfl⟩ <;> simp [kf, key?, nk?, nks?, NestedKey.depth, NestedKey.depthAll]
theorem uniqTo_nodup : ∀ (ks acc : List NestedKey), (uniqTo acc ks).length ≤ acc.length + ks.length ∧ ((uniqTo acc ks).length = acc.length + ks.length ↔ ks.Nodup ∧ ∀ k ∈ ks, k ∉ acc)
  | [], acc => by simp [uniqTo]
  | k :: ks, acc => by
    rw [uniqTo]
    by_cases h : k ∈ acc
    · rw [if_pos h]
      obtain ⟨h1, h2⟩ := uniqTo_nodup ks acc
      refine ⟨by simp only [List.length_cons]; omega, ⟨fun e => ?_, fun e => absurd h (e.2 k (List.mem_cons_self ..))⟩⟩
      simp only [List.length_cons] at e
      omega
    · rw [if_neg h]
      obtain ⟨h1, h2⟩ := uniqTo_nodup ks (acc ++ [k])
      simp only [List.length_append, List.length_cons, List.length_nil] at h1 h2 ⊢
      refine ⟨by omega, ?_⟩
      rw [show acc.length + (ks.length + 1) = acc.length + (0 + 1) + ks.length by omega, h2]
      simp only [List.nodup_cons, List.mem_append, List.mem_cons, List.not_mem_nil, or_false, not_or]
      constructor
      · rintro ⟨a, b⟩
        refine ⟨⟨fun hk => (b k hk).2 rfl, a⟩, fun q hq => ?_⟩
        rcases hq with rfl | hq
        · exact h
        · exact (b q hq).1
      · rintro ⟨⟨a, b⟩, c⟩
        exact ⟨b, fun q hq => ⟨c q (.inr hq), fun e => a (e ▸ hq)⟩⟩
/-- one of them stands twice -/
def dupB (ds : List D) : Bool := ds.zipIdx.any fun p => (ds.take p.2).any fun y => PyData.eqv y p.1
theorem dup_nodup {ds : List D} (h : ∀ d ∈ ds, PipeF d) : dupB ds = false ↔ ds.Nodup := by
  rw [← Bool.not_eq_true]
  unfold dupB List.Nodup
  rw [List.pairwise_iff_getElem]
  simp only [List.any_eq_true, not_exists, not_and]
  constructor
  · intro g i j hi hj lt e
    refine g (ds[j], j) ?_ ds[i] ?_ ((pipe_eqv (h _ (List.getElem_mem hi)) (h _ (List.getElem_mem hj))).mpr e)
    · rw [List.mem_zipIdx_iff_getElem?]
      simp [hj]
    · rw [List.mem_take_iff_getElem]
      exact ⟨i, by omega, rfl⟩
  · rintro g ⟨x, j⟩ hp y hy e
    rw [List.mem_zipIdx_iff_getElem?] at hp
    rw [List.mem_take_iff_getElem] at hy
    obtain ⟨i, hi, rfl⟩ := hy
    simp only at hp e
    obtain ⟨hj, rfl⟩ := List.getElem?_eq_some_iff.mp hp
    exact g i j (by omega) hj (by omega) ((pipe_eqv (h _ (List.getElem_mem _)) (h _ (List.getElem_mem hj))).mp e)
theorem nodup_keys : ∀ {ds : List D}, (∀ d ∈ ds, PipeF d) → ((ds.map kf).Nodup ↔ ds.Nodup)
  | [], _ => by simp
  | d :: ds, h => by
    rw [List.map_cons, List.nodup_cons, List.nodup_cons, nodup_keys fun x hx => h x (List.mem_cons_of_mem d hx)]
    have : kf d ∈ ds.map kf ↔ d ∈ ds := by
      constructor
      · intro hk
        obtain ⟨e, he, q⟩ := List.mem_map.mp hk
        rw [← kf_inj (h e (List.mem_cons_of_mem d he)) (h d (List.mem_cons_self ..)) q]
        exact he
      · exact fun he => List.mem_map.mpr ⟨d, he, rfl⟩
    rw [this]
theorem uniq_dup {ds : List D} (h : ∀ d ∈ ds, PipeF d) : (uniq (ds.map kf)).length = ds.length ↔ dupB ds = false := by
  have := (uniqTo_nodup (ds.map kf) []).2
  simp only [List.length_nil, Nat.zero_add, List.length_map] at this
  unfold uniq
  rw [this, nodup_keys h, dup_nodup h]
  simp
end PV.K02
set_option Elab.async false
set_option linter.all false
set_option maxRecDepth 100000
set_option maxHeartbeats 1000000
namespace PV.K02
open PySem PV.M
theorem lenset_pipes {ps : List D} (h : ∀ d ∈ ps, PipeF d) (hl : ps.length < 64) : bltF .lenset [.tuple ps] = some (.int (uniq (ps.map kf)).length) := by
  show (keysT ps).bind _ = _
  rw [keys_all h]
  simp [hl]
theorem pipes_all : ∀ {ds : List D}, (∀ d ∈ ds, PipeF d) → PyData.canLayAll0 ds = true ∧ PyData.depthAll ds ≤ 3 ∧ noDict.noDicts ds = true
  | [], _ => ⟨rfl, by simp [PyData.depthAll], rfl⟩
  | d :: ds, h => by
    obtain ⟨_, a, b, c⟩ := pipe_eqOk (h d (List.mem_cons_self ..))
    obtain ⟨a', b', c'⟩ := pipes_all fun x hx => h x (List.mem_cons_of_mem d hx)
    refine ⟨?_, ?_, ?_⟩
    · simp [PyData.canLayAll0, a, a']
    · simp only [PyData.depthAll]
      omega
    · simp [noDict.noDicts, c, c']
theorem pipes_eqOk {ds : List D} (h : ∀ d ∈ ds, PipeF d) (hl : ds.length ≤ 1000) : eqOk (.tuple ds) = true := by
  obtain ⟨a, b, c⟩ := pipes_all h
  have h2 : 1 + PyData.depthAll ds ≤ 64 := by omega
  have h3 : ds.length ≤ LINE := by
    show _ ≤ 16777216
    omega
  simp [eqOk, PyData.canLay0, PyData.depth, noDict, a, c]
  omega
theorem in_tuple {x : D} {ys : List D} (h1 : eqOk x = true) (h2 : eqOk (.tuple ys) = true) : cmpF .inn x (.tuple ys) = some (ys.any fun y => PyData.eqv y x) := by
  show (if eqOk x && eqOk (.tuple ys) then _ else _) = _
  rw [h1, h2]
  rfl
def isNet : D → Bool
  | .tuple [.int t, .int u, .tuple ps, f, s] => isBetween 1 4 (.int t) && isBetween 0 4 (.int u) && decide (t + u ≤ 7) && decide ((ps.length : Int) ≤ 12) && allB (isPipe t u) ps && !dupB ps && isTanks t f && isTanks t s
  | _ => false
theorem net_int {p q r s : D} : isNet (.tuple [p, q, r, s]) = false := by unfold isNet; split <;> simp_all
theorem e_is_net_by {n k : Nat} {d : D} (hk : k ≤ 1000) (hf : fine k d = true) : C (n + 5) "is_net_by" [d] = .ok (.bool (isNet d), .none) := by
  rw [g_is_net_by]
  cases d with
  | tuple ds =>
    match ds, hf with
    | [], _ => simp [b_is_net_by, isNet]
    | [x], _ => simp [b_is_net_by, isNet]
    | [x, y], _ => simp [b_is_net_by, isNet]
    | [x, y, z], _ => simp [b_is_net_by, isNet]
    | [x, y, z, v], _ => simp [b_is_net_by, isNet]
    | x :: y :: z :: v :: w :: q :: r, _ =>
      have h : ¬ ((r.length : Int) + 1 + 1 + 1 + 1 + 1 + 1 = 5) := by omega
      simp [b_is_net_by, isNet, h]
    | [x, y, z, f, s], hf =>
      have hz := (fine_tup hf).2 z (by simp)
      have hff := (fine_tup hf).2 f (by simp)
      have hs := (fine_tup hf).2 s (by simp)
      cases h1 : isBetween 1 4 x with
      | false =>
        have : isNet (.tuple [x, y, z, f, s]) = false := by
          unfold isNet
          split
          · rename_i e
            simp only [PyData.tuple.injEq, List.cons.injEq] at e
            obtain ⟨rfl, rfl, rfl, rfl, rfl, _⟩ := e
            rw [h1]
            rfl
          · rfl
        simp [b_is_net_by, e_is_between, h1, this]
      | true =>
        obtain ⟨t, rfl, t0, t1⟩ := between_int h1
        cases h2 : isBetween 0 4 y with
        | false =>
          have : isNet (.tuple [.int t, y, z, f, s]) = false := by
            unfold isNet
            split
            · rename_i e
              simp only [PyData.tuple.injEq, List.cons.injEq] at e
              obtain ⟨e1, rfl, rfl, rfl, rfl, _⟩ := e
              cases e1
              rw [h2]
              simp
            · rfl
          simp [b_is_net_by, e_is_between, h1, h2, this]
        | true =>
          obtain ⟨u, rfl, u0, u1⟩ := between_int h2
          by_cases h3 : 7 < t + u
          · have h3' : ¬ t + u ≤ 7 := by omega
            have : isNet (.tuple [.int t, .int u, z, f, s]) = false := by
              cases z <;> simp [isNet, h3']
            simp [b_is_net_by, e_is_between, h1, h2, h3, this]
          · have h3' : t + u ≤ 7 := by omega
            cases z with
            | tuple ps =>
              by_cases h4 : 12 < (ps.length : Int)
              · have h4' : ¬ (ps.length : Int) ≤ 12 := by omega
                simp [b_is_net_by, e_is_between, h1, h2, h3, h4, isNet, h4']
              · have h4' : (ps.length : Int) ≤ 12 := by omega
                simp [b_is_net_by, e_is_between, h1, h2, h3, h4]
                rw [cRun_map1 (fun x => PyData.bool (isPipe t u x))]
                case h => rfl
                case hl =>
                  show _ ≤ 16777216
                  omega
                case hr => rfl
                case ht =>
                  intro x hx
                  simp [cTurn_eq, x1_is_net_by, e_is_pipe ((fine_tup hz).2 x hx)]
                cases h5 : allB (isPipe t u) ps with
                | false => simp [h5, isNet]
                | true =>
                  have hp : ∀ d ∈ ps, PipeF d := fun d hd => pipe_form (allB_true.mp h5 d hd)
                  have hu := uniq_dup hp
                  cases h6 : dupB ps with
                  | true =>
                    have h7 : ¬ (uniq (ps.map kf)).length = ps.length := fun q => by
                      rw [hu.mp q] at h6
                      cases h6
                    have h8 : ¬ ((uniq (ps.map kf)).length : Int) = (ps.length : Int) := by omega
                    simp [h5, isNet, lenset_pipes hp (by omega), h6, h8]
                  | false =>
                    have h7 := hu.mpr h6
                    simp [h5, isNet, lenset_pipes hp (by omega), h6, h7, h1, h2, h3', h4', e_are_tanks hk hff, e_are_tanks hk hs]
            | _ => simp [b_is_net_by, e_is_between, h1, h2, h3, isNet]
  | _ => simp [b_is_net_by, isNet]
end PV.K02
set_option Elab.async false
set_option linter.all false
set_option maxRecDepth 100000
set_option maxHeartbeats 1000000
namespace PV.K02
open PySem PV.M
def twice (ps : List D) : D → Bool
  | .tuple [.int i, p] => (ps.take i.toNat).any fun y => PyData.eqv y p
  | _ => false
theorem twice_dup {ps : List D} : anyB (twice ps) (enumD 0 ps) = dupB ps := by
  rw [enumD_eq]
  unfold anyB dupB
  rw [List.any_map]
  rfl
theorem mem_zip {ps : List D} {p : D} {i : Nat} (h : (p, i) ∈ ps.zipIdx 0) : p ∈ ps := by
  rw [List.mem_zipIdx_iff_getElem?] at h
  have h2 : ps[i]? = some p := h
  exact List.mem_of_getElem? h2
theorem e_law_is_net {n k : Nat} {d : D} (hk : k ≤ 1000) (hf : fine k d = true) : C (n + 4) "_law_is_net" [d] = .ok (.bool (isNet d), .none) := by
  rw [g_law_is_net]
  cases d with
  | tuple ds =>
    match ds, hf with
    | [], _ => simp [b_law_is_net, isNet]
    | [x], _ => simp [b_law_is_net, isNet]
    | [x, y], _ => simp [b_law_is_net, isNet]
    | [x, y, z], _ => simp [b_law_is_net, isNet]
    | [x, y, z, v], _ => simp [b_law_is_net, isNet]
    | x :: y :: z :: v :: w :: q :: r, _ =>
      have h : ¬ ((r.length : Int) + 1 + 1 + 1 + 1 + 1 + 1 = 5) := by omega
      simp [b_law_is_net, isNet, h]
    | [x, y, z, f, s], hf =>
      have hz := (fine_tup hf).2 z (by simp)
      have hff := (fine_tup hf).2 f (by simp)
      have hs := (fine_tup hf).2 s (by simp)
      cases h1 : isBetween 1 4 x with
      | false =>
        have : isNet (.tuple [x, y, z, f, s]) = false := by
          unfold isNet
          split
          · rename_i e
            simp only [PyData.tuple.injEq, List.cons.injEq] at e
            obtain ⟨rfl, rfl, rfl, rfl, rfl, _⟩ := e
            rw [h1]
            rfl
          · rfl
        simp [b_law_is_net, e_law_is_whole, h1, this]
      | true =>
        obtain ⟨t, rfl, t0, t1⟩ := between_int h1
        cases h2 : isBetween 0 4 y with
        | false =>
          have : isNet (.tuple [.int t, y, z, f, s]) = false := by
            unfold isNet
            split
            · rename_i e
              simp only [PyData.tuple.injEq, List.cons.injEq] at e
              obtain ⟨e1, rfl, rfl, rfl, rfl, _⟩ := e
              cases e1
              rw [h2]
              simp
            · rfl
          simp [b_law_is_net, e_law_is_whole, h1, h2, this]
        | true =>
          obtain ⟨u, rfl, u0, u1⟩ := between_int h2
          by_cases h3 : 7 < t + u
          · have h3' : ¬ t + u ≤ 7 := by omega
            have : isNet (.tuple [.int t, .int u, z, f, s]) = false := by
              cases z <;> simp [isNet, h3']
            simp [b_law_is_net, e_law_is_whole, h1, h2, h3, this]
          · have h3' : t + u ≤ 7 := by omega
            cases z with
            | tuple ps =>
              by_cases h4 : 12 < (ps.length : Int)
              · have h4' : ¬ (ps.length : Int) ≤ 12 := by omega
                simp [b_law_is_net, e_law_is_whole, h1, h2, h3, h4, isNet, h4']
              · have h4' : (ps.length : Int) ≤ 12 := by omega
                simp [b_law_is_net, e_law_is_whole, h1, h2, h3, h4]
                rw [cRun_map1 (fun x => PyData.bool (isPipe t u x))]
                case h => rfl
                case hl =>
                  show _ ≤ 16777216
                  omega
                case hr => rfl
                case ht =>
                  intro x hx
                  simp [cTurn_eq, x1_law_is_net, e_law_is_pipe ((fine_tup hz).2 x hx)]
                cases h5 : allB (isPipe t u) ps with
                | false => simp [h5, isNet]
                | true =>
                  have hp : ∀ d ∈ ps, PipeF d := fun d hd => pipe_form (allB_true.mp h5 d hd)
                  simp [h5]
                  rw [cRun_map1 (fun x => PyData.bool (twice ps x))]
                  case h => rfl
                  case hl =>
                    rw [enumD_eq, List.length_map, List.length_zipIdx]
                    show _ ≤ 16777216
                    omega
                  case hr => rfl
                  case ht =>
                    intro x hx
                    rw [enumD_eq] at hx
                    obtain ⟨⟨p, i⟩, hi, rfl⟩ := List.mem_map.mp hx
                    have hpp : PipeF p := hp p (mem_zip hi)
                    have e1 : eqOk (.tuple (ps.take i)) = true := pipes_eqOk (fun d hd => hp d (List.mem_of_mem_take hd)) (by rw [List.length_take]; omega)
                    simp [cTurn_eq, x2_law_is_net, in_tuple (pipe_eqOk hpp).1 e1, twice]
                  simp [twice_dup]
                  cases h6 : dupB ps with
                  | true => simp [h5, h6, isNet]
                  | false => simp [h5, isNet, h6, h1, h2, h3', h4', e_law_are_tanks hk hff, e_law_are_tanks hk hs]
            | _ => simp [b_law_is_net, e_law_is_whole, h1, h2, h3, isNet]
  | _ => simp [b_law_is_net, isNet]
end PV.K02
set_option Elab.async false
set_option linter.all false
set_option maxRecDepth 100000
set_option maxHeartbeats 1000000
namespace PV.K02
open PySem PV.M
theorem e_dip {n m : Nat} {j : J} {many : Int} (ok : JOk m j) (hm : m < 2 ^ 40) (h1 : 1 ≤ many) (h2 : many < 2 ^ 30) : Dr (m + 1) (Below many) (C (n + 1) "_law_dip" [jd j, .int many]) := by
  obtain ⟨a, b, c⟩ := j
  obtain ⟨a0, b0, b1, c0, c1⟩ := ok
  simp only at a0 b0 b1 c0 c1
  rw [g_law_dip]
  by_cases h : 0 < a
  · refine ⟨.int (a % many), ⟨a / many, b, c⟩, ?_, ⟨?_, b0, b1, c0, by simp only; omega⟩, _, rfl, Int.emod_nonneg _ (by omega), Int.emod_lt_of_pos _ (by omega)⟩
    · simp (disch := omega) [b_law_dip, jd, h, divmod_int, jarF, place, L2.ixN]
    · exact Int.ediv_nonneg a0 (by omega)
  · have s0 := Int.emod_nonneg (b + 28657 * (c + 1)) (b := 2147483399) (by decide)
    have s1 := Int.emod_lt_of_pos (b + 28657 * (c + 1)) (b := 2147483399) (by decide)
    have t0 := Int.emod_nonneg ((b + 28657 * (c + 1)) % 2147483399) (b := 5003) (by decide)
    have t1 := Int.emod_lt_of_pos ((b + 28657 * (c + 1)) % 2147483399) (b := 5003) (by decide)
    have u0 := Int.emod_nonneg ((b + 28657 * (c + 1)) % 2147483399 * ((b + 28657 * (c + 1)) % 2147483399 % 5003 + 48271) + 17 * (c + 1)) (b := 2147483399) (by decide)
    have u1 := Int.emod_lt_of_pos ((b + 28657 * (c + 1)) % 2147483399 * ((b + 28657 * (c + 1)) % 2147483399 % 5003 + 48271) + 17 * (c + 1)) (b := 2147483399) (by decide)
    refine ⟨.int ((((b + 28657 * (c + 1)) % 2147483399 * ((b + 28657 * (c + 1)) % 2147483399 % 5003 + 48271) + 17 * (c + 1)) % 2147483399 / 613) % many), ⟨a, ((b + 28657 * (c + 1)) % 2147483399 * ((b + 28657 * (c + 1)) % 2147483399 % 5003 + 48271) + 17 * (c + 1)) % 2147483399, c + 1⟩, ?_, ⟨a0, u0, by simp only; omega, by simp only; omega, by simp only; omega⟩, _, rfl, Int.emod_nonneg _ (by omega), Int.emod_lt_of_pos _ (by omega)⟩
    simp (disch := omega) [b_law_dip, jd, h, setF, place, L2.ixN, mul_int, mod_pos, fdiv_pos]
theorem e_one_of {n m : Nat} {j : J} {xs : List D} {d : D} (hd : d = .tuple xs ∨ d = .list xs) (ok : JOk m j) (hm : m < 2 ^ 40) (h1 : xs ≠ []) (h2 : xs.length < 2 ^ 20) : Dr (m + 1) (· ∈ xs) (C (n + 2) "_law_one_of" [jd j, d]) := by
  have hl : 0 < xs.length := List.length_pos_iff.mpr h1
  obtain ⟨x, j', e, ok', r, rfl, r0, r1⟩ := e_dip (n := n) (many := xs.length) ok hm (by omega) (by omega)
  have hr : r.toNat < xs.length := by omega
  refine ⟨xs[r.toNat], j', ?_, ok', List.getElem_mem hr⟩
  rw [g_law_one_of]
  rcases hd with rfl | rfl <;> simp [b_law_one_of, e, r0, hr]
theorem e_same {n : Nat} {d : D} (h : Sh d) : C (n + 1) "_law_same" [d, d] = .ok (.bool true, .none) := by
  rw [g_law_same]
  simp [b_law_same, h.one, cmp_shown h]
/-- a pair of ints -/
def Pair (d : D) : Prop := ∃ p q : Int, d = .tuple [.int p, .int q]
theorem e_told_part {n m : Nat} {j : J} (ok : JOk m j) (hm : m < 2 ^ 39) : Dr (m + 3) Pair (C (n + 3) "_law_told_part" [jd j]) := by
  obtain ⟨_, j1, e1, ok1, r, rfl, r0, r1⟩ := e_dip (n := n + 1) (many := 12) ok (by omega) (by omega) (by omega)
  by_cases h : r < 9
  · obtain ⟨d, j2, e2, ok2, hd⟩ := e_one_of (n := n) (d := .list [.tuple [.int 0, .int 1], .tuple [.int 1, .int 1], .tuple [.int 1, .int 2], .tuple [.int 1, .int 3], .tuple [.int 1, .int 4], .tuple [.int 2, .int 3], .tuple [.int (-1), .int 2], .tuple [.int 3, .int 2], .tuple [.int 1, .int 5], .tuple [.int 2, .int 1]]) (.inr rfl) ok1 (by omega) (by simp) (by simp)
    refine ⟨d, j2, ?_, ok2.mono (by omega), ?_⟩
    · rw [g_law_told_part]
      simp [b_law_told_part, e1, e2, h]
    · simp only [List.mem_cons, List.not_mem_nil, or_false] at hd
      rcases hd with rfl | rfl | rfl | rfl | rfl | rfl | rfl | rfl | rfl | rfl <;> exact ⟨_, _, rfl⟩
  · by_cases h2 : r < 11
    · obtain ⟨_, j2, e2, ok2, s, rfl, s0, s1⟩ := e_dip (n := n + 1) (many := 25) ok1 (by omega) (by omega) (by omega)
      obtain ⟨_, j3, e3, ok3, t, rfl, t0, t1⟩ := e_dip (n := n + 1) (many := 12) ok2 (by omega) (by omega) (by omega)
      refine ⟨.tuple [.int ((s - 12) / gI (s - 12) (1 + t)), .int ((1 + t) / gI (s - 12) (1 + t))], j3, ?_, ok3, _, _, rfl⟩
      rw [g_law_told_part]
      simp [b_law_told_part, e1, e2, e3, h, h2, e_law_frac (n := n + 1) (a := s - 12) (b := 1 + t) (by omega) (by omega)]
    · obtain ⟨_, j2, e2, ok2, s, rfl, s0, s1⟩ := e_dip (n := n + 1) (many := 1999) ok1 (by omega) (by omega) (by omega)
      obtain ⟨_, j3, e3, ok3, t, rfl, t0, t1⟩ := e_dip (n := n + 1) (many := 999) ok2 (by omega) (by omega) (by omega)
      refine ⟨.tuple [.int ((s - 999) / gI (s - 999) (1 + t)), .int ((1 + t) / gI (s - 999) (1 + t))], j3, ?_, ok3, _, _, rfl⟩
      rw [g_law_told_part]
      simp [b_law_told_part, e1, e2, e3, h, h2, e_law_frac (n := n + 1) (a := s - 999) (b := 1 + t) (by omega) (by omega)]
theorem fine_up : ∀ {k k' : Nat} {d : D}, k ≤ k' → fine k d = true → fine k' d = true
  | k, k', .tuple xs, le, h => by
    obtain ⟨a, b⟩ := fine_tup h
    exact tup_fine (by omega) fun x hx => fine_up le (b x hx)
  | k, k', .list xs, le, h => by
    simp only [fine, Bool.and_eq_true, decide_eq_true_eq] at h ⊢
    exact ⟨by omega, mem_fines fun x hx => fine_up le (fines_mem h.2 x hx)⟩
  | k, k', .str s, le, h => h
  | k, k', .none, le, h => rfl
  | k, k', .int _, le, h => rfl
  | k, k', .bool _, le, h => rfl
  | k, k', .dict _, le, h => rfl
theorem e_odd {n m : Nat} {j : J} (ok : JOk m j) (hm : m < 2 ^ 38) : Dr (m + 1) (fun d => fine 2 d = true) (C (n + 3) "_law_odd" [jd j]) := by
  have all : ∀ x ∈ [PyData.none, .bool true, .bool false, .int 0, .int 1, .int 2, .int (-1), .int 5, .int 8, .int 1000, .int 10000000000000000000000000000000000000000, .str "", .str "x", .str "x0", .str "out", .tuple [], .tuple [.int 0], .tuple [.int 1], .tuple [.int 0, .int 1],
    .tuple [.int 2, .int 4], .tuple [.int 1, .int 0], .tuple [.str "x", .int 0], .tuple [.str "x", .int 9], .tuple [.str "y", .int 0], .tuple [.str "x"], .tuple [.int 1000, .int 1], .tuple [.int 1, .int 1000], .tuple [.bool true, .int 1], .list [], .dict [], .tuple [.none]], fine 2 x = true := by decide +kernel
  obtain ⟨d, j1, e1, ok1, hd⟩ := e_one_of (n := n) (d := .tuple [PyData.none, .bool true, .bool false, .int 0, .int 1, .int 2, .int (-1), .int 5, .int 8, .int 1000, .int 10000000000000000000000000000000000000000, .str "", .str "x", .str "x0", .str "out", .tuple [], .tuple [.int 0], .tuple [.int 1], .tuple [.int 0, .int 1],
    .tuple [.int 2, .int 4], .tuple [.int 1, .int 0], .tuple [.str "x", .int 0], .tuple [.str "x", .int 9], .tuple [.str "y", .int 0], .tuple [.str "x"], .tuple [.int 1000, .int 1], .tuple [.int 1, .int 1000], .tuple [.bool true, .int 1], .list [], .dict [], .tuple [.none]]) (.inl rfl) ok (by omega) (by simp) (by simp)
  refine ⟨d, j1, ?_, ok1, all d hd⟩
  rw [g_law_odd]
  have hp : binF .pow (.int 10) (.int 40) = some (.int 10000000000000000000000000000000000000000) := by rw [pow_int (by decide)]; rfl
  simp [b_law_odd, hp, add_tuple, e1]
end PV.K02
set_option Elab.async false
set_option linter.all false
set_option maxRecDepth 100000
set_option maxHeartbeats 1000000
namespace PV.K02
open PySem PV.M
theorem shr_int {i j : Int} (h : 0 ≤ j) : binF .shr (.int i) (.int j) = some (.int (i / 2 ^ j.toNat)) := if_pos h
theorem band_int {i j : Int} : binF .band (.int i) (.int j) = some (.int (Builtin.bitAnd i j)) := rfl
theorem ints_form : ∀ {l : List D}, (∀ x ∈ l, ∃ i : Int, x = .int i) → ∃ ns : List Int, l = ns.map .int
  | [], _ => ⟨[], rfl⟩
  | x :: l, h => by
    obtain ⟨i, rfl⟩ := h x (List.mem_cons_self ..)
    obtain ⟨ns, rfl⟩ := ints_form fun y hy => h y (List.mem_cons_of_mem _ hy)
    exact ⟨i :: ns, rfl⟩
theorem insU_len {k : Int} : ∀ l : List Int, (insU k l).length ≤ l.length + 1
  | [] => by simp [insU]
  | x :: l => by
    have := insU_len (k := k) l
    unfold insU
    split
    · simp
    · split <;> simp <;> omega
theorem sortU_len : ∀ l : List Int, (sortU l).length ≤ l.length
  | [] => by simp [sortU]
  | x :: l => by
    have h1 := sortU_len l
    have h2 := insU_len (k := x) (sortU l)
    unfold sortU
    simp only [List.length_cons]
    omega
theorem sortset_ints {ns : List Int} (h : ns.length < 64) : bltF .sortset [.list (ns.map .int)] = some (.list ((sortU ns).map .int)) := by
  show (ints? _).bind _ = _
  rw [ints_map]
  simp [h]
theorem add_list {xs ys : List D} (h : xs.length + ys.length ≤ LINE) : binF .add (.list xs) (.list ys) = some (.list (xs ++ ys)) := by
  first | rfl | exact if_pos h
def LotF (d : D) : Prop := ∃ ns : List Int, d = .tuple (ns.map .int) ∧ ns.length ≤ 5
def bitG (b : Int) : D → Option D
  | .int k => if Builtin.bitAnd (b / 2 ^ k.toNat) 1 = 1 then some (.int k) else none
  | _ => none
theorem e_lot {n m : Nat} {j : J} {many : Int} (ok : JOk m j) (hm : m < 2 ^ 39) (h1 : 1 ≤ many) (h2 : many ≤ 4) : Dr (m + 2) LotF (C (n + 2) "_law_lot" [jd j, .int many]) := by
  obtain ⟨_, j1, e1, ok1, r, rfl, r0, r1⟩ := e_dip (n := n) (many := many) ok (by omega) h1 (by omega)
  obtain ⟨_, j2, e2, ok2, q, rfl, q0, q1⟩ := e_dip (n := n) (many := many) ok1 (by omega) h1 (by omega)
  obtain ⟨ns, hns⟩ := ints_form (l := (rangeD 0 many).filterMap (bitG j.b)) (fun x hx => by
    obtain ⟨y, hy, e⟩ := List.mem_filterMap.mp hx
    obtain ⟨k, rfl, _⟩ := mem_rangeD hy
    simp only [bitG] at e
    split at e <;> cases e
    exact ⟨_, rfl⟩)
  have hl : ns.length ≤ 4 := by
    have h3 := List.length_filterMap_le (bitG j.b) (rangeD 0 many)
    rw [hns, List.length_map, len_rangeD] at h3
    omega
  have hs := sortset_ints (ns := ns ++ [r]) (by simp; omega)
  rw [List.map_append, List.map_cons, List.map_nil] at hs
  have hsl := sortU_len (ns ++ [r])
  simp only [List.length_append, List.length_cons, List.length_nil] at hsl
  refine ⟨.tuple (((sortU (ns ++ [r])).take (1 + q).toNat).map .int), j2, ?_, ok2, _, rfl, by rw [List.length_take]; omega⟩
  rw [g_law_lot]
  simp [b_law_lot, rng1_int (j := many) (by omega) (by show _ ≤ (16777216 : Int); omega)]
  rw [cRun_map (bitG j.b)]
  case h => rfl
  case hl =>
    rw [len_rangeD]
    show _ ≤ 16777216
    omega
  case hr => rfl
  case ht =>
    intro x hx
    obtain ⟨k, rfl, k0, k1⟩ := mem_rangeD hx
    by_cases hb : Builtin.bitAnd (j.b / 2 ^ k.toNat) 1 = 1 <;> simp [cTurn_eq, x1_law_lot, t1_law_lot, jd, place, L2.ixN, shr_int k0, band_int, bitG, hb]
  rw [hns]
  have hq : 0 ≤ 1 + q := by omega
  have ha := add_list (xs := ns.map PyData.int) (ys := [.int r]) (by show _ ≤ 16777216; simp; omega)
  simp [e1, e2, ha, hs, cut_tos hq]
end PV.K02
set_option Elab.async false
set_option linter.all false
set_option maxRecDepth 100000
set_option maxHeartbeats 1000000
namespace PV.K02
open PySem PV.M
theorem pipes_eqOkL {ds : List D} (h : ∀ d ∈ ds, PipeF d) : eqOk (.list ds) = true := by
  obtain ⟨a, b, c⟩ := pipes_all h
  simp [eqOk, PyData.canLay0, PyData.depth, noDict, a, c]
  omega
theorem notin_list {x : D} {ys : List D} (h1 : eqOk x = true) (h2 : eqOk (.list ys) = true) : cmpF .notin x (.list ys) = some (!ys.any fun y => PyData.eqv y x) := by
  show (if eqOk x && eqOk (.list ys) then _ else _) = _
  rw [h1, h2]
  rfl
def NetF (d : D) : Prop := ∃ (many u : Int) (ps : List D) (f s : D), d = .tuple [.int many, .int u, .tuple ps, f, s] ∧ 1 ≤ many ∧ many ≤ 4 ∧ 0 ≤ u ∧ u ≤ 4 ∧ (∀ p ∈ ps, PipeF p) ∧ ps.length ≤ 12 ∧ LotF f ∧ LotF s
def Share (z : D) : Prop := (∃ p q : Int, z = .tuple [.int p, .int q]) ∨ ∃ i : Int, z = .tuple [.str "x", .int i]
def awayG (a : Int) : D → Option D
  | .int k => if k = a then none else some (.int k)
  | _ => none
theorem net_turn {n m : Nat} {j : J} {many u : Int} {ps : List D} {t5 t6 t7 t9 t10 : Slot} {x : D} (ok : JOk m j) (hm : m < 2 ^ 38) (h1 : 1 ≤ many) (h2 : many ≤ 4) (u0 : 0 ≤ u) (u1 : u ≤ 4) (hp : ∀ p ∈ ps, PipeF p) (hl : ps.length ≤ 100)
    (k5 : sOwn (some t5) = false) (k6 : sOwn (some t6) = false) (k7 : sOwn (some t7) = false) (k9 : sOwn (some t9) = false) (k10 : sOwn (some t10) = false) :
    ∃ (j' : J) (ps' : List D) (s5 s6 s7 s9 s10 : Slot), fTurn (C (n + 3)) WF true (.name 5) l1_law_net x [.own (jd j), .val (.int 4), .val (.int many), .val (.int u), .val (.list ps), t5, t6, t7, .non, t9, t10] = .ok (.nx, [.own (jd j'), .val (.int 4), .val (.int many), .val (.int u), .val (.list ps'), s5, s6, s7, .non, s9, s10]) ∧
      JOk (m + 6) j' ∧ (∀ p ∈ ps', PipeF p) ∧ ps'.length ≤ ps.length + 1 ∧ sOwn (some s5) = false ∧ sOwn (some s6) = false ∧ sOwn (some s7) = false ∧ sOwn (some s9) = false ∧ sOwn (some s10) = false := by
  obtain ⟨_, j1, e1, ok1, a, rfl, a0, a1⟩ := e_dip (n := n + 2) (many := many) ok (by omega) h1 (by omega)
  have hc : ∀ env : Fram, env = [.own (jd j1), .val (.int 4), .val (.int many), .val (.int u), .val (.list ps), .val x, .val (.int a), t7, .non, t9, t10] → cRun (C (n + 3)) x1_law_net (.name 8) t1_law_net [8] (rangeD 0 many) env = .ok (.list ((rangeD 0 many).filterMap (awayG a)), env) := fun env he => by
    subst he
    rw [cRun_map (awayG a)]
    case h => rfl
    case hl =>
      rw [len_rangeD]
      show _ ≤ 16777216
      omega
    case hr => rfl
    case ht =>
      intro y hy
      obtain ⟨k, rfl, k0, k1⟩ := mem_rangeD hy
      by_cases hk : k = a <;> simp [cTurn_eq, x1_law_net, t1_law_net, awayG, hk]
  have ham : ∀ y ∈ (rangeD 0 many).filterMap (awayG a), ∃ b : Int, y = .int b := fun y hy => by
    obtain ⟨z, hz, e⟩ := List.mem_filterMap.mp hy
    obtain ⟨k, rfl, _⟩ := mem_rangeD hz
    simp only [awayG] at e
    split at e <;> cases e
    exact ⟨_, rfl⟩
  have hal : ((rangeD 0 many).filterMap (awayG a)).length ≤ 4 := by
    have h3 := List.length_filterMap_le (awayG a) (rangeD 0 many)
    rw [len_rangeD] at h3
    omega
  have hc' := hc _ rfl
  generalize (rangeD 0 many).filterMap (awayG a) = aims at hc' ham hal
  have hadd := M.add_list (xs := aims) (ys := [PyData.none]) (by simp; omega)
  have hrng := rng1_int (j := many) (by omega) (by show _ ≤ (16777216 : Int); omega)
  have last : ∀ (jx : J) (mx : Nat), JOk mx jx → mx < 2 ^ 39 → ∃ (y : D) (jy : J), C (n + 3) "_law_one_of" [jd jx, .list (aims ++ [.none])] = .ok (y, jd jy) ∧ JOk (mx + 1) jy ∧ (y = .none ∨ ∃ b : Int, y = .int b) := fun jx mx okx hmx => by
    obtain ⟨y, jy, e, oky, hy⟩ := e_one_of (n := n + 1) (d := .list (aims ++ [.none])) (.inr rfl) okx (by omega) (by simp) (by simp; omega)
    refine ⟨y, jy, e, oky, ?_⟩
    rcases List.mem_append.mp hy with h | h
    · exact .inr (ham y h)
    · exact .inl (by simpa using h)
  have grow : ∀ p : D, PipeF p → (∀ q ∈ ps ++ (if (ps.any fun y => PyData.eqv y p) = true then [] else [p]), PipeF q) ∧ (ps ++ (if (ps.any fun y => PyData.eqv y p) = true then [] else [p])).length ≤ ps.length + 1 := fun p pf => by
    split
    · simp only [List.append_nil]
      exact ⟨hp, by omega⟩
    · refine ⟨fun q hq => ?_, by simp⟩
      rcases List.mem_append.mp hq with h | h
      · exact hp q h
      · rw [show q = p by simpa using h]
        exact pf
  have done : ∀ (z y : D) (jy : J), Share z → (y = .none ∨ ∃ b : Int, y = .int b) → PipeF (.tuple [.int a, y, z]) := fun z y jy hz hy => ⟨a, y, z, rfl, hy, hz⟩
  have nin : ∀ p : D, PipeF p → cmpF .notin p (.list ps) = some (!ps.any fun y => PyData.eqv y p) := fun p pf => notin_list (pipe_eqOk pf).1 (pipes_eqOkL hp)
  have ad0 : binF .add (.list ps) (.list []) = some (.list (ps ++ [])) := M.add_list (by simp; omega)
  have ad1 : ∀ p : D, binF .add (.list ps) (.list [p]) = some (.list (ps ++ [p])) := fun p => M.add_list (by simp; omega)
  by_cases hu : 0 < u
  · obtain ⟨_, j2, e2, ok2, b, rfl, b0, b1⟩ := e_dip (n := n + 2) (many := 3) ok1 (by omega) (by omega) (by omega)
    by_cases hb : 0 < b
    · obtain ⟨_, j3, e3, ok3, c, rfl, c0, c1⟩ := e_dip (n := n + 2) (many := u) ok2 (by omega) (by omega) (by omega)
      obtain ⟨y, j4, e4, ok4, hy⟩ := last j3 _ ok3 (by omega)
      have pf := done (.tuple [.str "x", .int c]) y j4 (.inr ⟨c, rfl⟩) hy
      obtain ⟨g1, g2⟩ := grow _ pf
      refine ⟨j4, _, .val x, .val (.int a), .val (.list (aims ++ [.none])), .val (.tuple [.str "x", .int c]), .val (.tuple [.int a, y, .tuple [.str "x", .int c]]), ?_, ok4.mono (by omega), g1, g2, rfl, rfl, rfl, rfl, rfl⟩
      cases hi : (ps.any fun y_1 => PyData.eqv y_1 (.tuple [.int a, y, .tuple [.str "x", .int c]])) <;> simp [k5, k6, k7, k9, k10, fTurn_eq, l1_law_net, e1, hrng, hc', hadd, hu, e2, hb, e3, e4, nin _ pf, hi, ad0, ad1]
    · obtain ⟨z, j3, e3, ok3, hz⟩ := e_told_part (n := n) ok2 (by omega)
      obtain ⟨y, j4, e4, ok4, hy⟩ := last j3 _ ok3 (by omega)
      have pf := done z y j4 (.inl hz) hy
      obtain ⟨g1, g2⟩ := grow _ pf
      refine ⟨j4, _, .val x, .val (.int a), .val (.list (aims ++ [.none])), .val z, .val (.tuple [.int a, y, z]), ?_, ok4.mono (by omega), g1, g2, rfl, rfl, rfl, rfl, rfl⟩
      cases hi : (ps.any fun y_1 => PyData.eqv y_1 (.tuple [.int a, y, z])) <;> simp [k5, k6, k7, k9, k10, fTurn_eq, l1_law_net, e1, hrng, hc', hadd, hu, e2, hb, e3, e4, nin _ pf, hi, ad0, ad1]
  · obtain ⟨z, j3, e3, ok3, hz⟩ := e_told_part (n := n) ok1 (by omega)
    obtain ⟨y, j4, e4, ok4, hy⟩ := last j3 _ ok3 (by omega)
    have pf := done z y j4 (.inl hz) hy
    obtain ⟨g1, g2⟩ := grow _ pf
    refine ⟨j4, _, .val x, .val (.int a), .val (.list (aims ++ [.none])), .val z, .val (.tuple [.int a, y, z]), ?_, ok4.mono (by omega), g1, g2, rfl, rfl, rfl, rfl, rfl⟩
    cases hi : (ps.any fun y_1 => PyData.eqv y_1 (.tuple [.int a, y, z])) <;> simp [k5, k6, k7, k9, k10, fTurn_eq, l1_law_net, e1, hrng, hc', hadd, hu, e3, e4, nin _ pf, hi, ad0, ad1]
end PV.K02
set_option Elab.async false
set_option linter.all false
set_option maxRecDepth 100000
set_option maxHeartbeats 1000000
namespace PV.K02
open PySem PV.M
theorem e_net {n m : Nat} {j : J} (ok : JOk m j) (hm : m < 2 ^ 37) : Dr (m + 100) NetF (C (n + 4) "_law_net" [jd j, .int 4]) := by
  obtain ⟨manyD, j1, e1, ok1, hmany⟩ := e_one_of (n := n + 1) (d := .list [.int 1, .int 2, .int 2, .int 3, .int 3, .int 4]) (.inr rfl) ok (by omega) (by simp) (by simp)
  obtain ⟨many, rfl, h1, h2⟩ : ∃ many : Int, manyD = .int many ∧ 1 ≤ many ∧ many ≤ 4 := by
    simp only [List.mem_cons, List.not_mem_nil, or_false] at hmany
    rcases hmany with rfl | rfl | rfl | rfl | rfl | rfl <;> exact ⟨_, rfl, by decide, by decide⟩
  obtain ⟨uD, j2, e2, ok2, huD⟩ := e_one_of (n := n + 1) (d := .list [.int 0, .int 1, .int 1, .int 2, .int 2, .int 3, .int (if many = 4 then 3 else 4)]) (.inr rfl) ok1 (by omega) (by simp) (by simp)
  obtain ⟨u, rfl, u0, u1⟩ : ∃ u : Int, uD = .int u ∧ 0 ≤ u ∧ u ≤ 4 := by
    simp only [List.mem_cons, List.not_mem_nil, or_false] at huD
    rcases huD with rfl | rfl | rfl | rfl | rfl | rfl | rfl <;> refine ⟨_, rfl, ?_, ?_⟩ <;> first | decide | (split <;> decide)
  obtain ⟨rD, j3, e3, ok3, hr⟩ := e_one_of (n := n + 1) (d := .list [.int 0, .int 1, .int 2, .int 3, .int 4, .int 5, .int 6, .int 8, .int 12]) (.inr rfl) ok2 (by omega) (by simp) (by simp)
  obtain ⟨r, rfl, r0, r1⟩ : ∃ r : Int, rD = .int r ∧ 0 ≤ r ∧ r ≤ 12 := by
    simp only [List.mem_cons, List.not_mem_nil, or_false] at hr
    rcases hr with rfl | rfl | rfl | rfl | rfl | rfl | rfl | rfl | rfl <;> exact ⟨_, rfl, by decide, by decide⟩
  have key := forLoop_inv (turn := fTurn (C (n + 3)) WF true (.name 5) l1_law_net)
    (fun xs e => ∃ (j' : J) (ps : List D) (s5 s6 s7 s9 s10 : Slot), e = [.own (jd j'), .val (.int 4), .val (.int many), .val (.int u), .val (.list ps), s5, s6, s7, .non, s9, s10] ∧ xs.length ≤ 12 ∧ JOk (m + 3 + 6 * (12 - xs.length)) j' ∧ (∀ p ∈ ps, PipeF p) ∧ ps.length + xs.length ≤ 12 ∧ sOwn (some s5) = false ∧ sOwn (some s6) = false ∧ sOwn (some s7) = false ∧ sOwn (some s9) = false ∧ sOwn (some s10) = false)
    (by
      rintro x xs e ⟨j', ps, s5, s6, s7, s9, s10, rfl, hx, ok', hp, hl, k5, k6, k7, k9, k10⟩
      simp only [List.length_cons] at hx hl ok'
      obtain ⟨j'', ps', t5, t6, t7, t9, t10, et, okt, hp', hl', q5, q6, q7, q9, q10⟩ := net_turn (n := n) (x := x) ok' (by omega) h1 h2 u0 u1 hp (by omega) k5 k6 k7 k9 k10
      exact ⟨_, et, j'', ps', t5, t6, t7, t9, t10, rfl, by omega, okt.mono (by omega), hp', by omega, q5, q6, q7, q9, q10⟩)
    (xs := rangeD 0 r) (e := [.own (jd j3), .val (.int 4), .val (.int many), .val (.int u), .val (.list []), .non, .non, .non, .non, .non, .non]) ⟨j3, [], .non, .non, .non, .non, .non, rfl, by rw [len_rangeD]; omega, ok3.mono (by rw [len_rangeD]; omega), by simp, by rw [len_rangeD]; simp; omega, rfl, rfl, rfl, rfl, rfl⟩
  obtain ⟨_, l1, j4, ps, s5, s6, s7, s9, s10, rfl, _, ok4, hp, hl, k5, k6, k7, k9, k10⟩ := key
  obtain ⟨f, j5, e5, ok5, hf⟩ := e_lot (n := n + 1) ok4 (by simp only [List.length_nil]; omega) h1 h2
  obtain ⟨s, j6, e6, ok6, hs⟩ := e_lot (n := n + 1) ok5 (by simp only [List.length_nil]; omega) h1 h2
  refine ⟨.tuple [.int many, .int u, .tuple ps, f, s], j6, ?_, ok6.mono (by simp only [List.length_nil]; omega), many, u, ps, f, s, rfl, h1, h2, u0, u1, hp, by simp at hl; omega, hf, hs⟩
  rw [g_law_net]
  have hrng := rng1_int (j := r) (by omega) (by show _ ≤ (16777216 : Int); omega)
  have hcut : cut [PyData.int 1, .int 2, .int 2, .int 3, .int 3, .int 4] none (some 6) = [PyData.int 1, .int 2, .int 2, .int 3, .int 3, .int 4] := cut_to (i := 6)
  by_cases h4 : many = 4
  · subst h4
    simp at e2
    simp [b_law_net, e1, e2, e3, hrng, hcut, l1, e5, e6, k5, k6, k7, k9, k10]
  · simp [h4] at e2
    simp [b_law_net, e1, e2, e3, hrng, hcut, l1, e5, e6, k5, k6, k7, k9, k10, h4]
end PV.K02
set_option Elab.async false
set_option linter.all false
set_option maxRecDepth 100000
set_option maxHeartbeats 1000000
namespace PV.K02
open PySem PV.M
/-- a step of a path -/
def Step (k : Nat) (d : D) : Prop := ∃ (xs : List D) (i : Int), d = .tuple [.tuple xs, .int i] ∧ fine k (.tuple xs) = true ∧ 0 ≤ i ∧ i < xs.length
theorem fine_sub {k : Nat} {xs ys : List D} (h : fine k (.tuple xs) = true) (hl : ys.length ≤ k + 1) (g : ∀ y ∈ ys, y ∈ xs) : fine (k + 1) (.tuple ys) = true := tup_fine hl fun y hy => fine_up (by omega) ((fine_tup h).2 y (g y hy))
/-- the walk down -/
theorem bent_down {n m k : Nat} {thing : D} (hk : k ≤ 1000) : ∀ (xs : List D) (j : J) (path : List D) (here : D) (t4 t5 : Slot), JOk m j → m + xs.length < 2 ^ 38 → fine k here = true → (∀ d ∈ path, Step k d) → path.length + xs.length ≤ 10 → sOwn (some t4) = false → sOwn (some t5) = false →
    ∃ (j' : J) (path' : List D) (here' : D) (s4 s5 : Slot), forLoop (fTurn (C (n + 1)) WF true (.name 4) l1_law_bent) xs [.own (jd j), .val thing, .own (.list path), .val here, t4, t5, .non, .non, .non] = .ok (.nx, [.own (jd j'), .val thing, .own (.list path'), .val here', s4, s5, .non, .non, .non]) ∧
      JOk (m + xs.length) j' ∧ fine k here' = true ∧ (∀ d ∈ path', Step k d) ∧ path'.length ≤ 10 ∧ sOwn (some s4) = false ∧ sOwn (some s5) = false
  | [], j, path, here, t4, t5, ok, hm, hf, hp, hl, k4, k5 => ⟨j, path, here, t4, t5, rfl, ok, hf, hp, by simpa using hl, k4, k5⟩
  | x :: xs, j, path, here, t4, t5, ok, hm, hf, hp, hl, k4, k5 => by
    simp only [List.length_cons] at hm hl
    have stop : (∀ ys, here = .tuple ys → ys = []) → ∃ (j' : J) (path' : List D) (here' : D) (s4 s5 : Slot), forLoop (fTurn (C (n + 1)) WF true (.name 4) l1_law_bent) (x :: xs) [.own (jd j), .val thing, .own (.list path), .val here, t4, t5, .non, .non, .non] = .ok (.nx, [.own (jd j'), .val thing, .own (.list path'), .val here', s4, s5, .non, .non, .non]) ∧
      JOk (m + (x :: xs).length) j' ∧ fine k here' = true ∧ (∀ d ∈ path', Step k d) ∧ path'.length ≤ 10 ∧ sOwn (some s4) = false ∧ sOwn (some s5) = false := fun hs => by
      refine ⟨j, path, here, .val x, t5, ?_, ok.mono (by omega), hf, hp, by omega, rfl, k5⟩
      rw [forLoop_cons]
      cases here with
      | tuple ys =>
        cases hs ys rfl
        simp [k4, k5, fTurn_eq, l1_law_bent]
      | _ => simp [k4, k5, fTurn_eq, l1_law_bent]
    cases here with
    | tuple ys =>
      cases hz : ys.isEmpty with
      | true => exact stop fun zs e => List.isEmpty_iff.mp (by rw [← PyData.tuple.inj e]; exact hz)
      | false =>
        have hyl := (fine_tup hf).1
        have hpos : 0 < ys.length := by
          cases ys with
          | nil => cases hz
          | cons _ _ => simp
        obtain ⟨_, j1, e1, ok1, i, rfl, i0, i1⟩ := e_dip (n := n) (many := (ys.length : Int)) ok (by omega) (by omega) (by omega)
        have hi : i.toNat < ys.length := by omega
        have hfy := (fine_tup hf).2 _ (List.getElem_mem hi)
        obtain ⟨j', path', here', s4, s5, el, okl, hfl, hpl, hll, q4, q5⟩ := bent_down (n := n) (thing := thing) hk xs j1 (path ++ [.tuple [.tuple ys, .int i]]) ys[i.toNat] (.val x) (.val (.int i)) ok1 (by omega) hfy (fun d hd => by
          rcases List.mem_append.mp hd with h | h
          · exact hp d h
          · rw [show d = _ by simpa using h]
            exact ⟨ys, i, rfl, hf, i0, i1⟩) (by simp; omega) rfl rfl
        refine ⟨j', path', here', s4, s5, ?_, okl.mono (by simp; omega), hfl, hpl, hll, q4, q5⟩
        rw [forLoop_cons, ← el]
        have hpl' : path.length < LINE := by
          show _ < 16777216
          omega
        simp [k4, k5, fTurn_eq, l1_law_bent, hz, e1, i0, hi, hpl']
    | _ => exact stop fun ys e => by cases e
end PV.K02
set_option Elab.async false
set_option linter.all false
set_option maxRecDepth 100000
set_option maxHeartbeats 1000000
namespace PV.K02
open PySem PV.M
theorem cut_mem {xs : List D} {lo hi : Option Int} {y : D} (h : y ∈ cut xs lo hi) : y ∈ xs := by
  unfold cut at h
  first
    | exact List.mem_of_mem_take (List.mem_of_mem_drop h)
    | exact List.mem_of_mem_drop (List.mem_of_mem_take h)
theorem cut_len {xs : List D} {lo hi : Option Int} : (cut xs lo hi).length ≤ xs.length := by
  unfold cut
  simp only [List.length_take, List.length_drop]
  omega
/-- the walk up -/
theorem bent_up {n k : Nat} {j : J} {thing pth way : D} {s4 s7 : Slot} (hk : k ≤ 1000) : ∀ (xs : List D) (here : D) (t5 t8 : Slot), (∀ d ∈ xs, Step k d) → fine (k + 1) here = true → sOwn (some t5) = false → sOwn (some t8) = false →
    ∃ (h' : D) (u5 u8 : Slot), forLoop (fTurn (C n) WF true (.tup [.name 8, .name 5]) l2_law_bent) xs [.own (jd j), .val thing, .own pth, .val here, s4, t5, .val way, s7, t8] = .ok (.nx, [.own (jd j), .val thing, .own pth, .val h', s4, u5, .val way, s7, u8]) ∧ fine (k + 1) h' = true
  | [], here, t5, t8, _, hf, _, _ => ⟨here, t5, t8, rfl, hf⟩
  | x :: xs, here, t5, t8, hs, hf, k5, k8 => by
    obtain ⟨ys, i, rfl, hy, i0, i1⟩ := hs x (List.mem_cons_self ..)
    have hyl := (fine_tup hy).1
    have hi : i.toNat < ys.length := by omega
    have hlen : (ys.take i.toNat ++ [here] ++ ys.drop (i + 1).toNat).length ≤ k + 1 := by
      simp
      omega
    have hnew : fine (k + 1) (.tuple (ys.take i.toNat ++ [here] ++ ys.drop (i + 1).toNat)) = true := tup_fine hlen fun y h => by
      rcases List.mem_append.mp h with h | h
      · rcases List.mem_append.mp h with h | h
        · exact fine_up (by omega) ((fine_tup hy).2 y (List.mem_of_mem_take h))
        · rw [show y = here by simpa using h]
          exact hf
      · exact fine_up (by omega) ((fine_tup hy).2 y (List.mem_of_mem_drop h))
    obtain ⟨h', u5, u8, el, hf'⟩ := bent_up (n := n) (j := j) (thing := thing) (pth := pth) (way := way) (s4 := s4) (s7 := s7) hk xs (.tuple (ys.take i.toNat ++ [here] ++ ys.drop (i + 1).toNat)) (.val (.int i)) (.val (.tuple ys)) (fun d hd => hs d (List.mem_cons_of_mem _ hd)) hnew rfl rfl
    refine ⟨h', u5, u8, ?_, hf'⟩
    rw [forLoop_cons, ← el]
    have c1 := cut_tos (xs := ys) i0
    have c2 := cut_froms (xs := ys) (k := i + 1) (by omega)
    have p1 : binF .add (.tuple (ys.take i.toNat)) (.tuple [here]) = some (.tuple (ys.take i.toNat ++ [here])) := add_tuple (by simp; omega)
    have p2 : binF .add (.tuple (ys.take i.toNat ++ [here])) (.tuple (ys.drop (i + 1).toNat)) = some (.tuple (ys.take i.toNat ++ [here] ++ ys.drop (i + 1).toNat)) := add_tuple (by simp; omega)
    simp only [List.append_assoc] at p2
    simp [k5, k8, fTurn_eq, l2_law_bent, c1, c2, p1, p2]
theorem e_bent {n m k : Nat} {j : J} {d : D} (hk : k ≤ 1000) (hf : fine k d = true) (h2 : 2 ≤ k) (ok : JOk m j) (hm : m < 2 ^ 37) : Dr (m + 8) (fun d => fine (k + 1) d = true) (C (n + 4) "_law_bent" [jd j, d]) := by
  obtain ⟨_, j1, e1, ok1, r, rfl, r0, r1⟩ := e_dip (n := n + 2) (many := 5) ok (by omega) (by omega) (by omega)
  obtain ⟨j2, path, here, s4, s5, l1, ok2, hh, hp, hpl, k4, k5⟩ := bent_down (n := n + 2) (thing := d) hk (rangeD 0 r) j1 [] d .non .non ok1 (by rw [len_rangeD]; omega) hf (by simp) (by rw [len_rangeD]; simp; omega) rfl rfl
  obtain ⟨_, j3, e3, ok3, way, rfl, w0, w1⟩ := e_dip (n := n + 2) (many := 8) ok2 (by rw [len_rangeD]; omega) (by omega) (by omega)
  rw [len_rangeD] at ok3
  have hrng := rng1_int (j := r) (by omega) (by show _ ≤ (16777216 : Int); omega)
  have hrev : ∀ x ∈ path.reverse, Step k x := fun x hx => hp x (List.mem_reverse.mp hx)
  have pw : binF .pow (.int 10) (.int 9) = some (.int 1000000000) := by rw [pow_int (by decide)]; rfl
  have fin : ∀ (jx : J) (h : D) (s7 : Slot), fine (k + 1) h = true → JOk (m + 8) jx →
      (∀ x', forLoop (fTurn (C (n + 3)) WF true (.tup [.name 8, .name 5]) l2_law_bent) path.reverse [.own (jd jx), .val d, .own (.list path), .val h, s4, s5, .val (.int way), s7, .non] = x' → C (n + 4) "_law_bent" [jd j, d] = endF f_law_bent (thenS (C (n + 3)) WF true (.cons (.ret (.var 3)) .nil) x')) → Dr (m + 8) (fun d => fine (k + 1) d = true) (C (n + 4) "_law_bent" [jd j, d]) := fun jx h s7 hx okx he => by
    obtain ⟨h', u5, u8, el, hf'⟩ := bent_up (n := n + 3) (j := jx) (thing := d) (pth := .list path) (way := .int way) (s4 := s4) (s7 := s7) hk path.reverse h s5 .non hrev hx k5 rfl
    refine ⟨h', jx, ?_, okx, hf'⟩
    rw [he _ el]
    simp
  cases ht : here.isTuple && decide (way < 5) with
  | true =>
    simp only [Bool.and_eq_true, decide_eq_true_eq] at ht
    obtain ⟨ht, hw⟩ := ht
    cases here with
    | tuple xs =>
      have hxl := (fine_tup hh).1
      have p1 : binF .add (.tuple xs) (.tuple (xs.take 1)) = some (.tuple (xs ++ xs.take 1)) := add_tuple (by simp; omega)
      have c1 : cut xs none (some 1) = xs.take 1 := cut_to (i := 1)
      have five : ∀ h : D, idxF (.tuple [.list xs, .tuple (cut xs none (some (-1))), .tuple (xs ++ xs.take 1), .tuple (xs.tail), .tuple xs.reverse]) (.int way) = some h → fine (k + 1) h = true := fun h e => by
        have hw5 : way = 0 ∨ way = 1 ∨ way = 2 ∨ way = 3 ∨ way = 4 := by omega
        rcases hw5 with rfl | rfl | rfl | rfl | rfl <;> cases e
        · have := fine_up (k' := k + 1) (by omega) hh
          exact this
        · exact fine_sub hh (by have := cut_len (xs := xs) (lo := none) (hi := some (-1)); omega) fun y hy => cut_mem hy
        · exact fine_sub hh (by simp; omega) fun y hy => (List.mem_append.mp hy).elim id List.mem_of_mem_take
        · exact fine_sub hh (by simp; omega) fun y hy => List.mem_of_mem_tail hy
        · exact fine_sub hh (by simp; omega) fun y hy => List.mem_reverse.mp hy
      obtain ⟨h, eh⟩ : ∃ h : D, idxF (.tuple [.list xs, .tuple (cut xs none (some (-1))), .tuple (xs ++ xs.take 1), .tuple (xs.tail), .tuple xs.reverse]) (.int way) = some h := by
        have hw5 : way = 0 ∨ way = 1 ∨ way = 2 ∨ way = 3 ∨ way = 4 := by omega
        rcases hw5 with rfl | rfl | rfl | rfl | rfl <;> exact ⟨_, rfl⟩
      refine fin j3 h .non (five h eh) (ok3.mono (by omega)) fun x' hx' => ?_
      rw [g_law_bent, ← hx']
      simp [-idx_tuple, k4, k5, b_law_bent, e1, hrng, l1, e3, hw, p1, c1, eh]
    | _ => cases ht
  | false =>
    have hb : ∀ x : D, C (n + 3) "_law_is_whole" [x, .int (-1000000000), .int 1000000000] = .ok (.bool (isBetween (-1000000000) 1000000000 x), .none) := fun x => e_law_is_whole
    by_cases hs : isBetween (-1000000000) 1000000000 here = true ∧ way < 4
    · obtain ⟨v, rfl, v0, v1⟩ := between_int hs.1
      obtain ⟨_, j4, e4, ok4, q, rfl, q0, q1⟩ := e_dip (n := n + 2) (many := 2) ok3 (by omega) (by omega) (by omega)
      have hmul : binF .mul (.int 2) (.int q) = some (.int (2 * q)) := mul_int (by decide) (by omega)
      refine fin j4 (.int (v + 1 - 2 * q)) (.val (.bool true)) rfl (ok4.mono (by omega)) fun x' hx' => ?_
      rw [g_law_bent, ← hx']
      simp [k4, k5, b_law_bent, e1, hrng, l1, e3, pw, hb, hs.1, hs.2, e4, hmul]
    · obtain ⟨o, j4, e4, ok4, ho⟩ := e_odd (n := n) ok3 (by omega)
      refine fin j4 o (.val (.bool false)) (fine_up (by omega) ho) (ok4.mono (by omega)) fun x' hx' => ?_
      rw [g_law_bent, ← hx']
      have hfl : (here.isTuple && decide (way < 5)) = false := ht
      cases h1 : isBetween (-1000000000) 1000000000 here with
      | false =>
        by_cases hw5 : way < 5
        · have hnt : here.isTuple = false := by simpa [hw5] using hfl
          cases here <;> first | (cases hnt; done) | simp [k4, k5, b_law_bent, e1, hrng, l1, e3, pw, hb, h1, e4]
        · cases here <;> simp [k4, k5, b_law_bent, e1, hrng, l1, e3, pw, hb, h1, e4, hw5]
      | true =>
        obtain ⟨v, rfl, v0, v1⟩ := between_int h1
        have hw : ¬ way < 4 := fun q => hs ⟨h1, q⟩
        simp [k4, k5, b_law_bent, e1, hrng, l1, e3, pw, hb, h1, hw, e4]
end PV.K02
set_option Elab.async false
set_option linter.all false
set_option maxRecDepth 100000
set_option maxHeartbeats 1000000
namespace PV.K02
open PySem PV.M
theorem ints_fine {ns : List Int} (h : ns.length ≤ 20) : fine 20 (.tuple (ns.map .int)) = true := tup_fine (by simpa using h) fun x hx => by
  obtain ⟨i, _, rfl⟩ := List.mem_map.mp hx
  rfl
theorem pipe_fine {d : D} (h : PipeF d) : fine 20 d = true := by
  obtain ⟨a, y, z, rfl, hy, hz⟩ := h
  rcases hy with rfl | ⟨b, rfl⟩ <;> rcases hz with ⟨p, q, rfl⟩ | ⟨i, rfl⟩ <;> simp [fine, fines, strX]
theorem lot_fine {d : D} (h : LotF d) : fine 20 d = true := by
  obtain ⟨ns, rfl, h⟩ := h
  exact ints_fine (by omega)
theorem pipes_fine {ps : List D} (h : ∀ p ∈ ps, PipeF p) (hl : ps.length ≤ 20) : fine 20 (.tuple ps) = true := tup_fine hl fun x hx => pipe_fine (h x hx)
theorem five_fine {a b : Int} {x y z : D} (hx : fine 20 x = true) (hy : fine 20 y = true) (hz : fine 20 z = true) : fine 20 (.tuple [.int a, .int b, x, y, z]) = true := by
  have i : ∀ n : Int, fine 20 (.int n) = true := fun _ => rfl
  refine tup_fine (by simp) fun w hw => ?_
  simp only [List.mem_cons, List.not_mem_nil, or_false] at hw
  rcases hw with rfl | rfl | rfl | rfl | rfl
  · exact i _
  · exact i _
  · exact hx
  · exact hy
  · exact hz
theorem net_fine {d : D} (h : NetF d) : fine 20 d = true := by
  obtain ⟨many, u, ps, f, s, rfl, _, _, _, _, hp, hl, hf, hs⟩ := h
  exact five_fine (pipes_fine hp (by omega)) (lot_fine hf) (lot_fine hs)
theorem ranget_int {n : Int} (h : -1000 ≤ n ∧ n ≤ 1000) : bltF .ranget [.int n] = some (.tuple (rangeD 0 n)) := if_pos h
def someG : D → D
  | .int i => .tuple [.int 0, .none, .tuple [.int (1 + i), .int 997]]
  | _ => .none
theorem e_planted {n m : Nat} {j : J} {d : D} (hd : NetF d) (ok : JOk m j) (hm : m < 2 ^ 37) : Dr (m + 3) (fun d => fine 20 d = true) (C (n + 4) "_law_planted" [jd j, d]) := by
  obtain ⟨many, u, ps, f, s, rfl, h1, h2, u0, u1, hp, hl, hf, hs⟩ := hd
  have ff := lot_fine hf
  have fs := lot_fine hs
  have fp := pipes_fine hp (by omega)
  obtain ⟨_, j1, e1, ok1, way, rfl, w0, w1⟩ := e_dip (n := n + 2) (many := 8) ok (by omega) (by omega) (by omega)
  obtain ⟨_, j2, e2, ok2, more, rfl, r0, r1⟩ := e_dip (n := n + 2) (many := 2) ok1 (by omega) (by omega) (by omega)
  have t1 : cut ps none (some 1) = ps.take 1 := cut_to (i := 1)
  have t11 : cut ps none (some 11) = ps.take 11 := cut_to (i := 11)
  have tk : ∀ k : Nat, ∀ p ∈ ps.take k, PipeF p := fun k p h => hp p (List.mem_of_mem_take h)
  have app : ∀ q : D, binF .add (.tuple (ps.take 11)) (.tuple [q]) = some (.tuple (ps.take 11 ++ [q])) := fun q => add_tuple (by simp; omega)
  have appF : ∀ q : D, PipeF q → fine 20 (.tuple (ps.take 11 ++ [q])) = true := fun q hq => pipes_fine (fun p h => by
    rcases List.mem_append.mp h with h | h
    · exact tk 11 p h
    · rw [show p = q by simpa using h]
      exact hq) (by simp; omega)
  have hw : way = 0 ∨ way = 1 ∨ way = 2 ∨ way = 3 ∨ way = 4 ∨ way = 5 ∨ way = 6 ∨ way = 7 := by omega
  rcases hw with rfl | rfl | rfl | rfl | rfl | rfl | rfl | rfl
  · have p1 : binF .add (.tuple ps) (.tuple (ps.take 1)) = some (.tuple (ps ++ ps.take 1)) := add_tuple (by simp; omega)
    refine ⟨.tuple [.int many, .int u, .tuple (ps ++ ps.take 1), f, s], j2, ?_, ok2.mono (by omega), five_fine (pipes_fine (fun p h => (List.mem_append.mp h).elim (hp p) (tk 1 p)) (by simp; omega)) ff fs⟩
    rw [g_law_planted]
    simp [b_law_planted, e1, e2, t1, p1]
  · by_cases hr : more = 1
    · refine ⟨.tuple [.int many, .int u, .tuple (ps.take 11 ++ [.tuple [.int 0, .int 0, .tuple [.int 7, .int 8]]]), f, s], j2, ?_, ok2.mono (by omega), five_fine (appF _ ⟨_, _, _, rfl, .inr ⟨_, rfl⟩, .inl ⟨_, _, rfl⟩⟩) ff fs⟩
      rw [g_law_planted]
      simp [b_law_planted, e1, e2, t11, app, hr]
    · refine ⟨.tuple [.int many, .int u, .tuple (ps.take 11 ++ [.tuple [.int 0, .none, .tuple [.int 7, .int 8]]]), f, s], j2, ?_, ok2.mono (by omega), five_fine (appF _ ⟨_, _, _, rfl, .inl rfl, .inl ⟨_, _, rfl⟩⟩) ff fs⟩
      rw [g_law_planted]
      simp [b_law_planted, e1, e2, t11, app, hr]
  · refine ⟨.tuple [.int many, .int u, .tuple (ps.take 11 ++ [.tuple [.int (many - 1), .none, .tuple [.str "x", .int (u - 1 + more)]]]), f, s], j2, ?_, ok2.mono (by omega), five_fine (appF _ ⟨_, _, _, rfl, .inl rfl, .inr ⟨_, rfl⟩⟩) ff fs⟩
    rw [g_law_planted]
    simp [b_law_planted, e1, e2, t11, app]
  · refine ⟨.tuple [.int many, .int u, .tuple ((rangeD 0 (12 + more)).map someG), f, s], j2, ?_, ok2.mono (by omega), five_fine (tup_fine (by rw [List.length_map, len_rangeD]; omega) fun x hx => ?_) ff fs⟩
    · rw [g_law_planted]
      simp [b_law_planted, e1, e2, rng1_int (j := 12 + more) (by omega) (by show _ ≤ (16777216 : Int); omega)]
      rw [cRun_map1 someG]
      case h => rfl
      case hl =>
        rw [len_rangeD]
        show _ ≤ 16777216
        omega
      case hr => rfl
      case ht =>
        intro x hx
        obtain ⟨i, rfl, _⟩ := mem_rangeD hx
        simp [cTurn_eq, x1_law_planted, someG]
      simp
    · obtain ⟨y, hy, rfl⟩ := List.mem_map.mp hx
      obtain ⟨i, rfl, _⟩ := mem_rangeD hy
      simp [someG, fine, fines]
  · refine ⟨.tuple [.int (3 + more), .int 4, .tuple [], .tuple [.int 0], .tuple [.int 0, .int 1]], j2, ?_, ok2.mono (by omega), by simp [fine, fines]⟩
    rw [g_law_planted]
    simp [b_law_planted, e1, e2]
  · obtain ⟨ns, rfl, hnl⟩ := hf
    have c1 := cut_tos (xs := ns.map PyData.int) r0
    rw [← List.map_take] at c1
    have p1 : binF .add (.tuple (ns.map .int)) (.tuple ((ns.take more.toNat).map .int)) = some (.tuple ((ns ++ ns.take more.toNat).map .int)) := by
      rw [List.map_append]
      exact add_tuple (by simp; omega)
    refine ⟨.tuple [.int many, .int u, .tuple ps, .tuple ((ns ++ ns.take more.toNat).map .int), s], j2, ?_, ok2.mono (by omega), five_fine fp (ints_fine (by simp; omega)) fs⟩
    rw [g_law_planted]
    simp [-List.map_take, -List.map_append, b_law_planted, e1, e2, c1, p1]
  · refine ⟨.tuple [.int many, .int u, .tuple ps, f, .tuple (rangeD 0 (many + more))], j2, ?_, ok2.mono (by omega), five_fine fp ff (tup_fine (by rw [len_rangeD]; omega) fun x hx => by
      obtain ⟨i, rfl, _⟩ := mem_rangeD hx
      rfl)⟩
    rw [g_law_planted]
    simp [b_law_planted, e1, e2, ranget_int (n := many + more) (by omega)]
  · obtain ⟨q, j3, e3, ok3, hq⟩ := e_one_of (n := n + 1) (d := .list [.tuple [.int 999, .int 1], .tuple [.int 1000, .int 1], .tuple [.int 1, .int 999], .tuple [.int 1, .int 1000], .tuple [.int (-999), .int 998], .tuple [.int (-1000), .int 999], .tuple [.int 2, .int 4]]) (.inr rfl) ok2 (by omega) (by simp) (by simp)
    have pf : PipeF (.tuple [.int 0, .none, q]) := by
      refine ⟨0, .none, q, rfl, .inl rfl, .inl ?_⟩
      simp only [List.mem_cons, List.not_mem_nil, or_false] at hq
      rcases hq with rfl | rfl | rfl | rfl | rfl | rfl | rfl <;> exact ⟨_, _, rfl⟩
    refine ⟨.tuple [.int many, .int u, .tuple [.tuple [.int 0, .none, q]], f, s], j3, ?_, ok3, five_fine (pipes_fine (fun p h => by
      rw [show p = _ by simpa using h]
      exact pf) (by simp)) ff fs⟩
    rw [g_law_planted]
    simp [b_law_planted, e1, e2, e3]
theorem e_is_net {n k : Nat} {d : D} (hk : k ≤ 1000) (hf : fine k d = true) : C (n + 6) "is_net" [d] = .ok (.bool (isNet d), .none) := by
  rw [g_is_net]
  simp [b_is_net, e_is_net_by hk hf]
theorem sh_bools {a b : Bool} : Sh (.list [.bool a, .bool b]) := sh_plain rfl (by cases a <;> cases b <;> decide) (by cases a <;> cases b <;> decide)
theorem e_jar {n : Nat} {ns : List Int} {turn : Int} (h0 : 0 ≤ turn) (h1 : turn ≤ 10) : ∃ j, C (n + 1) "_law_jar" [.list (ns.map .int), .int turn] = .ok (jd j, .none) ∧ JOk 0 j := by
  have key := forLoop_inv (turn := fTurn (C n) WF false (.name 3) l1_law_jar)
    (fun xs e => ∃ (mx : Int) (rest : List Int) (t : Slot), xs = rest.map .int ∧ e = [.val (.list (ns.map .int)), .val (.int turn), .val (.int mx), t, .non] ∧ 0 ≤ mx ∧ mx < 2 ^ 31 ∧ sOwn (some t) = false)
    (by
      rintro x xs e ⟨mx, rest, t, e1, rfl, m0, m1, ht⟩
      cases rest with
      | nil => cases e1
      | cons c rest =>
        rw [List.map_cons] at e1
        injection e1 with e2 e3
        subst e2 e3
        have c0 := Int.emod_nonneg c (b := 2147483399) (by decide)
        have c1 := Int.emod_lt_of_pos c (b := 2147483399) (by decide)
        refine ⟨[.val (.list (ns.map .int)), .val (.int turn), .val (.int ((mx * 52361 + c % 2147483399 * 11 + 3) % 2147483399)), .val (.int c), .non], ?_, _, rest, .val (.int c), rfl, rfl, Int.emod_nonneg _ (by decide), by have := Int.emod_lt_of_pos (mx * 52361 + c % 2147483399 * 11 + 3) (b := 2147483399) (by decide); omega, rfl⟩
        simp (disch := omega) [ht, fTurn_eq, l1_law_jar, mul_int, mod_pos])
    (xs := (ns.take 10).map .int) (e := [.val (.list (ns.map .int)), .val (.int turn), .val (.int (6007 + 9001 * turn)), .non, .non]) ⟨_, ns.take 10, .non, rfl, rfl, by omega, by omega, rfl⟩
  obtain ⟨e', e1, mx, rest, t, _, rfl, m0, m1, ht⟩ := key
  have hc : cut (ns.map PyData.int) none (some 10) = (ns.take 10).map .int := by
    have := cut_to (xs := ns.map PyData.int) (i := 10)
    rw [← List.map_take] at this
    exact this
  have hp : binF .pow (.int 10) (.int 15) = some (.int 1000000000000000) := by rw [pow_int (by decide)]; rfl
  have hmul : binF .mul (.int 9001) (.int turn) = some (.int (9001 * turn)) := mul_int (by decide) (by omega)
  have fin : ∀ own : Int, 0 ≤ (if own < 0 ∨ 1000000000000000 ≤ own then (if own < 0 then -own else own) else 0) := fun own => by
    split
    · split <;> omega
    · omega
  have main : ∀ own : Int, ((turn < (ns.length : Int) ∧ idxF (.list (ns.map .int)) (.int turn) = some (.int own)) ∨ (¬ turn < (ns.length : Int) ∧ own = 0)) → C (n + 1) "_law_jar" [.list (ns.map .int), .int turn] = .ok (jd ⟨if own < 0 ∨ 1000000000000000 ≤ own then (if own < 0 then -own else own) else 0, mx, 0⟩, .none) := fun own ho => by
    rw [g_law_jar]
    rcases ho with ⟨hl, hi⟩ | ⟨hl, rfl⟩
    · by_cases h : own < 0
      · simp [ht, -List.map_take, b_law_jar, hmul, hc, e1, hl, hi, -idx_list, h, jd]
      · by_cases h2 : 1000000000000000 ≤ own <;> simp [ht, -List.map_take, b_law_jar, hmul, hc, e1, hl, hi, -idx_list, h, h2, hp, jd]
    · simp [ht, -List.map_take, b_law_jar, hmul, hc, e1, hl, hp, jd]
  have okJ : ∀ own : Int, JOk 0 ⟨if own < 0 ∨ 1000000000000000 ≤ own then (if own < 0 then -own else own) else 0, mx, 0⟩ := fun own => ⟨fin own, m0, by simp only; omega, by simp, by simp⟩
  by_cases hl : turn < (ns.length : Int)
  · have hlt : turn.toNat < ns.length := by omega
    refine ⟨_, main ns[turn.toNat] (.inl ⟨hl, ?_⟩), okJ _⟩
    simp [h0, hlt]
  · exact ⟨_, main 0 (.inr ⟨hl, rfl⟩), okJ _⟩
end PV.K02
set_option Elab.async false
set_option linter.all false
set_option maxRecDepth 100000
set_option maxHeartbeats 1000000
namespace PV.K02
open PySem PV.M
theorem right_each {n : Nat} {j : J} {a1 a2 a3 a4 t5 t6 : Slot} {xs : List D} (hx : ∀ x ∈ xs, fine 1000 x = true) (k5 : sOwn (some t5) = false) (k6 : sOwn (some t6) = false) :
    ∃ u5 u6 : Slot, forLoop (fTurn (C (n + 8)) WF true (.name 5) l1_law_right) xs [.own (jd j), a1, a2, a3, a4, t5, t6] = .ok (.nx, [.own (jd j), a1, a2, a3, a4, u5, u6]) ∧ sOwn (some u5) = false ∧ sOwn (some u6) = false := by
  have key := forLoop_inv (turn := fTurn (C (n + 8)) WF true (.name 5) l1_law_right)
    (fun xs e => ∃ (u5 u6 : Slot), (∀ x ∈ xs, fine 1000 x = true) ∧ e = [.own (jd j), a1, a2, a3, a4, u5, u6] ∧ sOwn (some u5) = false ∧ sOwn (some u6) = false)
    (by
      rintro x xs e ⟨u5, u6, hx, rfl, h5, h6⟩
      have hf := hx x (List.mem_cons_self ..)
      have p1 : C (n + 8) "_law_is_net" [x] = .ok (.bool (isNet x), .none) := e_law_is_net (n := n + 4) (Nat.le_refl _) hf
      have p2 : C (n + 8) "is_net" [x] = .ok (.bool (isNet x), .none) := e_is_net (n := n + 2) (Nat.le_refl _) hf
      have p3 : C (n + 8) "_law_same" [.list [.bool (isNet x), .bool (isNet x)], .list [.bool (isNet x), .bool (isNet x)]] = .ok (.bool true, .none) := e_same (n := n + 7) sh_bools
      refine ⟨[.own (jd j), a1, a2, a3, a4, .val x, .val (.bool (isNet x))], ?_, .val x, .val (.bool (isNet x)), fun y hy => hx y (List.mem_cons_of_mem _ hy), rfl, rfl, rfl⟩
      simp [h5, h6, fTurn_eq, l1_law_right, p1, p2, p3])
    (xs := xs) (e := [.own (jd j), a1, a2, a3, a4, t5, t6]) ⟨t5, t6, hx, rfl, k5, k6⟩
  obtain ⟨_, e1, u5, u6, _, rfl, h5, h6⟩ := key
  exact ⟨u5, u6, e1, h5, h6⟩
theorem right_turn {n m : Nat} {j : J} {t1 t2 t3 t4 t5 t6 : Slot} {x : D} (ok : JOk m j) (hm : m < 2 ^ 36) (k1 : sOwn (some t1) = false) (k2 : sOwn (some t2) = false) (k3 : sOwn (some t3) = false) (k4 : sOwn (some t4) = false) (k5 : sOwn (some t5) = false) (k6 : sOwn (some t6) = false) :
    ∃ (j' : J) (s1 s2 s3 s4 s5 s6 : Slot), fTurn (C (n + 8)) WF true (.name 1) l2_law_right x [.own (jd j), t1, t2, t3, t4, t5, t6] = .ok (.nx, [.own (jd j'), s1, s2, s3, s4, s5, s6]) ∧ JOk (m + 200) j' ∧
      sOwn (some s1) = false ∧ sOwn (some s2) = false ∧ sOwn (some s3) = false ∧ sOwn (some s4) = false ∧ sOwn (some s5) = false ∧ sOwn (some s6) = false := by
  obtain ⟨net, j1, e1, ok1, hn⟩ := e_net (n := n + 4) ok (by omega)
  have fn := net_fine hn
  obtain ⟨bent, j2, e2, ok2, hb⟩ := e_bent (n := n + 4) (k := 20) (by omega) fn (by omega) ok1 (by omega)
  obtain ⟨bent2, j3, e3, ok3, hb2⟩ := e_bent (n := n + 4) (k := 21) (by omega) hb (by omega) ok2 (by omega)
  obtain ⟨odd, j4, e4, ok4, ho⟩ := e_odd (n := n + 5) ok3 (by omega)
  obtain ⟨pl, j5, e5, ok5, hp⟩ := e_planted (n := n + 4) hn ok4 (by omega)
  obtain ⟨pl2, j6, e6, ok6, hp2⟩ := e_planted (n := n + 4) hn ok5 (by omega)
  obtain ⟨pl3, j7, e7, ok7, hp3⟩ := e_planted (n := n + 4) hn ok6 (by omega)
  obtain ⟨bent3, j8, e8, ok8, hb3⟩ := e_bent (n := n + 4) (k := 20) (by omega) hp3 (by omega) ok7 (by omega)
  replace e1 : C (n + 8) "_law_net" [jd j, .int 4] = .ok (net, jd j1) := e1
  replace e2 : C (n + 8) "_law_bent" [jd j1, net] = .ok (bent, jd j2) := e2
  replace e3 : C (n + 8) "_law_bent" [jd j2, bent] = .ok (bent2, jd j3) := e3
  replace e4 : C (n + 8) "_law_odd" [jd j3] = .ok (odd, jd j4) := e4
  replace e5 : C (n + 8) "_law_planted" [jd j4, net] = .ok (pl, jd j5) := e5
  replace e6 : C (n + 8) "_law_planted" [jd j5, net] = .ok (pl2, jd j6) := e6
  replace e7 : C (n + 8) "_law_planted" [jd j6, net] = .ok (pl3, jd j7) := e7
  replace e8 : C (n + 8) "_law_bent" [jd j7, pl3] = .ok (bent3, jd j8) := e8
  have all : ∀ y ∈ [net, bent, bent2, odd, pl, pl2, bent3], fine 1000 y = true := fun y hy => by
    simp only [List.mem_cons, List.not_mem_nil, or_false] at hy
    rcases hy with rfl | rfl | rfl | rfl | rfl | rfl | rfl
    · exact fine_up (by omega) fn
    · exact fine_up (by omega) hb
    · exact fine_up (by omega) hb2
    · exact fine_up (by omega) ho
    · exact fine_up (by omega) hp
    · exact fine_up (by omega) hp2
    · exact fine_up (by omega) hb3
  obtain ⟨u5, u6, el, q5, q6⟩ := right_each (n := n) (j := j8) (a1 := .val x) (a2 := .val net) (a3 := .val bent) (a4 := .val (.list [net, bent, bent2, odd, pl, pl2])) all k5 k6
  have ha := M.add_list (xs := [net, bent, bent2, odd, pl, pl2]) (ys := [bent3]) (by simp)
  refine ⟨j8, .val x, .val net, .val bent, .val (.list [net, bent, bent2, odd, pl, pl2]), u5, u6, ?_, ok8.mono (by omega), rfl, rfl, rfl, rfl, q5, q6⟩
  simp [k1, k2, k3, k4, k5, k6, fTurn_eq, l2_law_right, e1, e2, e3, e4, e5, e6, e7, e8, ha, el]
theorem e_right {n : Nat} {j : J} (ok : JOk 0 j) : ∃ j', C (n + 9) "_law_right" [jd j] = .ok (.bool true, jd j') := by
  have key := forLoop_inv (turn := fTurn (C (n + 8)) WF true (.name 1) l2_law_right)
    (fun xs e => ∃ (j' : J) (s1 s2 s3 s4 s5 s6 : Slot), xs.length ≤ 4 ∧ e = [.own (jd j'), s1, s2, s3, s4, s5, s6] ∧ JOk (200 * (4 - xs.length)) j' ∧ sOwn (some s1) = false ∧ sOwn (some s2) = false ∧ sOwn (some s3) = false ∧ sOwn (some s4) = false ∧ sOwn (some s5) = false ∧ sOwn (some s6) = false)
    (by
      rintro x xs e ⟨j', s1, s2, s3, s4, s5, s6, hx, rfl, ok', k1, k2, k3, k4, k5, k6⟩
      simp only [List.length_cons] at hx ok'
      obtain ⟨j'', t1, t2, t3, t4, t5, t6, et, okt, q1, q2, q3, q4, q5, q6⟩ := right_turn (n := n) (x := x) ok' (by omega) k1 k2 k3 k4 k5 k6
      exact ⟨_, et, j'', t1, t2, t3, t4, t5, t6, by omega, rfl, okt.mono (by omega), q1, q2, q3, q4, q5, q6⟩)
    (xs := rangeD 0 4) (e := [.own (jd j), .non, .non, .non, .non, .non, .non]) ⟨j, .non, .non, .non, .non, .non, .non, by rw [len_rangeD]; omega, rfl, ok.mono (by omega), rfl, rfl, rfl, rfl, rfl, rfl⟩
  obtain ⟨_, l1, j', s1, s2, s3, s4, s5, s6, _, rfl, _⟩ := key
  refine ⟨j', ?_⟩
  rw [g_law_right]
  have hr5 : rng1 (.int 4) = some (rangeD 0 4) := rng1_int (by omega) (by show _ ≤ (16777216 : Int); omega)
  simp [b_law_right, hr5, l1]
theorem e_law {n : Nat} {ns : List Int} (hl : ns.length ≤ 63) : C (n + 11) "law" [.list (ns.map .int)] = .ok (.bool true, .none) := by
  rw [g_law]
  have hR : ∃ R : Int, bltF .max2 [.int 2, .int (if (4 : Int) < ns.length then 4 else ns.length)] = some (.int R) ∧ 2 ≤ R ∧ R ≤ 4 := by
    refine ⟨_, blt_max_int, ?_, ?_⟩ <;> split <;> split <;> omega
  obtain ⟨R, hR, h2, h6⟩ := hR
  simp [b_law, hR, -blt_max_int, rng1_int (j := R) (by omega) (by show _ ≤ (16777216 : Int); omega)]
  rw [cRun_map1 (fun _ => PyData.bool true)]
  case h => rfl
  case hl => rw [len_rangeD]; show _ ≤ 16777216; omega
  case hr => rfl
  case ht =>
    intro x hx
    obtain ⟨k, rfl, k0, k1⟩ := mem_rangeD hx
    obtain ⟨j, e1, ok⟩ := e_jar (n := n + 9) (ns := ns) (turn := k) k0 (by omega)
    obtain ⟨j', e2⟩ := e_right (n := n + 1) ok
    simp [cTurn_eq, x1_law, e1, e2]
  have hall : bltF .all [.list ((rangeD 0 R).map fun _ => PyData.bool true)] = some (.bool true) := by
    rw [blt_all_map (f := fun _ => true)]
    simp [allB]
  simp [hall]
end PV.K02
set_option Elab.async false
set_option linter.all false
set_option maxRecDepth 100000
set_option maxHeartbeats 0
/-! PV: the text of k02. -/
namespace PV.K02
open PySem PySem.W PySem.Calls PyProof.Rows
abbrev R : OpenRow := OpenLaw.row PySem.Challenge.rw_hiddenrates_k02_whole_nets_of_anything
def top (i : Nat) : Stmt := PySem.Challenge.pw_hiddenrates_k02_whole_nets_of_anything.main.body.getD i (.Pass ⟨0, 0, 0, 0⟩)
def r_is_whole : Row := ⟨"is_whole", f_is_whole, top 3⟩
def r_is_between : Row := ⟨"is_between", f_is_between, top 4⟩
def r_is_ratio : Row := ⟨"is_ratio", f_is_ratio, top 5⟩
def r_is_told : Row := ⟨"is_told", f_is_told, top 6⟩
def r_is_unknown : Row := ⟨"is_unknown", f_is_unknown, top 13⟩
def r_is_pipe : Row := ⟨"is_pipe", f_is_pipe, top 14⟩
def r_are_tanks : Row := ⟨"are_tanks", f_are_tanks, top 15⟩
def r_is_net_by : Row := ⟨"is_net_by", f_is_net_by, top 16⟩
def r_is_net : Row := ⟨"is_net", f_is_net, top 18⟩
def r_law_jar : Row := ⟨"_law_jar", f_law_jar, top 20⟩
def r_law_dip : Row := ⟨"_law_dip", f_law_dip, top 21⟩
def r_law_one_of : Row := ⟨"_law_one_of", f_law_one_of, top 22⟩
def r_law_same : Row := ⟨"_law_same", f_law_same, top 23⟩
def r_law_frac : Row := ⟨"_law_frac", f_law_frac, top 24⟩
def r_law_told_part : Row := ⟨"_law_told_part", f_law_told_part, top 25⟩
def r_law_lot : Row := ⟨"_law_lot", f_law_lot, top 26⟩
def r_law_net : Row := ⟨"_law_net", f_law_net, top 27⟩
def r_law_is_whole : Row := ⟨"_law_is_whole", f_law_is_whole, top 28⟩
def r_law_is_told : Row := ⟨"_law_is_told", f_law_is_told, top 29⟩
def r_law_is_pipe : Row := ⟨"_law_is_pipe", f_law_is_pipe, top 30⟩
def r_law_are_tanks : Row := ⟨"_law_are_tanks", f_law_are_tanks, top 31⟩
def r_law_is_net : Row := ⟨"_law_is_net", f_law_is_net, top 32⟩
def r_law_odd : Row := ⟨"_law_odd", f_law_odd, top 33⟩
def r_law_bent : Row := ⟨"_law_bent", f_law_bent, top 34⟩
def r_law_planted : Row := ⟨"_law_planted", f_law_planted, top 35⟩
def r_law_right : Row := ⟨"_law_right", f_law_right, top 36⟩
def r_law : Row := ⟨"law", f_law, top 37⟩
def tx : Tx where
  rows := [r_is_whole, r_is_between, r_is_ratio, r_is_told, r_is_unknown, r_is_pipe, r_are_tanks, r_is_net_by, r_is_net, r_law_jar, r_law_dip, r_law_one_of, r_law_same, r_law_frac, r_law_told_part, r_law_lot, r_law_net, r_law_is_whole, r_law_is_told, r_law_is_pipe, r_law_are_tanks, r_law_is_net, r_law_odd, r_law_bent, r_law_planted, r_law_right, r_law]
  con := [("MOST_TOLD", (.int 999)), ("MOST_TANKS", (.int 4)), ("MOST_UNKNOWNS", (.int 4)), ("MOST_BOTH", (.int 7)), ("MOST_PIPES", (.int 12)), ("UNKNOWN", (.str "x"))]
  blt := ["len", "abs", "max", "min", "int", "str", "repr", "all", "any", "divmod", "tuple", "list", "range", "zip", "enumerate", "isinstance", "bool", "sorted", "set"]
  gcd := true
  kw := [("is_net", 0, ["value"], [0])]
theorem c_is_whole : rowC tx r_is_whole = true := by kernel_rfl
theorem c_is_between : rowC tx r_is_between = true := by kernel_rfl
theorem c_is_ratio : rowC tx r_is_ratio = true := by kernel_rfl
theorem c_is_told : rowC tx r_is_told = true := by kernel_rfl
theorem c_is_unknown : rowC tx r_is_unknown = true := by kernel_rfl
theorem c_is_pipe : rowC tx r_is_pipe = true := by kernel_rfl
theorem c_are_tanks : rowC tx r_are_tanks = true := by kernel_rfl
theorem c_is_net_by : rowC tx r_is_net_by = true := by kernel_rfl
theorem c_is_net : rowC tx r_is_net = true := by kernel_rfl
theorem c_law_jar : rowC tx r_law_jar = true := by kernel_rfl
theorem c_law_dip : rowC tx r_law_dip = true := by kernel_rfl
theorem c_law_one_of : rowC tx r_law_one_of = true := by kernel_rfl
theorem c_law_same : rowC tx r_law_same = true := by kernel_rfl
theorem c_law_frac : rowC tx r_law_frac = true := by kernel_rfl
theorem c_law_told_part : rowC tx r_law_told_part = true := by kernel_rfl
theorem c_law_lot : rowC tx r_law_lot = true := by kernel_rfl
theorem c_law_net : rowC tx r_law_net = true := by kernel_rfl
theorem c_law_is_whole : rowC tx r_law_is_whole = true := by kernel_rfl
theorem c_law_is_told : rowC tx r_law_is_told = true := by kernel_rfl
theorem c_law_is_pipe : rowC tx r_law_is_pipe = true := by kernel_rfl
theorem c_law_are_tanks : rowC tx r_law_are_tanks = true := by kernel_rfl
theorem c_law_is_net : rowC tx r_law_is_net = true := by kernel_rfl
theorem c_law_odd : rowC tx r_law_odd = true := by kernel_rfl
theorem c_law_bent : rowC tx r_law_bent = true := by kernel_rfl
theorem c_law_planted : rowC tx r_law_planted = true := by kernel_rfl
theorem c_law_right : rowC tx r_law_right = true := by kernel_rfl
theorem c_law : rowC tx r_law = true := by kernel_rfl
end PV.K02
set_option Elab.async false
set_option linter.all false
set_option maxRecDepth 100000
set_option maxHeartbeats 0
namespace PV.K02
open PySem PySem.W PySem.Calls PyProof.Rows
abbrev qv : Program := view R.prog [0, 37]
def loose : List PySem.Str := [PySem.Str.ofString "MOST_TOLD", PySem.Str.ofString "is_whole", PySem.Str.ofString "is_between", PySem.Str.ofString "is_ratio", PySem.Str.ofString "is_told", PySem.Str.ofString "MOST_TANKS", PySem.Str.ofString "MOST_UNKNOWNS", PySem.Str.ofString "MOST_BOTH", PySem.Str.ofString "MOST_PIPES", PySem.Str.ofString "UNKNOWN", PySem.Str.ofString "is_unknown", PySem.Str.ofString "is_pipe", PySem.Str.ofString "are_tanks", PySem.Str.ofString "is_net_by", PySem.Str.ofString "is_net", PySem.Str.ofString "_law_jar", PySem.Str.ofString "_law_dip", PySem.Str.ofString "_law_one_of", PySem.Str.ofString "_law_same", PySem.Str.ofString "_law_frac", PySem.Str.ofString "_law_told_part", PySem.Str.ofString "_law_lot", PySem.Str.ofString "_law_net", PySem.Str.ofString "_law_is_whole", PySem.Str.ofString "_law_is_told", PySem.Str.ofString "_law_is_pipe", PySem.Str.ofString "_law_are_tanks", PySem.Str.ofString "_law_is_net", PySem.Str.ofString "_law_odd", PySem.Str.ofString "_law_bent", PySem.Str.ofString "_law_planted", PySem.Str.ofString "_law_right"]
def ob (s : PySem.W.SharedT) : He.AlD := tx.obsG 4 (HandSHeadRun.getT s)
theorem ob_eq (s : PySem.W.SharedT) : ob s = (tx.hook 4).obs s.abs := Tx.obsG_eq (HandSHeadRun.getT_eq s)
theorem run (w : World) : HandSHeadRun.RunEqI R qv (tx.hook 4) ob 20000 loose w := by
  unfold HandSHeadRun.RunEqI
  kernel_rfl
end PV.K02
set_option Elab.async false
set_option linter.all false
set_option maxRecDepth 100000
set_option maxHeartbeats 0
namespace PV.K02
open PySem PySem.W PySem.Calls PyProof.Rows
theorem all_nil {A : Type} {P : A → Prop} : ∀ r ∈ ([] : List A), P r := fun _ h => by cases h
theorem all_cons {A : Type} {P : A → Prop} {x : A} {l : List A} (h : P x) (t : ∀ r ∈ l, P r) : ∀ r ∈ x :: l, P r := fun r hr => by
  rcases List.mem_cons.mp hr with rfl | hr
  · exact h
  · exact t r hr
theorem kw_one {q : Str × Nat × List Str × List Nat} {r0 : Row} : ∀ {l : List Row}, (l.map (·.x)).Nodup → r0 ∈ l → r0.x = q.1 → KwOk r0 q → ∀ r ∈ l, r.x = q.1 → KwOk r q
  | [], _, h, _, _, _, _, _ => by cases h
  | x :: l, hn, h, e, ok, r, hr, er => by
    rw [List.map_cons, List.nodup_cons] at hn
    rcases List.mem_cons.mp h with h1 | h1
    · subst h1
      rcases List.mem_cons.mp hr with h2 | h2
      · subst h2
        exact ok
      · exact absurd (List.mem_map.mpr ⟨r, h2, er.trans e.symm⟩) hn.1
    · rcases List.mem_cons.mp hr with h2 | h2
      · subst h2
        exact absurd (List.mem_map.mpr ⟨r0, h1, e.trans er.symm⟩) hn.1
      · exact kw_one hn.2 h1 e ok r h2 er
theorem bd_r_is_whole : BindOk r_is_whole := fun _ _ _ _ _ _ us hl => match us, hl with | [_], _ => rfl
theorem bd_r_is_between : BindOk r_is_between := fun _ _ _ _ _ _ us hl => match us, hl with | [_, _, _], _ => rfl
theorem bd_r_is_ratio : BindOk r_is_ratio := fun _ _ _ _ _ _ us hl => match us, hl with | [_], _ => rfl
theorem bd_r_is_told : BindOk r_is_told := fun _ _ _ _ _ _ us hl => match us, hl with | [_], _ => rfl
theorem bd_r_is_unknown : BindOk r_is_unknown := fun _ _ _ _ _ _ us hl => match us, hl with | [_, _], _ => rfl
theorem bd_r_is_pipe : BindOk r_is_pipe := fun _ _ _ _ _ _ us hl => match us, hl with | [_, _, _], _ => rfl
theorem bd_r_are_tanks : BindOk r_are_tanks := fun _ _ _ _ _ _ us hl => match us, hl with | [_, _], _ => rfl
theorem bd_r_is_net_by : BindOk r_is_net_by := fun _ _ _ _ _ _ us hl => match us, hl with | [_], _ => rfl
theorem bd_r_is_net : BindOk r_is_net := fun _ _ _ _ _ _ us hl => match us, hl with | [_], _ => rfl
theorem bd_r_law_jar : BindOk r_law_jar := fun _ _ _ _ _ _ us hl => match us, hl with | [_, _], _ => rfl
theorem bd_r_law_dip : BindOk r_law_dip := fun _ _ _ _ _ _ us hl => match us, hl with | [_, _], _ => rfl
theorem bd_r_law_one_of : BindOk r_law_one_of := fun _ _ _ _ _ _ us hl => match us, hl with | [_, _], _ => rfl
theorem bd_r_law_same : BindOk r_law_same := fun _ _ _ _ _ _ us hl => match us, hl with | [_, _], _ => rfl
theorem bd_r_law_frac : BindOk r_law_frac := fun _ _ _ _ _ _ us hl => match us, hl with | [_, _], _ => rfl
theorem bd_r_law_told_part : BindOk r_law_told_part := fun _ _ _ _ _ _ us hl => match us, hl with | [_], _ => rfl
theorem bd_r_law_lot : BindOk r_law_lot := fun _ _ _ _ _ _ us hl => match us, hl with | [_, _], _ => rfl
theorem bd_r_law_net : BindOk r_law_net := fun _ _ _ _ _ _ us hl => match us, hl with | [_, _], _ => rfl
theorem bd_r_law_is_whole : BindOk r_law_is_whole := fun _ _ _ _ _ _ us hl => match us, hl with | [_, _, _], _ => rfl
theorem bd_r_law_is_told : BindOk r_law_is_told := fun _ _ _ _ _ _ us hl => match us, hl with | [_], _ => rfl
theorem bd_r_law_is_pipe : BindOk r_law_is_pipe := fun _ _ _ _ _ _ us hl => match us, hl with | [_, _, _], _ => rfl
theorem bd_r_law_are_tanks : BindOk r_law_are_tanks := fun _ _ _ _ _ _ us hl => match us, hl with | [_, _], _ => rfl
theorem bd_r_law_is_net : BindOk r_law_is_net := fun _ _ _ _ _ _ us hl => match us, hl with | [_], _ => rfl
theorem bd_r_law_odd : BindOk r_law_odd := fun _ _ _ _ _ _ us hl => match us, hl with | [_], _ => rfl
theorem bd_r_law_bent : BindOk r_law_bent := fun _ _ _ _ _ _ us hl => match us, hl with | [_, _], _ => rfl
theorem bd_r_law_planted : BindOk r_law_planted := fun _ _ _ _ _ _ us hl => match us, hl with | [_, _], _ => rfl
theorem bd_r_law_right : BindOk r_law_right := fun _ _ _ _ _ _ us hl => match us, hl with | [_], _ => rfl
theorem bd_r_law : BindOk r_law := fun _ _ _ _ _ _ us hl => match us, hl with | [_], _ => rfl
theorem rows_ok : ∀ r ∈ tx.rows, rowC tx r = true := (all_cons c_is_whole (all_cons c_is_between (all_cons c_is_ratio (all_cons c_is_told (all_cons c_is_unknown (all_cons c_is_pipe (all_cons c_are_tanks (all_cons c_is_net_by (all_cons c_is_net (all_cons c_law_jar (all_cons c_law_dip (all_cons c_law_one_of (all_cons c_law_same (all_cons c_law_frac (all_cons c_law_told_part (all_cons c_law_lot (all_cons c_law_net (all_cons c_law_is_whole (all_cons c_law_is_told (all_cons c_law_is_pipe (all_cons c_law_are_tanks (all_cons c_law_is_net (all_cons c_law_odd (all_cons c_law_bent (all_cons c_law_planted (all_cons c_law_right (all_cons c_law all_nil)))))))))))))))))))))))))))
theorem bind_ok : ∀ r ∈ tx.rows, BindOk r := (all_cons bd_r_is_whole (all_cons bd_r_is_between (all_cons bd_r_is_ratio (all_cons bd_r_is_told (all_cons bd_r_is_unknown (all_cons bd_r_is_pipe (all_cons bd_r_are_tanks (all_cons bd_r_is_net_by (all_cons bd_r_is_net (all_cons bd_r_law_jar (all_cons bd_r_law_dip (all_cons bd_r_law_one_of (all_cons bd_r_law_same (all_cons bd_r_law_frac (all_cons bd_r_law_told_part (all_cons bd_r_law_lot (all_cons bd_r_law_net (all_cons bd_r_law_is_whole (all_cons bd_r_law_is_told (all_cons bd_r_law_is_pipe (all_cons bd_r_law_are_tanks (all_cons bd_r_law_is_net (all_cons bd_r_law_odd (all_cons bd_r_law_bent (all_cons bd_r_law_planted (all_cons bd_r_law_right (all_cons bd_r_law all_nil)))))))))))))))))))))))))))
theorem names_ok : (tx.rows.map (·.x)).Nodup := by decide +kernel
theorem kws_ok : ∀ q ∈ tx.kw, ∀ r ∈ tx.rows, r.x = q.1 → KwOk r q := (all_cons (kw_one names_ok (List.mem_cons_of_mem _ (List.mem_cons_of_mem _ (List.mem_cons_of_mem _ (List.mem_cons_of_mem _ (List.mem_cons_of_mem _ (List.mem_cons_of_mem _ (List.mem_cons_of_mem _ (List.mem_cons_of_mem _ (List.mem_cons_self ..))))))))) rfl fun _ _ _ _ _ _ us ws h1 h2 => match us, ws, h1, h2 with | [], [_], _, _ => rfl) all_nil)
theorem x1 : tx.defs = defs := rfl
theorem x2 : r_law.fn.name = ("law" : Str) := rfl
theorem x3 (ns : List Int) (h : ns.length ≤ 63) : callN defs PV.M.WF 11 "law" [.list (ns.map .int)] = .ok (.bool true, .none) := e_law (n := 0) h
theorem x4 {tb : List Def} {f : Str} {n : Nat} {a : List D} {r : Res (D × D)} (h1 : tb = defs) (h2 : f = ("law" : Str)) (h : callN defs PV.M.WF n "law" a = r) : callN tb PV.M.WF n f a = r := by
  subst h1 h2
  exact h
theorem ev_ok (ns : List Int) (h : ns.length ≤ 63) : ∃ d0, callN tx.defs PV.M.WF 11 r_law.fn.name [.list (ns.map .int)] = .ok (.bool true, d0) := ⟨.none, x4 x1 x2 (x3 ns h)⟩
end PV.K02
open PySem PySem.W PySem.Calls PyProof.Rows
theorem PySem.Challenge.cw_hiddenrates_k02_whole_nets_of_anything_holds : PySem.Challenge.rw_hiddenrates_k02_whole_nets_of_anything.Holds := by
  w_on; o_law
  refine HandSHeadRun.head_imp (r := OpenLaw.row PySem.Challenge.rw_hiddenrates_k02_whole_nets_of_anything) (q := PV.K02.qv) (H := PV.K02.tx.hook 4) (ob := PV.K02.ob) (M := 20000) (loose := PV.K02.loose) (d := HandSHeadRun.topDef (OpenLaw.row PySem.Challenge.rw_hiddenrates_k02_whole_nets_of_anything).prog 37) (kwd := []) PV.K02.ob_eq
    PV.K02.run (by kernel_rfl) (by kernel_rfl) (by kernel_rfl) (by rfl) (by first | assumption | decide +kernel) (by decide +kernel) ⟨rfl, rfl, rfl, rfl, rfl, by decide +kernel⟩ ?hw ?hc
  case hw => w_witness2
  case hc =>
    exact PV.walkEnd (l := PySem.Challenge.rw_hiddenrates_k02_whole_nets_of_anything) (T := PV.K02.tx) (wf := PV.M.WF) (k := 11) (n := 4) (r := PV.K02.r_law) rfl (by kernel_rfl) ⟨rfl, by decide, by decide⟩ (by kernel_rfl) (List.mem_cons_of_mem _ (List.mem_cons_of_mem _ (List.mem_cons_of_mem _ (List.mem_cons_of_mem _ (List.mem_cons_of_mem _ (List.mem_cons_of_mem _ (List.mem_cons_of_mem _ (List.mem_cons_of_mem _ (List.mem_cons_of_mem _ (List.mem_cons_of_mem _ (List.mem_cons_of_mem _ (List.mem_cons_of_mem _ (List.mem_cons_of_mem _ (List.mem_cons_of_mem _ (List.mem_cons_of_mem _ (List.mem_cons_of_mem _ (List.mem_cons_of_mem _ (List.mem_cons_of_mem _ (List.mem_cons_of_mem _ (List.mem_cons_of_mem _ (List.mem_cons_of_mem _ (List.mem_cons_of_mem _ (List.mem_cons_of_mem _ (List.mem_cons_of_mem _ (List.mem_cons_of_mem _ (List.mem_cons_of_mem _ (List.mem_cons_self ..))))))))))))))))))))))))))) (by kernel_rfl) rfl rfl rfl
      PV.K02.rows_ok PV.K02.bind_ok PV.K02.kws_ok PV.K02.names_ok PV.K02.ev_ok
