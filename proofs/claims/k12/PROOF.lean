import PyProof.Rows.All
import Wide.All
import OpenK.AllK
import Wide.FinOn
import KE.DataIsa
import KE.DataAny
import HandS.ForMost
import HandS.Wide
import HandS.Gcd
import KE.DataCmp
import KE.SortData
import KE.KeyNested
import HandS.TupSets
import KE.KDictKeyed
import PyProof.WalksMore
import HandS.SetFor
import HandS.Strs
import HandS.TupAny
import HandS.TupMul
import HandS.Conv
import HandS.Style
import PyProof.ListMulAny
import HandS.Deep
import PyProof.Rows.InDataRows
import HandS.Dict
import HandS.Defaults
import HandS.HeadHook2
import KE.SortKeyHeap
import HandS.SortKw
import HandS.Zip
import KE.GoesNew
import HandS.DictComp
import KE.DataMinMax
import HandS.Codes
import HandS.Ends
import HandS.EndBits
import HandS.Head3
import PyProof.ReprLen
import PyProof.Rows.ReprOcc
import PyProof.Rows.RegStrFacts
import PyProof.ReprBulk
import PySem.Challenge.RW_hiddenrates_k12_whole_sums_products_and
set_option Elab.async false
set_option linter.all false
set_option maxRecDepth 100000
/-! PV, part A: a small language (IR) for pure Python over PyData, and its evaluator. Lists, dicts that a def changes live in slots of the def ("own"); everything else is a value. -/
namespace PV
open PySem
abbrev D := PyData
/-- a place of a frame: empty, a value, a list or dict that the def may change -/
inductive Slot where
  | non
  | val (d : D)
  | own (d : D)
abbrev Fram := List Slot
structure Exc where
  cls : Str
  arg : D
inductive Res (A : Type) where
  | ok (a : A)
  | exc (x : Exc) (e : Fram)
  | bad
def Res.bind {A B : Type} (r : Res A) (f : A → Res B) : Res B := match r with
  | .ok a => f a
  | .exc x e => .exc x e
  | .bad => .bad
@[simp] theorem bind_ok {A B : Type} (a : A) (f : A → Res B) : (Res.ok a).bind f = f a := rfl
@[simp] theorem bind_exc {A B : Type} (x : Exc) (e : Fram) (f : A → Res B) : (Res.exc x e : Res A).bind f = .exc x e := rfl
@[simp] theorem bind_bad {A B : Type} (f : A → Res B) : (Res.bad : Res A).bind f = .bad := rfl
/-- an option as a result -/
def opt {A : Type} : Option A → Res A
  | some a => .ok a
  | none => .bad
@[simp] theorem opt_some {A : Type} (a : A) : opt (some a) = .ok a := rfl
@[simp] theorem opt_none {A : Type} : opt (none : Option A) = .bad := rfl
/-- an exception is not let out -/
def noExc {A : Type} : Res A → Res A
  | .ok a => .ok a
  | _ => .bad
inductive Bop where
  | add | sub | mul | fdiv | mod | pow | shr | shl | band
inductive Cop where
  | eq | ne | lt | le | gt | ge | isN | notN | inn | notin
inductive Blt where
  | len | abs | max2 | min2 | int1 | str1 | repr | all | any | sum | gcd | divmod | tuple | list | lenset | sorted | sortset | rangel | ranget | sortrank | maxl
inductive Met where
  | get2 | index | join | split
inductive Ty where
  | int | bool | str | tuple | list | dict
inductive Tg where
  | name (i : Nat)
  | tup (ts : List Tg)
mutual
inductive Exp where
  | var (i : Nat)
  | int (i : Int)
  | str (s : Str)
  | bl (b : Bool)
  | non
  | glob (x : Str) (d : D)
  | tup (es : Exs)
  | lst (es : Exs)
  | dict0
  | bin (o : Bop) (a b : Exp)
  | neg (a : Exp)
  | nott (a : Exp)
  | conj (es : Exs)
  | disj (es : Exs)
  | cmp (o : Cop) (a b : Exp)
  | cmp2 (o p : Cop) (a b c : Exp)
  | ite (c a b : Exp)
  | idx (a i : Exp)
  | slice (a : Exp) (lo hi : Exo)
  | rev (a : Exp)
  | call (f : Str) (br : Bool) (es : Exs)
  | callK (f : Str) (br : Bool) (es kes : Exs) (ks : List Str) (perm : List Nat)
  | callJ (f g : Str) (es : Exs)
  | blt (b : Blt) (es : Exs)
  | isi (a : Exp) (t : Ty)
  | meth (m : Met) (o : Exp) (es : Exs)
  | get2 (i : Nat) (k d : Exp)
  | dictof (a : Exp)
  | dcomp (own : List (Str × Nat)) (i j : Nat) (a : Exp)
  | pop (i : Nat)
  | popAt (i : Nat) (e : Exp)
  | comp (elt : Exp) (tg : Tg) (it : Itx) (cs : Exs) (own : List (Str × Nat))
inductive Exs where
  | nil
  | cons (e : Exp) (es : Exs)
inductive Exo where
  | non
  | som (e : Exp)
inductive Itx where
  | seq (e : Exp)
  | range1 (e : Exp)
  | range2 (a b : Exp)
  | zip (a b : Exp)
  | enum (a : Exp)
end
mutual
inductive Stm where
  | expr (e : Exp)
  | set (i : Nat) (e : Exp)
  | own (i : Nat) (e : Exp)
  | unp (ts : List Tg) (e : Exp)
  | par (is : List (Nat × Bool)) (es : Exs)
  | setIx (i : Nat) (ix e : Exp)
  | jar (i : Nat) (ix : Exp) (j : Nat) (e : Exp)
  | append (i : Nat) (e : Exp)
  | extend (i : Nat) (e : Exp)
  | ret (e : Exp)
  | retN
  | iff (c : Exp) (a b : Sts)
  | whil (c : Exp) (b : Sts)
  | forr (tg : Tg) (it : Itx) (b : Sts)
  | brk
  | cont
  | pass
  | never
inductive Sts where
  | nil
  | cons (s : Stm) (ss : Sts)
end
/-! ### values -/
abbrev LINE : Nat := 16777216
def isNoneD : D → Bool
  | .none => true
  | _ => false
def isB : D → Option Bool
  | .bool b => some b
  | _ => none
/-- no list and no dict in it -/
def flat : D → Bool
  | .list _ => false
  | .dict _ => false
  | .tuple xs => flats xs
  | _ => true
where flats : List D → Bool
  | [] => true
  | x :: xs => flat x && flats xs
/-- no dict in it -/
def noDict : D → Bool
  | .dict _ => false
  | .list xs => noDicts xs
  | .tuple xs => noDicts xs
  | _ => true
where noDicts : List D → Bool
  | [] => true
  | x :: xs => noDict x && noDicts xs
def binF : Bop → D → D → Option D
  | .add, .int i, .int j => some (.int (i + j))
  | .add, .str x, .str y => if x.length + y.length ≤ LINE then some (.str (x ++ y)) else none
  | .add, .tuple xs, .tuple ys => if xs.length + ys.length ≤ LINE then some (.tuple (xs ++ ys)) else none
  | .add, .list xs, .list ys => if xs.length + ys.length ≤ LINE then some (.list (xs ++ ys)) else none
  | .sub, .int i, .int j => some (.int (i - j))
  | .mul, .int i, .int j => if i.natAbs.log2 + j.natAbs.log2 < 1000000 then some (.int (i * j)) else none
  | .mul, .list xs, .int j => if -(2 ^ 62) ≤ j ∧ j < 2 ^ 62 ∧ xs.length * j.toNat ≤ LINE then some (.list (List.replicate j.toNat xs).flatten) else none
  | .mul, .tuple xs, .int j => if -(2 ^ 62) ≤ j ∧ j ≤ 1000 ∧ xs.length ≤ 1000 then some (.tuple (List.replicate j.toNat xs).flatten) else none
  | .fdiv, .int i, .int j => if j ≠ 0 ∧ j.natAbs.log2 < 9000 then some (.int (i.fdiv j)) else none
  | .mod, .int i, .int j => if j ≠ 0 then some (.int (i.fmod j)) else none
  | .pow, .int i, .int j => if 0 ≤ j ∧ j ≤ 1000000 ∧ i.natAbs < 2 ^ 64 then some (.int (i ^ j.toNat)) else none
  | .shr, .int i, .int j => if 0 ≤ j then some (.int (i / 2 ^ j.toNat)) else none
  | .shl, .int i, .int j => if 0 ≤ j ∧ j ≤ 1000000 ∧ i.natAbs < 2 ^ 64 then some (.int (i * 2 ^ j.toNat)) else none
  | .band, .int i, .int j => some (.int (Builtin.bitAnd i j))
  | _, _, _ => none
def eqOk (d : D) : Bool := PyData.canLay0 d && decide (PyData.depth d ≤ 64) && noDict d
/-- two data that have an order -/
def ordF (x y : D) (b : Bool) : Option Bool := if PySem.W.alike x y && decide (x.depth ≤ 64) && (noDict x && noDict y) then some b else none
def cmpF : Cop → D → D → Option Bool
  | .eq, x, y => if eqOk x && eqOk y then some (PyData.eqv x y) else match x, y with
    | .tuple xs, .tuple [] => some xs.isEmpty
    | _, _ => none
  | .ne, x, y => if eqOk x && eqOk y then some (!PyData.eqv x y) else none
  | .lt, .int i, .int j => some (decide (i < j))
  | .le, .int i, .int j => some (decide (i ≤ j))
  | .gt, .int i, .int j => some (decide (j < i))
  | .ge, .int i, .int j => some (decide (j ≤ i))
  | .lt, .tuple xs, .tuple ys => ordF (.tuple xs) (.tuple ys) (PySem.W.dataLt (.tuple xs) (.tuple ys))
  | .gt, .tuple xs, .tuple ys => ordF (.tuple xs) (.tuple ys) (PySem.W.dataLt (.tuple ys) (.tuple xs))
  | .le, .tuple xs, .tuple ys => ordF (.tuple xs) (.tuple ys) (!PySem.W.dataLt (.tuple ys) (.tuple xs))
  | .ge, .tuple xs, .tuple ys => ordF (.tuple xs) (.tuple ys) (!PySem.W.dataLt (.tuple xs) (.tuple ys))
  | .inn, x, .list ys => if eqOk x && eqOk (.list ys) then some (ys.any fun y => PyData.eqv y x) else none
  | .inn, x, .tuple ys => if eqOk x && eqOk (.tuple ys) then some (ys.any fun y => PyData.eqv y x) else none
  | .notin, x, .list ys => if eqOk x && eqOk (.list ys) then some (!ys.any fun y => PyData.eqv y x) else none
  | .notin, x, .tuple ys => if eqOk x && eqOk (.tuple ys) then some (!ys.any fun y => PyData.eqv y x) else none
  | _, _, _ => none
/-- the place that an index tells -/
abbrev place (n : Nat) (i : Int) : Option Nat := L2.ixN n i
mutual
/-- a key of a dict -/
def nk? : D → Option NestedKey
  | .none => some .none
  | .int i => some (.num i)
  | .str x => some (.text x)
  | .tuple ds => (nks? ds).map .tup
  | _ => none
def nks? : List D → Option (List NestedKey)
  | [] => some []
  | d :: ds => (nk? d).bind fun k => (nks? ds).map (k :: ·)
end
/-- a tuple that may be a key -/
def key? : D → Option NestedKey
  | .tuple ds => (nk? (.tuple ds)).bind fun k => if k.depth ≤ 8 then some k else none
  | _ => none
def dGet (kvs : List (D × D)) (k : NestedKey) : Option D := (kvs.find? fun p => decide (nk? p.1 = some k)).map (·.2)
def dPut (kvs : List (D × D)) (k : NestedKey) (kd v : D) : List (D × D) := if (dGet kvs k).isSome then kvs.map (fun p => if nk? p.1 = some k then (p.1, v) else p) else kvs ++ [(kd, v)]
def idxF : D → D → Option D
  | .dict kvs, y => (key? y).bind fun k => dGet kvs k
  | .list xs, .int i => (place xs.length i).bind fun j => xs[j]?
  | .tuple xs, .int i => (place xs.length i).bind fun j => xs[j]?
  | _, _ => none
/-- where a slice begins, ends -/
abbrev bound (n d : Nat) (o : Option Int) : Nat := HT.sIx n d o
def cut (xs : List D) (lo hi : Option Int) : List D := (xs.drop (bound xs.length 0 lo)).take (bound xs.length xs.length hi - bound xs.length 0 lo)
def sliceF : D → Option Int → Option Int → Option D
  | .list xs, lo, hi => some (.list (cut xs lo hi))
  | .tuple xs, lo, hi => some (.tuple (cut xs lo hi))
  | _, _, _ => none
def ints? : List D → Option (List Int)
  | [] => some []
  | .int i :: r => (ints? r).map (i :: ·)
  | _ :: _ => none
def bools? : List D → Option (List Bool)
  | [] => some []
  | .bool i :: r => (bools? r).map (i :: ·)
  | _ :: _ => none
/-- each thing once, the first ones -/
def firsts : List D → List D → List D
  | acc, [] => acc
  | acc, x :: xs => if acc.any (fun y => PyData.eqv y x) then firsts acc xs else firsts (acc ++ [x]) xs
def rangeD (i j : Int) : List D := (List.range (j - i).toNat).map fun (k : Nat) => PyData.int (i + (k : Int))
def blt_len : List D → Option D
  | [.list xs] => some (.int xs.length)
  | [.tuple xs] => some (.int xs.length)
  | _ => none
def blt_abs : List D → Option D
  | [.int i] => some (.int (if i < 0 then -i else i))
  | _ => none
def blt_max2 : List D → Option D
  | [.int i, .int j] => some (.int (if j > i then j else i))
  | _ => none
def blt_min2 : List D → Option D
  | [.int i, .int j] => some (.int (if j < i then j else i))
  | _ => none
def blt_int1 : List D → Option D
  | [.int i] => some (.int i)
  | [.bool b] => some (.int (if b then 1 else 0))
  | _ => none
def blt_str1 : List D → Option D
  | [.int i] => if i.natAbs.log2 < 1920 then some (.str (toString i)) else none
  | _ => none
def blt_repr : List D → Option D
  | [d] => if d.showable && !d.hasDict && decide (d.shown.length ≤ LINE) && decide (PyData.depth d ≤ 64) && noDict d then some (.str d.shown) else none
  | _ => none
def blt_all : List D → Option D
  | [.list xs] => (bools? xs).map fun bs => .bool (bs.all id)
  | _ => none
def blt_any : List D → Option D
  | [.list xs] => (bools? xs).map fun bs => .bool (bs.any id)
  | _ => none
def blt_sum : List D → Option D
  | [.list xs] => (ints? xs).map fun ns => .int ns.sum
  | [.tuple xs] => (ints? xs).map fun ns => .int ns.sum
  | _ => none
/-- data that sorted takes: all alike, tuples with items or none of them a tuple -/
def sortOk (xs : List D) : Bool := (xs.all fun x => xs.all fun y => PySem.W.alike x y) && (xs.all fun x => decide (x.depth ≤ 64) && noDict x) && decide (xs.length ≤ LINE) &&
  ((xs.all fun x => match x with
    | .tuple (_ :: _) => true
    | _ => false) || xs.all fun x => match x with
    | .tuple _ => false
    | .none => false
    | _ => true)
/-- numbers, rising -/
def isort (ns : List Int) : List Int := ns.mergeSort fun a b => decide (a ≤ b)
def blt_sorted : List D → Option D
  | [.list xs] => if sortOk xs then some (.list (xs.mergeSort (PySem.W.dataLe false id))) else none
  | [.tuple xs] => (ints? xs).bind fun ns => if ns.length < 64 then some (.list ((isort ns).map .int)) else none
  | _ => none
/-- each key once, in the order in which they come -/
def uniqTo (acc : List NestedKey) : List NestedKey → List NestedKey
  | [] => acc
  | k :: ks => if k ∈ acc then uniqTo acc ks else uniqTo (acc ++ [k]) ks
def uniq (ks : List NestedKey) : List NestedKey := uniqTo [] ks
/-- a number put into a row of numbers that rise -/
def insU (k : Int) : List Int → List Int
  | [] => [k]
  | x :: xs => if k < x then k :: x :: xs else if k = x then x :: xs else x :: insU k xs
/-- numbers, each once, rising -/
def sortU : List Int → List Int
  | [] => []
  | x :: xs => insU x (sortU xs)
/-- sorted(set(xs)) -/
def blt_sortset : List D → Option D
  | [.list ds] => (ints? ds).bind fun ns => if ns.length < 64 then some (.list ((sortU ns).map .int)) else none
  | _ => none
/-- tuples that may be keys -/
def keysT : List D → Option (List NestedKey)
  | [] => some []
  | d :: ds => (key? d).bind fun k => (keysT ds).map (k :: ·)
/-- len(set(t)) -/
def blt_lenset : List D → Option D
  | [.tuple ds] => (keysT ds).bind fun ks => if ks.length < 64 then some (.int (uniq ks).length) else none
  | _ => none
/-- list(range(n)), tuple(range(n)) -/
def blt_rangel : List D → Option D
  | [.int n] => if -1000 ≤ n ∧ n ≤ 1000 then some (.list (rangeD 0 n)) else none
  | _ => none
def blt_ranget : List D → Option D
  | [.int n] => if -1000 ≤ n ∧ n ≤ 1000 then some (.tuple (rangeD 0 n)) else none
  | _ => none
/-- a tuple of numbers: its sum ahead of it -/
def rkey : D → D
  | .tuple ds => .tuple [.int ((ints? ds).getD []).sum, .tuple ds]
  | d => d
def isIntsT : D → Bool
  | .tuple ds => (ints? ds).isSome
  | _ => false
/-- sorted(xs, key=rank, reverse=True), the rank of a tuple its sum and the tuple -/
def blt_sortrank : List D → Option D
  | [.list xs] => if (xs.all isIntsT && sortOk (xs.map rkey)) = true then some (.list (xs.mergeSort (PySem.W.dataLe true rkey))) else none
  | _ => none
def blt_gcd : List D → Option D
  | [.int i, .int j] => some (.int ((Nat.gcd i.natAbs j.natAbs : Nat) : Int))
  | _ => none
def blt_divmod : List D → Option D
  | [.int i, .int j] => if 0 < j ∧ j < 1073741824 then some (.tuple [.int (i / j), .int (i % j)]) else none
  | _ => none
def blt_tuple : List D → Option D
  | [.list xs] => some (.tuple xs)
  | [.tuple xs] => some (.tuple xs)
  | _ => none
def blt_list : List D → Option D
  | [.list xs] => some (.list xs)
  | [.tuple xs] => some (.list xs)
  | _ => none
/-- max of numbers -/
def blt_maxl : List D → Option D
  | [.list xs] => match ints? xs with
    | some (n :: ns) => some (.int (ns.foldl max n))
    | _ => none
  | [.tuple xs] => match ints? xs with
    | some (n :: ns) => if xs.length ≤ LINE then some (.int (ns.foldl max n)) else none
    | _ => none
  | _ => none
def bltF : Blt → List D → Option D
  | .len => blt_len
  | .abs => blt_abs
  | .max2 => blt_max2
  | .min2 => blt_min2
  | .int1 => blt_int1
  | .str1 => blt_str1
  | .repr => blt_repr
  | .all => blt_all
  | .any => blt_any
  | .sum => blt_sum
  | .gcd => blt_gcd
  | .divmod => blt_divmod
  | .tuple => blt_tuple
  | .list => blt_list
  | .lenset => blt_lenset
  | .sorted => blt_sorted
  | .sortset => blt_sortset
  | .rangel => blt_rangel
  | .ranget => blt_ranget
  | .sortrank => blt_sortrank
  | .maxl => blt_maxl
/-- pairs laid into a dict, one behind another -/
def dFold : List (D × D) → List D → Option (List (D × D))
  | acc, [] => some acc
  | acc, .tuple [k, v] :: r => (key? k).bind fun q => if acc.length < LINE then dFold (dPut acc q k v) r else none
  | _, _ :: _ => none
/-- dict(xs) of a tuple of pairs -/
def dictOfF : D → Option D
  | .tuple xs => if xs.length ≤ LINE then (dFold [] xs).map .dict else none
  | _ => none
/-- d.get(k, x) -/
def getF : D → D → D → Option D
  | .dict kvs, y, z => (key? y).map fun k => (dGet kvs k).getD z
  | _, _, _ => none
def methF : Met → D → List D → Option D
  | .index, .tuple xs, [.int x] => (ints? xs).bind fun ns => (ns.findIdx? (· == x)).map fun (j : Nat) => PyData.int (j : Int)
  | _, _, _ => none
def isF : Ty → D → Bool
  | .int, d => d.isInt
  | .bool, d => d.isBool
  | .str, d => d.isStr
  | .tuple, d => d.isTuple
  | .list, d => d.isList
  | .dict, d => d.isDict
/-! ### the evaluator: Ph is what calls of defs do -/
/-- a def of the text: its parameters, slots, whether its first argument is a list that it may change, whether it hands out a new list; its body -/
structure Def where
  name : Str
  params : Nat
  N : List Str
  br : Bool
  fresh : Bool
  body : Sts
/-- what a call gives: the value, the first argument behind it (where it may change) -/
abbrev CallF := Str → List D → Res (D × D)
/-- an operand: a value, or a slot that is looked at when the operation is done -/
inductive Opd where
  | val (d : D)
  | slot (i : Nat)
def look (env : Fram) (i : Nat) : Option D := match env[i]? with
  | some (.val d) => some d
  | some (.own d) => some d
  | _ => none
def deref (env : Fram) : Opd → Option D
  | .val d => some d
  | .slot i => look env i
def derefs (env : Fram) : List Opd → Option (List D)
  | [] => some []
  | o :: r => (deref env o).bind fun d => (derefs env r).map (d :: ·)
def isOwn (env : Fram) (i : Nat) : Bool := match env[i]? with
  | some (.own _) => true
  | _ => false
def isOwnL (env : Fram) (i : Nat) : Bool := match env[i]? with
  | some (.own (.list _)) => true
  | _ => false
/-- an operand: a slot that is the def's own is not read at once -/
def opd (e : Exp) (env : Fram) (r : Res (D × Fram)) : Res (Opd × Fram) := match e with
  | .var i => if isOwn env i then .ok (.slot i, env) else r.bind fun p => .ok (.val p.1, p.2)
  | _ => r.bind fun p => .ok (.val p.1, p.2)
/-- a slot is read for keeps: what was the def's own is so no longer -/
def readVar (i : Nat) (env : Fram) : Res (D × Fram) := match env[i]? with
  | some (.val d) => .ok (d, env)
  | some (.own d) => if i = 0 then .bad else .ok (d, env.set i (.val d))
  | _ => .bad
/-- slots emptied -/
def wipeF (env : Fram) : List Nat → Fram
  | [] => env
  | v :: vs => (wipeF env vs).set v .non
/-- the slots of a comprehension's own names, as they were -/
def restore (env old : Fram) : List Nat → Fram
  | [] => env
  | v :: vs => (restore env old vs).set v (old[v]?.getD .non)
mutual
def store : Tg → D → Fram → Option Fram
  | .name i, d, env => if i < env.length && !isOwn env i then some (env.set i (.val d)) else none
  | .tup ts, .tuple ds, env => stores ts ds env
  | .tup ts, .list ds, env => none
  | _, _, _ => none
def stores : List Tg → List D → Fram → Option Fram
  | [], [], env => some env
  | t :: ts, d :: ds, env => (store t d env).bind (stores ts ds)
  | _, _, _ => none
end
/-- the operands' own slots that are handed to a def as they stand -/
def anySlot : List Opd → Bool
  | [] => false
  | .slot _ :: _ => true
  | .val _ :: r => anySlot r
def zipD : List D → List D → List D
  | x :: xs, y :: ys => .tuple [x, y] :: zipD xs ys
  | _, _ => []
def enumD : Nat → List D → List D
  | _, [] => []
  | k, x :: xs => .tuple [.int k, x] :: enumD (k + 1) xs
def items? : D → Option (List D)
  | .list xs => some xs
  | .tuple xs => some xs
  | _ => none
/-- what a walk yields -/
def walk? : D → Option (List D)
  | .dict kvs => some (kvs.map (·.1))
  | d => items? d
/-- the items one by one: the target, the tests, the element -/
def compLoop (turn : D → Fram → Res (Option D × Fram)) : List D → List D → Fram → Res (List D × Fram)
  | [], acc, env => .ok (acc, env)
  | x :: xs, acc, env => (turn x env).bind fun p => compLoop turn xs (match p.1 with
    | some y => acc ++ [y]
    | none => acc) p.2
/-- the keywords' values in the parameters' order -/
def permV {A : Type} (perm : List Nat) (xs : List A) : List A := perm.filterMap fun i => xs[i]?
section
variable (Ph : CallF)
/-- a call: the operands are looked at when all are there -/
def callE (f : Str) (br : Bool) (os : List Opd) (env : Fram) : Res (D × Fram) := (opt (derefs env os)).bind fun ds => match br with
  | false => (match Ph f ds with
    | .ok (d, _) => if anySlot os && !flat d then .bad else .ok (d, env)
    | .exc x _ => .exc x env
    | .bad => .bad)
  | true => (match os with
    | .slot i :: rest => if (decide (i = 0) && isOwn env 0 && !anySlot rest) = true then (match Ph f ds with
      | .ok (d, d0) => .ok (d, env.set 0 (.own d0))
      | _ => .bad) else .bad
    | _ => .bad)
mutual
def ev : Exp → Fram → Res (D × Fram)
  | .var i, env => readVar i env
  | .int i, env => .ok (.int i, env)
  | .str s, env => .ok (.str s, env)
  | .bl b, env => .ok (.bool b, env)
  | .non, env => .ok (.none, env)
  | .glob _ d, env => .ok (d, env)
  | .tup es, env => (evs es env).bind fun p => .ok (.tuple p.1, p.2)
  | .lst es, env => (evs es env).bind fun p => .ok (.list p.1, p.2)
  | .dict0, env => .ok (.dict [], env)
  | .bin o a b, env => (opd a env (ev a env)).bind fun p => (opd b p.2 (ev b p.2)).bind fun q => (opt (deref q.2 p.1)).bind fun x => (opt (deref q.2 q.1)).bind fun y => (opt (binF o x y)).bind fun z => .ok (z, q.2)
  | .neg a, env => (ev a env).bind fun p => match p.1 with
    | .int i => .ok (.int (-i), p.2)
    | _ => .bad
  | .nott a, env => (ev a env).bind fun p => match p.1 with
    | .bool b => .ok (.bool (!b), p.2)
    | _ => .bad
  | .conj es, env => evAnd es env
  | .disj es, env => evOr es env
  | .cmp .isN a _, env => (opd a env (ev a env)).bind fun p => (opt (deref p.2 p.1)).bind fun x => .ok (.bool (isNoneD x), p.2)
  | .cmp .notN a _, env => (opd a env (ev a env)).bind fun p => (opt (deref p.2 p.1)).bind fun x => .ok (.bool (!isNoneD x), p.2)
  | .cmp o a b, env => (opd a env (ev a env)).bind fun p => (opd b p.2 (ev b p.2)).bind fun q => (opt (deref q.2 p.1)).bind fun x => (opt (deref q.2 q.1)).bind fun y => (opt (cmpF o x y)).bind fun z => .ok (.bool z, q.2)
  | .cmp2 o o' a b c, env => (ev a env).bind fun p => (ev b p.2).bind fun q => (opt (cmpF o p.1 q.1)).bind fun z => match z with
    | false => .ok (.bool false, q.2)
    | true => (ev c q.2).bind fun r => (opt (cmpF o' q.1 r.1)).bind fun z' => .ok (.bool z', r.2)
  | .ite c a b, env => (ev c env).bind fun p => match p.1 with
    | .bool true => ev a p.2
    | .bool false => ev b p.2
    | _ => .bad
  | .idx a i, env => (opd a env (ev a env)).bind fun p => (ev i p.2).bind fun q => (opt (deref q.2 p.1)).bind fun x => (opt (idxF x q.1)).bind fun z => .ok (z, q.2)
  | .slice a lo hi, env => (opd a env (ev a env)).bind fun p => (evo lo p.2).bind fun q => (evo hi q.2).bind fun r => (opt (deref r.2 p.1)).bind fun x => (opt (sliceF x q.1 r.1)).bind fun z => .ok (z, r.2)
  | .rev a, env => (opd a env (ev a env)).bind fun p => (opt (deref p.2 p.1)).bind fun x => match x with
    | .list xs => .ok (.list xs.reverse, p.2)
    | .tuple xs => .ok (.tuple xs.reverse, p.2)
    | _ => .bad
  | .call f br es, env => (evp es env).bind fun p => callE Ph f br p.1 p.2
  | .callK f _ es kes _ perm, env => (evp es env).bind fun p => (evp kes p.2).bind fun q => callE Ph f false (p.1 ++ permV perm q.1) q.2
  | .callJ f g es, env => (evs es env).bind fun p => match Ph g p.1 with
    | .ok (j, _) => (match Ph f [j] with
      | .ok (d, _) => .ok (d, p.2)
      | _ => .bad)
    | _ => .bad
  | .blt b es, env => (evp es env).bind fun p => (opt (derefs p.2 p.1)).bind fun ds => (opt (bltF b ds)).bind fun z => .ok (z, p.2)
  | .isi a t, env => (opd a env (ev a env)).bind fun p => (opt (deref p.2 p.1)).bind fun x => .ok (.bool (isF t x), p.2)
  | .meth m o es, env => (ev o env).bind fun p => if p.1.isTuple = true then (evs es p.2).bind fun q => (opt (methF m p.1 q.1)).bind fun z => .ok (z, q.2) else .bad
  | .get2 i k d, env => match look env i with
    | some (.dict _) => (ev k env).bind fun p => (ev d p.2).bind fun q => (opt (look q.2 i)).bind fun x => (opt (getF x p.1 q.1)).bind fun z => .ok (z, q.2)
    | _ => .bad
  | .dictof a, env => (ev a env).bind fun p => (opt (dictOfF p.1)).bind fun z => .ok (z, p.2)
  | .dcomp _ i j a, env => if (decide (i < env.length) && decide (j < env.length)) = true then (ev a env).bind fun p => (opt (dictOfF p.1)).bind fun z => .ok (z, p.2) else .bad
  | .pop i, env => match env[i]? with
    | some (.own (.list xs)) => (match xs.getLast? with
      | some y => .ok (y, env.set i (.own (.list xs.dropLast)))
      | none => .bad)
    | _ => .bad
  | .popAt i e, env => if !isOwnL env i then .bad else (ev e env).bind fun p => match p.2[i]?, p.1 with
    | some (.own (.list xs)), .int k => (match place xs.length k with
      | some j => (match xs[j]? with
        | some y => if xs.length ≤ LINE then .ok (y, p.2.set i (.own (.list (xs.eraseIdx j)))) else .bad
        | none => .bad)
      | none => .bad)
    | _, _ => .bad
  | .comp elt tg it cs own, env => (evIt it env).bind fun p => if ((own.map (·.2)).all fun v => !isOwn p.2 v) && decide (p.1.length ≤ LINE) then
    (compLoop (fun x e => noExc ((opt (store tg x e)).bind fun e1 => (evTests cs e1).bind fun q => match q.1 with
      | true => (ev elt q.2).bind fun r => .ok (some r.1, wipeF r.2 (own.map (·.2)))
      | false => .ok (none, wipeF q.2 (own.map (·.2))))) p.1 [] (wipeF p.2 (own.map (·.2)))).bind fun r => .ok (.list r.1, restore r.2 p.2 (own.map (·.2))) else .bad
def evs : Exs → Fram → Res (List D × Fram)
  | .nil, env => .ok ([], env)
  | .cons e es, env => (ev e env).bind fun p => (evs es p.2).bind fun q => .ok (p.1 :: q.1, q.2)
/-- arguments as operands -/
def evp : Exs → Fram → Res (List Opd × Fram)
  | .nil, env => .ok ([], env)
  | .cons e es, env => (opd e env (ev e env)).bind fun p => (evp es p.2).bind fun q => .ok (p.1 :: q.1, q.2)
def evo : Exo → Fram → Res (Option Int × Fram)
  | .non, env => .ok (none, env)
  | .som e, env => (ev e env).bind fun p => match p.1 with
    | .int i => .ok (some i, p.2)
    | _ => .bad
def evAnd : Exs → Fram → Res (D × Fram)
  | .nil, _ => .bad
  | .cons e es, env => (ev e env).bind fun p => match p.1 with
    | .bool false => .ok (.bool false, p.2)
    | .bool true => (match es with
      | .nil => .ok (.bool true, p.2)
      | _ => evAnd es p.2)
    | _ => .bad
def evOr : Exs → Fram → Res (D × Fram)
  | .nil, _ => .bad
  | .cons e es, env => (ev e env).bind fun p => match p.1 with
    | .bool true => .ok (.bool true, p.2)
    | .bool false => (match es with
      | .nil => .ok (.bool false, p.2)
      | _ => evOr es p.2)
    | _ => .bad
/-- a comprehension's tests, all -/
def evTests : Exs → Fram → Res (Bool × Fram)
  | .nil, env => .ok (true, env)
  | .cons e es, env => (ev e env).bind fun p => match p.1 with
    | .bool true => evTests es p.2
    | .bool false => .ok (false, p.2)
    | _ => .bad
def evIt : Itx → Fram → Res (List D × Fram)
  | .seq e, env => (ev e env).bind fun p => (opt (walk? p.1)).bind fun xs => .ok (xs, p.2)
  | .range1 e, env => (ev e env).bind fun p => match p.1 with
    | .int j => if -(2 ^ 62) ≤ j ∧ j ≤ LINE then .ok (rangeD 0 j, p.2) else .bad
    | _ => .bad
  | .range2 a b, env => (ev a env).bind fun p => (ev b p.2).bind fun q => match p.1, q.1 with
    | .int i, .int j => if (-(2 ^ 62) ≤ i ∧ i < 2 ^ 62 ∧ -(2 ^ 62) ≤ j ∧ j < 2 ^ 62) ∧ j - i ≤ LINE then .ok (rangeD i j, q.2) else .bad
    | _, _ => .bad
  | .zip a b, env => (ev a env).bind fun p => (ev b p.2).bind fun q => (opt (items? p.1)).bind fun xs => (opt (items? q.1)).bind fun ys => .ok (zipD xs ys, q.2)
  | .enum a, env => (ev a env).bind fun p => (opt (items? p.1)).bind fun xs => .ok (enumD 0 xs, p.2)
end
/-! ### statements -/
inductive Flw where
  | nx
  | brk
  | cont
  | ret (d : D) (fresh : Bool)
/-- whether an expression makes a new list or dict -/
def makes : Exp → Bool
  | .lst _ => true
  | .dict0 => true
  | .dictof _ => true
  | .dcomp _ _ _ _ => true
  | .comp _ _ _ _ _ => true
  | .slice _ _ _ => true
  | .bin .add _ _ => true
  | .bin .mul _ _ => true
  | .blt .list _ => true
  | .blt .rangel _ => true
  | .blt .sorted _ => true
  | .rev _ => true
  | _ => false
def isSeq : D → Bool
  | .list _ => true
  | .dict _ => true
  | _ => false
/-- several slots at once -/
def putAll (br : Bool) : List (Nat × Bool) → Exs → List D → Fram → Option Fram
  | [], .nil, [], env => some env
  | (i, o) :: is, .cons e es, d :: ds, env => if i < env.length && !(br && i == 0) && (!o || (makes e && isSeq d)) then putAll br is es ds (env.set i (if o then .own d else .val d)) else none
  | _, _, _, _ => none
def forLoop (turn : D → Fram → Res (Flw × Fram)) : List D → Fram → Res (Flw × Fram)
  | [], env => .ok (.nx, env)
  | x :: xs, env => (turn x env).bind fun p => match p.1 with
    | .nx => forLoop turn xs p.2
    | .cont => forLoop turn xs p.2
    | .brk => .ok (.nx, p.2)
    | .ret d f => .ok (.ret d f, p.2)
def whileLoop (test : Fram → Res (D × Fram)) (body : Fram → Res (Flw × Fram)) : Nat → Fram → Res (Flw × Fram)
  | 0, _ => .bad
  | n + 1, env => (test env).bind fun p => match p.1 with
    | .bool false => .ok (.nx, p.2)
    | .bool true => (body p.2).bind fun q => (match q.1 with
      | .nx => whileLoop test body n q.2
      | .cont => whileLoop test body n q.2
      | .brk => .ok (.nx, q.2)
      | .ret d f => .ok (.ret d f, q.2))
    | _ => .bad
variable (wf : Nat) (br : Bool)
mutual
def evS : Stm → Fram → Res (Flw × Fram)
  | .expr e, env => (ev Ph e env).bind fun p => .ok (.nx, p.2)
  | .set i e, env => (ev Ph e env).bind fun p => if i < p.2.length && !(br && i == 0) then .ok (.nx, p.2.set i (.val p.1)) else .bad
  | .own i e, env => (ev Ph e env).bind fun p => if i < p.2.length && !(br && i == 0) && makes e && isSeq p.1 then .ok (.nx, p.2.set i (.own p.1)) else .bad
  | .unp ts e, env => (ev Ph e env).bind fun p => match p.1 with
    | .tuple ds => (opt (stores ts ds p.2)).bind fun e1 => .ok (.nx, e1)
    | _ => .bad
  | .par is es, env => (evs Ph es env).bind fun p => (opt (putAll br is es p.1 p.2)).bind fun e1 => .ok (.nx, e1)
  | .setIx i ix e, env => (ev Ph e env).bind fun p => if !isOwn p.2 i then .bad else (ev Ph ix p.2).bind fun q => match q.2[i]?, q.1 with
    | some (.own (.list xs)), .int k => (match place xs.length k with
      | some j => .ok (.nx, q.2.set i (.own (.list (xs.set j p.1))))
      | none => .bad)
    | some (.own (.dict kvs)), y => (match key? y with
      | some k => if kvs.length < LINE then .ok (.nx, q.2.set i (.own (.dict (dPut kvs k y p.1)))) else .bad
      | none => .bad)
    | _, _ => .bad
  | .jar i ix j e, env => (ev Ph e env).bind fun p => match p.1 with
    | .tuple [x, y] => if !isOwn p.2 i then .bad else (ev Ph ix p.2).bind fun q => (match q.2[i]?, q.1 with
      | some (.own (.list xs)), .int k => (match place xs.length k with
        | some m => (opt (store (.name j) y (q.2.set i (.own (.list (xs.set m x)))))).bind fun e1 => .ok (.nx, e1)
        | none => .bad)
      | _, _ => .bad)
    | _ => .bad
  | .append i e, env => if !isOwnL env i then .bad else (ev Ph e env).bind fun p => match p.2[i]? with
    | some (.own (.list xs)) => if xs.length < LINE then .ok (.nx, p.2.set i (.own (.list (xs ++ [p.1])))) else .bad
    | _ => .bad
  | .extend i e, env => if !isOwnL env i then .bad else (ev Ph e env).bind fun p => match p.2[i]?, p.1 with
    | some (.own (.list xs)), .list ys => if xs.length + ys.length ≤ LINE then .ok (.nx, p.2.set i (.own (.list (xs ++ ys)))) else .bad
    | _, _ => .bad
  | .ret e, env => (match e with
    | .var i => if isOwn env i && !(i == 0) then (opt (look env i)).bind fun d => .ok (.ret d true, env) else (ev Ph e env).bind fun p => .ok (.ret p.1 false, p.2)
    | _ => (ev Ph e env).bind fun p => .ok (.ret p.1 (makes e && isSeq p.1), p.2))
  | .retN, env => .ok (.ret .none false, env)
  | .iff c a b, env => (ev Ph c env).bind fun p => match p.1 with
    | .bool true => evSs a p.2
    | .bool false => evSs b p.2
    | _ => .bad
  | .whil c b, env => whileLoop (fun e => ev Ph c e) (fun e => evSs b e) wf env
  | .forr tg it b, env => (evIt Ph it env).bind fun p => forLoop (fun x e => (opt (store tg x e)).bind fun e1 => evSs b e1) p.1 p.2
  | .brk, env => .ok (.brk, env)
  | .cont, env => .ok (.cont, env)
  | .pass, env => .ok (.nx, env)
  | .never, _ => .bad
def evSs : Sts → Fram → Res (Flw × Fram)
  | .nil, env => .ok (.nx, env)
  | .cons s ss, env => (evS s env).bind fun p => match p.1 with
    | .nx => evSs ss p.2
    | .brk => .ok (.brk, p.2)
    | .cont => .ok (.cont, p.2)
    | .ret d f => .ok (.ret d f, p.2)
end
end
/-! ### defs -/
/-- the frame at a call -/
def begin (fn : Def) (ds : List D) : Fram := (match fn.br, ds with
  | true, d :: r => .own d :: r.map .val
  | _, _ => ds.map .val) ++ List.replicate (fn.N.length - ds.length) .non
/-- the first argument behind a call, where the def may change it -/
def out0 (br : Bool) (env : Fram) : Option D := match br with
  | false => some .none
  | true => (match env[0]? with
    | some (Slot.own d) => some d
    | _ => none)
def runFn (Ph : CallF) (wf : Nat) (fn : Def) (ds : List D) : Res (D × D) := if ds.length = fn.params then (match evSs Ph wf fn.br fn.body (begin fn ds) with
    | .ok (fl, env) => (match fl with
      | .ret d f => if fn.fresh && !f then .bad else (opt (out0 fn.br env)).bind fun d0 => .ok (d, d0)
      | .nx => if fn.fresh then .bad else (opt (out0 fn.br env)).bind fun d0 => .ok (.none, d0)
      | _ => .bad)
    | .exc x e => .exc x e
    | .bad => .bad) else .bad
/-- the defs of a text, to a depth of calls -/
def callN (tb : List Def) (wf : Nat) : Nat → CallF
  | 0, _, _ => .bad
  | n + 1, f, ds => match tb.find? (fun fn => fn.name == f) with
    | some fn => runFn (callN tb wf n) wf fn ds
    | none => .bad
end PV
set_option Elab.async false
set_option linter.all false
set_option maxRecDepth 100000
set_option maxHeartbeats 1000000
/-! PV, part T: sets of keys of any kind that lies in tuples; how many they hold. -/
namespace PV.T
open PySem PySem.Spec PyProof.Rows L2
section
variable {M : Model} {A : Around} {E : Value → Shared → Prop} {s : Shared}
theorem no {B : Type} {c : Prop} [Decidable c] {x y : Sem B} {Q : B → Shared → Prop} (n : ¬ c) (h : wpAny M A y Q E s) : wpAny M A (if c then x else y) Q E s := (if_neg n (t := x) (e := y)).symm ▸ h
theorem yes {B : Type} {c : Prop} [Decidable c] {x y : Sem B} {Q : B → Shared → Prop} (n : c) (h : wpAny M A x Q E s) : wpAny M A (if c then x else y) Q E s := (if_pos n (t := x) (e := y)).symm ▸ h
end
/-! ### what is asked of a key -/
section
variable {P : Program} {w : World} {A : Around} {E : Value → Shared → Prop} {s : Shared}
theorem nest_mem {h : Heap} : ∀ {ks : List NestedKey} {vs : List Value}, NestedAll h ks vs → ∀ u ∈ vs, ∃ k ∈ ks, NestedIs h k u
  | _, _, .nil, u, hu => by cases hu
  | _, _, .cons (k := k) (ks := ks) a b, u, hu => by
    rcases List.mem_cons.mp hu with rfl | hu
    · exact ⟨k, List.mem_cons_self .., a⟩
    · obtain ⟨k', h1, h2⟩ := nest_mem b u hu
      exact ⟨k', List.mem_cons_of_mem _ h1, h2⟩
theorem depth_mem : ∀ {ks : List NestedKey} {k : NestedKey}, k ∈ ks → k.depth ≤ NestedKey.depthAll ks
  | k' :: ks, k, h => by
    simp only [NestedKey.depthAll]
    rcases List.mem_cons.mp h with rfl | h
    · exact Nat.le_max_left ..
    · exact Nat.le_trans (depth_mem h) (Nat.le_max_right ..)
theorem cls_key : ∀ (k : NestedKey) (v : Value) (n : Nat) (A : Around) (Q : Bool → Shared → Prop), NestedIs s.heap k v → k.depth ≤ n → Q false s → wpAny (model P w) A (ofAClassStatement n v) Q E s
  | .none, v, n, A, Q, h, _, q => by
    cases h
    have e : ofAClassStatement n .none = pure false := by cases n <;> rfl
    rw [e]
    exact wpAny_pure q
  | .num i, v, n, A, Q, h, _, q => by
    have e : ofAClassStatement n v = pure false := by cases h <;> cases n <;> rfl
    rw [e]
    exact wpAny_pure q
  | .text x, v, n, A, Q, h, _, q => by
    cases h
    rename_i t
    have e : ofAClassStatement n (.str x t) = pure false := by cases n <;> rfl
    rw [e]
    exact wpAny_pure q
  | .tup ks, v, n, A, Q, h, hd, q => by
    obtain ⟨n, rfl⟩ : ∃ m, n = m + 1 := ⟨n - 1, by simp [NestedKey.depth] at hd; omega⟩
    cases h with
    | tup h1 h2 h3 h4 =>
      rename_i b o vs m
      have hT : s.TypeIs (.ref b) "tuple" := ⟨o, h1, h2⟩
      unfold ofAClassStatement
      refine wpAny_bind (wpAny_typeOf hT ?_)
      dsimp only
      simp only [show (("tuple" : String) == "tuple") = true by decide, if_true]
      refine wpAny_bind (wpAny_pure ?_)
      refine no (by decide) ?_
      show wpAny _ _ (seqItems? (Value.ref b) >>= _) _ _ s
      refine wpAny_bind (wpAny_seqItems h1 h3 ?_)
      dsimp only
      refine wpAny_bind ?_
      rw [← Array.forIn_toList]
      have all : ∀ u ∈ vs.toList, ∃ k ∈ ks, NestedIs s.heap k u := nest_mem h4
      refine wpAny_forIn_list _ (fun left r t => r.1 = none ∧ t = s ∧ ∀ u ∈ left, ∃ k ∈ ks, NestedIs s.heap k u) _ (fun u left r t z => ?_) (fun r t z => ?_) _ _ ⟨rfl, rfl, all⟩
      · obtain ⟨r1, ht, more⟩ := z
        replace ht := ht.symm
        subst ht
        obtain ⟨k, hk, hu⟩ := more u (List.mem_cons_self ..)
        have le : k.depth ≤ n := by
          have := depth_mem hk
          simp [NestedKey.depth] at hd
          omega
        refine wpAny_bind (cls_key k u n A _ hu le ?_)
        refine no (by decide) ?_
        exact wpAny_pure ⟨rfl, rfl, fun x hx => more x (List.mem_cons_of_mem _ hx)⟩
      · obtain ⟨r1, r2⟩ := r
        obtain ⟨e, ht, _⟩ := z
        replace ht := ht.symm
        subst ht
        cases (show r1 = none from e)
        exact wpAny_pure q
termination_by k => sizeOf k
decreasing_by
  have := List.sizeOf_lt_of_mem hk
  simp only [NestedKey.tup.sizeOf_spec]
  omega
/-- whether a hash tells by value: some answer -/
theorem val_key : ∀ (k : NestedKey) (v : Value) (n : Nat) (A : Around) (Q : Bool → Shared → Prop), NestedIs s.heap k v → k.depth ≤ n → (∀ b, Q b s) → wpAny (model P w) A (hashByValue n v) Q E s
  | .none, v, n, A, Q, h, _, q => by
    cases h
    have e : hashByValue n .none = pure true := by cases n <;> rfl
    rw [e]
    exact wpAny_pure (q _)
  | .num i, v, n, A, Q, h, _, q => by
    have e : hashByValue n v = pure true := by cases h <;> cases n <;> rfl
    rw [e]
    exact wpAny_pure (q _)
  | .text x, v, n, A, Q, h, _, q => by
    cases h
    rename_i t
    have e : hashByValue n (.str x t) = pure false := by cases n <;> rfl
    rw [e]
    exact wpAny_pure (q _)
  | .tup ks, v, n, A, Q, h, hd, q => by
    obtain ⟨n, rfl⟩ : ∃ m, n = m + 1 := ⟨n - 1, by simp [NestedKey.depth] at hd; omega⟩
    cases h with
    | tup h1 h2 h3 h4 =>
      rename_i b o vs m
      have hT : s.TypeIs (.ref b) "tuple" := ⟨o, h1, h2⟩
      unfold hashByValue
      refine wpAny_bind (wpAny_specialOf hT F.slot_tuple_hash.lookup ?_)
      show wpAny _ _ (seqItems? (Value.ref b) >>= _) _ _ s
      refine wpAny_bind (wpAny_seqItems h1 h3 ?_)
      refine wpAny_bind ?_
      show wpAny _ _ (forIn vs _ _) _ _ s
      rw [← Array.forIn_toList]
      have all : ∀ u ∈ vs.toList, ∃ k ∈ ks, NestedIs s.heap k u := nest_mem h4
      refine wpAny_forIn_list _ (fun left r t => r.1 = none ∧ t = s ∧ ∀ u ∈ left, ∃ k ∈ ks, NestedIs s.heap k u) _ (fun u left r t z => ?_) (fun r t z => ?_) _ _ ⟨rfl, rfl, all⟩
      · obtain ⟨r1, ht, more⟩ := z
        replace ht := ht.symm
        subst ht
        obtain ⟨k, hk, hu⟩ := more u (List.mem_cons_self ..)
        have le : k.depth ≤ n := by
          have := depth_mem hk
          simp [NestedKey.depth] at hd
          omega
        refine wpAny_bind (val_key k u n A _ hu le fun c => ?_)
        cases c with
        | true => exact no (by decide) (wpAny_pure ⟨rfl, rfl, fun x hx => more x (List.mem_cons_of_mem _ hx)⟩)
        | false => exact yes (by decide) (wpAny_pure (wpAny_pure (q _)))
      · obtain ⟨r1, r2⟩ := r
        obtain ⟨e, ht, _⟩ := z
        replace ht := ht.symm
        subst ht
        cases (show r1 = none from e)
        exact wpAny_pure (q _)
termination_by k => sizeOf k
decreasing_by
  have := List.sizeOf_lt_of_mem hk
  simp only [NestedKey.tup.sizeOf_spec]
  omega
/-- the object there is the key -/
abbrev At (P : Program) (w : World) (h : Heap) (k : NestedKey) (b : Addr) : Prop := (nestedKind P w).is h k b
/-- a look through keys shows nothing -/
theorem look_key {k : NestedKey} {b : Addr} {Q : Bool → Shared → Prop} (hk : At P w s.heap k b) {ys : List Value} (hy : ∀ y ∈ ys, ∃ k' c, y = Value.ref c ∧ At P w s.heap k' c) (q : Q false s) : wpAny (model P w) A (searchCouldBeSeen (.ref b) ys) Q E s := by
  unfold searchCouldBeSeen
  refine wpAny_bind (wpAny_forIn_list _ (fun left r t => r.1 = none ∧ t = s ∧ ∀ y ∈ left, ∃ k' c, y = Value.ref c ∧ At P w s.heap k' c) _ (fun u left r t z => ?_) (fun r t z => ?_) _ _ ⟨rfl, rfl, hy⟩)
  · obtain ⟨r1, ht, more⟩ := z
    replace ht := ht.symm
    subst ht
    obtain ⟨k', c, rfl, hc⟩ := more u (List.mem_cons_self ..)
    have next := fun y (m : y ∈ left) => more y (List.mem_cons_of_mem _ m)
    dsimp only
    by_cases same : (b == c || (carriedByValue (.ref b) && carriedByValue (.ref c))) = true
    · exact yes same (wpAny_pure ⟨rfl, rfl, next⟩)
    · refine no same (wpAny_bind ((nestedKind P w).quiet hk ?_))
      refine no (by decide) (wpAny_bind ((nestedKind P w).quiet hc ?_))
      refine no (by decide) (wpAny_bind (cls_key _ _ _ _ _ hk.1 hk.2 ?_))
      refine no (by decide) (wpAny_bind (cls_key _ _ _ _ _ hc.1 hc.2 ?_))
      exact no (by decide) (wpAny_pure ⟨rfl, rfl, next⟩)
  · obtain ⟨r1, r2⟩ := r
    obtain ⟨e, ht, _⟩ := z
    replace ht := ht.symm
    subst ht
    cases (show r1 = none from e)
    exact wpAny_pure q
/-- the rows of a set's table -/
def rws (w : World) (M : List (Addr × NestedKey)) : List (Int × Value) := M.map fun p => (p.2.hash w, Value.ref p.1)
def hsh (w : World) (M : List (Addr × NestedKey)) : List Int := M.map fun p => p.2.hash w
/-- the set at S holds the keys M -/
structure Has (P : Program) (w : World) (h : Heap) (S : Addr) (M : List (Addr × NestedKey)) (es : Array (Int × Value)) (ep : Nat) (t : SetTable) : Prop where
  obj : ∃ o, h.get? S = some o ∧ o.ExactSet ∧ o.data = .set es ep t
  row : es.toList = rws w M
  tab : TabOk t (hsh w M)
  nd : (M.map (·.2)).Nodup
  key : ∀ p ∈ M, At P w h p.2 p.1
  led : w.params.followText "set-order" = true ∨ t.led = true
  room : M.length * 5 < t.mask * 3
  few : M.length < 64
variable {S : Addr} {M : List (Addr × NestedKey)} {es : Array (Int × Value)} {ep : Nat} {t : SetTable}
theorem rws_size (e : es.toList = rws w M) : es.size = M.length := by
  have := congrArg List.length e
  simpa [rws] using this
theorem hsh_len : (hsh w M).length = M.length := by simp [hsh]
theorem Has.size (R : Has P w s.heap S M es ep t) : es.size = M.length := rws_size R.row
theorem fits_of (T : TabOk t (hsh w M)) (e : es.size = M.length) (le : M.length ≤ t.mask) : t.fits es.size = true := by
  have h1 := T.sz
  rw [hsh_len] at h1
  simp only [SetTable.fits, SetTable.fill, T.dm, Bool.and_eq_true, beq_iff_eq, decide_eq_true_eq]
  show t.place.size = es.size ∧ t.place.size + 0 ≤ t.mask
  omega
theorem Has.fits (R : Has P w s.heap S M es ep t) : t.fits es.size = true := fits_of R.tab R.size (by have := R.room; omega)
theorem rws_at {i : Nat} {p : Addr × NestedKey} (e : es.toList = rws w M) (h : M[i]? = some p) : es[i]? = some (p.2.hash w, Value.ref p.1) := by
  rw [← Array.getElem?_toList, e, rws, List.getElem?_map, h]
  rfl
theorem sure (R : Has P w s.heap S M es ep t) : ¬ t.gaveWay = true := by
  unfold SetTable.gaveWay
  rw [mask_odd R.tab.mok]
  decide
/-- a step of the way of a hash -/
abbrev step (t : SetTable) (g : Int) (c : Nat) : SetTable.Probe := nth t.mask (runAt t.mask (SetTable.bits g % (t.mask + 1)) (SetTable.bits g)) c
theorem step_more (t : SetTable) (g : Int) (c q : Nat) : nth t.mask (step t g c) q = step t g (c + q) := (nth_add t.mask c _ q).symm
theorem step_clean (t : SetTable) (g : Int) (c : Nat) : (step t g c).dummy = none := by
  have : ∀ (n : Nat) (p : SetTable.Probe), p.dummy = none → (nth t.mask p n).dummy = none := fun n => by
    induction n with
    | zero => exact fun _ h => h
    | succ n ih =>
      intro p h
      refine ih (adv t.mask p) ?_
      unfold adv
      split <;> exact h
  exact this c _ rfl
/-- the search among keys, from a step of the way on -/
theorem find_key (R : Has P w s.heap S M es ep t) {x : Addr} {k : NestedKey} (hx : At P w s.heap k x) (hu : A.units + 8 < cLine) {N : Nat} (few : N < 10 * SetTable.turns t.mask)
    (hN : way t.mask (k.hash w) N ∉ t.place.toList) (hb : ∀ c, c < N → way t.mask (k.hash w) c ∈ t.place.toList) {Q : SetFound → Shared → Prop}
    (old : k ∈ M.map (·.2) → Q (.there none) s) (new : k ∉ M.map (·.2) → Q (.free (way t.mask (k.hash w) N) false) s) (d : Nat) :
    ∀ (f c : Nat) (stand : Option SetTable.Probe), N - c = d → stand.getD (t.probeStart (k.hash w)) = step t (k.hash w) c → c ≤ N → d < f →
      (∀ (i : Nat) p, M[i]? = some p → p.2 = k → ∃ c', c ≤ c' ∧ c' < N ∧ t.place.toList[i]? = some (way t.mask (k.hash w) c')) →
      wpAny (model P w) A (setSearchFrom S (.ref x) (k.hash w) true f stand) Q E s := by
  induction d using Nat.strongRecOn with
  | ind d ih =>
    intro f c stand hd hst hc hf ahead
    obtain ⟨f, rfl⟩ : ∃ g, f = g + 1 := ⟨f - 1, by omega⟩
    obtain ⟨o, ho, hex, hod⟩ := R.obj
    have jat : ∀ q, (nth t.mask (step t (k.hash w) c) q).j = way t.mask (k.hash w) (c + q) := fun q => congrArg SetTable.Probe.j (step_more t _ c q)
    have hat : ∀ (i : Nat) p, M[i]? = some p → (es[i]?.map (·.1)).getD 0 = p.2.hash w := fun i p hp => by
      rw [rws_at R.row hp]
      rfl
    have spec := go_spec t R.tab.ris R.tab.dm (fun i => (es[i]?.map (·.1)).getD 0) (k.hash w) (10 * SetTable.turns t.mask) (N - c) _ (step_clean t _ c) (by omega)
      (fun q hq => by rw [jat]; exact hb (c + q) (by omega)) (by rw [jat, show c + (N - c) = N by omega]; exact hN)
    rw [setSearchFrom_succ]
    refine wpAny_bind (wpAny_setState_of ho hod R.fits ?_)
    dsimp only
    refine no (sure R) ?_
    rcases spec with ⟨q, i, hq, hi, hh, before, e⟩ | ⟨before, e⟩
    · have e' : t.probe (fun i => (es[i]?.map (·.1)).getD 0) (k.hash w) (stand.getD (t.probeStart (k.hash w))) = some (.candidate (way t.mask (k.hash w) (c + q)) i (step t (k.hash w) (c + (q + 1)))) := by
        rw [hst, ← jat, ← step_more]
        exact e
      rw [e']
      dsimp only
      rw [jat] at hi
      have il : i < M.length := by
        have h1 := (List.getElem?_eq_some_iff.mp hi).1
        have h2 := R.tab.sz
        rw [hsh_len] at h2
        rw [Array.length_toList] at h1
        omega
      obtain ⟨p, hp⟩ : ∃ p, M[i]? = some p := ⟨_, List.getElem?_eq_getElem il⟩
      have pm : p ∈ M := List.mem_of_getElem? hp
      have live : t.slot (way t.mask (k.hash w) (c + q)) = .live i := slot_live R.tab.ris hi
      have rest : wpAny (model P w) A (searchRest S (.ref x) (k.hash w) true f es t (way t.mask (k.hash w) (c + q)) i (step t (k.hash w) (c + (q + 1)))) Q E s := by
        unfold searchRest
        rw [rws_at R.row hp]
        dsimp only
        refine wpAny_bind (wpAny_holding ((nestedKind P w).eqBool hu (R.key p pm) hx ?_))
        refine wpAny_bind (wpAny_setState_of ho hod R.fits ?_)
        dsimp only
        by_cases eq : p.2 = k
        · exact yes (by simp [eq]) (wpAny_pure (old (List.mem_map.mpr ⟨p, pm, eq⟩)))
        · refine no (by simp [eq]) ?_
          rw [sameMem]
          dsimp only
          simp only [if_true, live, rws_at R.row hp]
          refine wpAny_bind (wpAny_isSame_ref_self (wpAny_bind (wpAny_pure ?_)))
          simp only [if_true]
          refine no (by simp [eq]) (ih (N - (c + (q + 1))) (by omega) f (c + (q + 1)) _ rfl rfl (by omega) (by omega) fun i0 p0 h0 k0 => ?_)
          obtain ⟨c', a1, a2, a3⟩ := ahead i0 p0 h0 k0
          refine ⟨c', Nat.not_lt.mp fun lt => ?_, a2, a3⟩
          rcases Nat.lt_or_ge c' (c + q) with z | z
          · exact before (c' - c) i0 (by omega) (by rw [jat, show c + (c' - c) = c' by omega]; exact a3) ((hat i0 p0 h0).trans (congrArg (NestedKey.hash w) k0))
          · have ec : c' = c + q := by omega
            rw [ec] at a3
            have live0 := slot_live R.tab.ris a3
            rw [live] at live0
            injection live0 with e0
            rw [← e0, hp] at h0
            cases h0
            exact eq k0
      by_cases hl : t.led = true
      · exact no (by simp [hl]) rest
      · refine yes (by simp [hl]) (wpAny_bind (look_key hx (fun y hy => ?_) (no (by decide) rest)))
        obtain ⟨r, hr, rfl⟩ := List.mem_map.mp hy
        have hr2 : r ∈ es.toList := by
          have : r ∈ es ∧ r.1 = k.hash w := by simpa using hr
          simpa using this.1
        rw [R.row] at hr2
        obtain ⟨p2, hp2, rfl⟩ := List.mem_map.mp hr2
        exact ⟨p2.2, p2.1, rfl, R.key p2 hp2⟩
    · have e' : t.probe (fun i => (es[i]?.map (·.1)).getD 0) (k.hash w) (stand.getD (t.probeStart (k.hash w))) = some (.empty (way t.mask (k.hash w) N) none) := by
        have : way t.mask (k.hash w) N = (nth t.mask (step t (k.hash w) c) (N - c)).j := by rw [jat, show c + (N - c) = N by omega]
        rw [hst, this]
        exact e
      rw [e']
      dsimp only
      refine wpAny_pure (new fun hm => ?_)
      obtain ⟨p0, h0, k0⟩ := List.mem_map.mp hm
      obtain ⟨i0, hi0⟩ := List.getElem?_of_mem h0
      obtain ⟨c', a1, a2, a3⟩ := ahead i0 p0 hi0 k0
      exact before (c' - c) i0 (by omega) (by rw [jat, show c + (c' - c) = c' by omega]; exact a3) ((hat i0 p0 hi0).trans (congrArg (NestedKey.hash w) k0))
/-- the search, as adding asks for it -/
theorem find_from_start (R : Has P w s.heap S M es ep t) {x : Addr} {k : NestedKey} (hx : At P w s.heap k x) (hu : A.units + 8 < cLine) {Q : SetFound → Shared → Prop} (old : k ∈ M.map (·.2) → Q (.there none) s)
    (new : ∀ N, k ∉ M.map (·.2) → way t.mask (k.hash w) N ∉ t.place.toList → (∀ c, c < N → way t.mask (k.hash w) c ∈ t.place.toList) → Q (.free (way t.mask (k.hash w) N) false) s) : wpAny (model P w) A (setSearch S (.ref x) (k.hash w) true) Q E s := by
  have room := R.room
  obtain ⟨N, few, hN, hb⟩ := R.tab.first (by rw [hsh_len]; omega) (k.hash w)
  have small : 10 * SetTable.turns t.mask ≤ 1420 := by
    unfold SetTable.turns
    rcases R.tab.mok with e | e | e <;> omega
  unfold setSearch
  refine find_key R hx hu few hN hb old (fun h => new N h hN hb) N 100000 0 none rfl rfl (Nat.zero_le _) (by omega) fun i p hp hk => ?_
  have h1 : (hsh w M)[i]? = some (k.hash w) := by
    rw [hsh, List.getElem?_map, hp, ← hk]
    rfl
  have h2 : i < t.place.toList.length := by
    have := (List.getElem?_eq_some_iff.mp hp).1
    have sz := R.tab.sz
    rw [hsh_len] at sz
    rw [Array.length_toList]
    omega
  obtain ⟨c, lt, e⟩ := R.tab.before hN h1 (List.getElem?_eq_getElem h2)
  exact ⟨c, Nat.zero_le _, lt, by rw [List.getElem?_eq_getElem h2, e]⟩
/-- a key is not the set -/
theorem at_same {h h' : Heap} {k : NestedKey} {b S : Addr} {o : Obj} {es : Array (Int × Value)} {ep : Nat} {t : SetTable} (x : At P w h k b) (ho : h.get? S = some o) (hd : o.data = .set es ep t) (q : Heap.SameBut S h h') : At P w h' k b :=
  nestedKind_stays.stays (fun c ob vs n e d => (q.2 c fun z => by
    subst z
    rw [ho] at e
    cases e
    rw [hd] at d
    cases d).trans e) x
theorem at_keep {h h' : Heap} {k : NestedKey} {b : Addr} (x : At P w h k b) (q : ∀ c o, h.get? c = some o → h'.get? c = some o) : At P w h' k b := nestedKind_stays.stays (fun c o _ _ e _ => q c o e) x
theorem pick_rows (e : es.toList = rws w M) : ∀ l : List Nat, (∀ i ∈ l, i < M.length) → l.filterMap (fun i => es[i]?) = rws w (l.filterMap fun i => M[i]?) ∧ hsh w (l.filterMap fun i => M[i]?) = l.map fun i => (es.map (·.1)).getD i 0
  | [], _ => ⟨rfl, rfl⟩
  | i :: l, h => by
    obtain ⟨e1, e2⟩ := pick_rows e l fun j hj => h j (List.mem_cons_of_mem _ hj)
    have hi := h i (List.mem_cons_self ..)
    have hp : M[i]? = some M[i] := List.getElem?_eq_getElem hi
    have he := rws_at e hp
    rw [List.filterMap_cons_some he, List.filterMap_cons_some hp, e1]
    refine ⟨rfl, ?_⟩
    show (M[i]).2.hash w :: hsh w _ = _
    rw [e2, List.map_cons]
    congr 1
    have : (es.map (·.1))[i]? = some ((M[i]).2.hash w) := by
      rw [Array.getElem?_map, he]
      rfl
    simp [Array.getD_eq_getD_getElem?, this]
theorem range_all (M : List (Addr × NestedKey)) : (List.range M.length).filterMap (fun i => M[i]?) = M := by
  have := PySem.W.krv_all M.toArray
  simpa using this
/-- the table laid anew -/
theorem relay_keys {o : Obj} (ho : s.heap.get? S = some o) (hex : o.ExactSet) (hd : o.data = .set es ep t) (row : es.toList = rws w M) (T : TabOk t (hsh w M)) (le : M.length ≤ t.mask) (nd : (M.map (·.2)).Nodup) (key : ∀ p ∈ M, At P w s.heap p.2 p.1)
    (led : w.params.followText "set-order" = true ∨ t.led = true) (few : M.length < 64) {big m : Nat} (hm : SetTable.sizeAbove big - 1 = m) (ok : MaskOk m) (fit : SetTable.sizeAbove big ≤ 128) (room : M.length * 5 < m * 3) {Q : Unit → Shared → Prop}
    (go : ∀ h' M' es' ep' t', Heap.SameBut S s.heap h' → Has P w h' S M' es' ep' t' → M'.Perm M → Q () { s with heap := h' }) : wpAny (model P w) A (setRelay S big) Q E s := by
  have size := rws_size row
  obtain ⟨t2, order, e, perm, T2, m2, l2, _, d2⟩ := relaid_ok t (hs := es.map (·.1)) (wanted := big) hm ok (by rw [Array.size_map, size]; omega)
  rw [Array.size_map, size] at perm
  obtain ⟨r1, r2⟩ := pick_rows row order.toList fun i hi => List.mem_range.mp (perm.mem_iff.mp hi)
  have pm : (order.toList.filterMap fun i => M[i]?).Perm M := by
    have := perm.filterMap fun i => M[i]?
    rw [range_all] at this
    exact this
  have row2 : (order.filterMap (es[·]?)).toList = rws w (order.toList.filterMap fun i => M[i]?) := by
    rw [Array.toList_filterMap]
    exact r1
  rw [← r2] at T2
  generalize order.toList.filterMap (fun i => M[i]?) = M2 at pm row2 T2
  have size2 := rws_size row2
  have len2 := pm.length_eq
  rw [setRelay_eq]
  refine wpAny_bind (wpAny_setState_of ho hd (fits_of T size le) ?_)
  dsimp only
  refine no (by rw [sizeLine_eq]; omega) ?_
  rw [e]
  dsimp only
  refine wpAny_bind (no (by rw [size2, size, len2]; simp) ?_)
  refine wpAny_pure ?_
  dsimp only
  have sb : Heap.SameBut S s.heap (s.heap.update S (Obj.putSet (order.filterMap (es[·]?)) t2)) := Heap.SameBut.update ..
  refine wpAny_storeSet_of ho hd (go _ M2 _ (ep + 1) t2 sb ⟨⟨_, store_at ho hd, ⟨hex.1, hex.2.1, hex.2.2⟩, rfl⟩, row2, T2, (pm.map (·.2)).nodup_iff.mpr nd, fun p hp => at_same (key p (pm.mem_iff.mp hp)) ho hd sb, by rw [l2]; exact led, by rw [len2, m2]; exact room, by omega⟩ pm) (by rw [size2, len2, sizeLine_eq]; omega)
/-- a key is added -/
theorem add_key (R : Has P w s.heap S M es ep t) {x : Addr} {k : NestedKey} (hx : At P w s.heap k x) (hu : A.units + 8 < cLine) (few : M.length + 1 < 64) {Q : Bool → Shared → Prop}
    (go : ∀ b h' M' es' ep' t', Heap.SameBut S s.heap h' → Has P w h' S M' es' ep' t' → (k ∈ M.map (·.2) → M' = M) → (k ∉ M.map (·.2) → M'.Perm ((x, k) :: M)) → Q b { s with heap := h' }) :
    wpAny (model P w) A (setAddHashed S (.ref x) (k.hash w)) Q E s := by
  obtain ⟨o, ho, hex, hd⟩ := R.obj
  have size := R.size
  have room := R.room
  unfold setAddHashed
  refine wpAny_holding ?_
  rw [show (100000 : Nat) = 99999 + 1 from rfl, setAddHashedIn_succ]
  refine wpAny_bind (wpAny_setState_of ho hd R.fits ?_)
  dsimp only
  refine no (by simp [byScan, Value.scannable]) ?_
  refine wpAny_bind (find_from_start R hx hu (fun hm => ?_) fun N hm hN hb => ?_)
  · dsimp only
    exact wpAny_pure (go false s.heap M es ep t (Heap.SameBut.refl S s.heap) R (fun _ => rfl) fun z => absurd hm z)
  dsimp only
  refine wpAny_bind (wpAny_setState_of ho hd R.fits ?_)
  dsimp only
  obtain ⟨u1, u2, u3, u4, u5, u6, u7, u8, u9⟩ := R.tab.put hN hb
  rw [hsh_len] at u2 u9
  generalize t.put (way t.mask (k.hash w) N) = pt at u1 u3 u4 u5 u6 u7 u8 u9 ⊢
  obtain ⟨t1, p⟩ := pt
  dsimp only at u1 u3 u4 u5 u6 u7 u8 u9 ⊢
  subst u1
  have row1 : (SetTable.insertAt es (SetTable.below t.place (way t.mask (k.hash w) N)) (k.hash w, Value.ref x)).toList = rws w (M.take (SetTable.below t.place (way t.mask (k.hash w) N)) ++ (x, k) :: M.drop (SetTable.below t.place (way t.mask (k.hash w) N))) := by
    rw [SetTable.toList_insertAt, R.row]
    simp [rws]
  have T1 : TabOk t1 (hsh w (M.take (SetTable.below t.place (way t.mask (k.hash w) N)) ++ (x, k) :: M.drop (SetTable.below t.place (way t.mask (k.hash w) N)))) := by
    have : hsh w (M.take (SetTable.below t.place (way t.mask (k.hash w) N)) ++ (x, k) :: M.drop (SetTable.below t.place (way t.mask (k.hash w) N))) = (hsh w M).take (SetTable.below t.place (way t.mask (k.hash w) N)) ++ k.hash w :: (hsh w M).drop (SetTable.below t.place (way t.mask (k.hash w) N)) := by simp [hsh]
    rw [this]
    exact u3
  have pm := put_perm M (SetTable.below t.place (way t.mask (k.hash w) N)) (x, k)
  generalize SetTable.insertAt es (SetTable.below t.place (way t.mask (k.hash w) N)) (k.hash w, Value.ref x) = es1 at row1 ⊢
  generalize M.take (SetTable.below t.place (way t.mask (k.hash w) N)) ++ (x, k) :: M.drop (SetTable.below t.place (way t.mask (k.hash w) N)) = M1 at row1 T1 pm
  have len1 : M1.length = M.length + 1 := pm.length_eq
  have size1 := rws_size row1
  have nd1 : (M1.map (·.2)).Nodup := (pm.map (·.2)).nodup_iff.mpr (by rw [List.map_cons]; exact List.nodup_cons.mpr ⟨hm, R.nd⟩)
  -- whether it is told by value changes nothing here
  have behind : ∀ t2 : SetTable, t2.place = t1.place → t2.dummies = t1.dummies → t2.mask = t1.mask → t2.led = t1.led →
      wpAny (model P w) A (storeSet S es1 t2 >>= fun _ => if (!false && t2.tooFull) = true then (do
        setRelay S (SetTable.grown (es.size + 1))
        pure true) else pure true) Q E s := fun t2 a1 a2 a3 a4 => by
    have T2 : TabOk t2 (hsh w M1) := by
      obtain ⟨b1, b2, b3, b4, b5, b6⟩ := T1
      exact ⟨by rw [a1]; exact b1, by rw [a2]; exact b2, by rw [a1]; exact b3, by rw [a3]; exact b4, by rw [a1, a3]; exact b5, by rw [a1, a3]; exact b6⟩
    have fill2 : t2.fill = M.length + 1 := by
      rw [← u9]
      unfold SetTable.fill
      rw [a1, a2]
    have led2 : w.params.followText "set-order" = true ∨ t2.led = true := by rw [a4, u5]; exact R.led
    have sb : Heap.SameBut S s.heap (s.heap.update S (Obj.putSet es1 t2)) := Heap.SameBut.update ..
    have ho1 := store_at (es' := es1) (t' := t2) ho hd
    refine wpAny_bind (wpAny_storeSet_of ho hd ?_ (by rw [size1, len1, sizeLine_eq]; omega))
    generalize s.heap.update S (Obj.putSet es1 t2) = h1 at sb ho1 ⊢
    have key1 : ∀ p ∈ M1, At P w h1 p.2 p.1 := fun p hp => by
      rcases List.mem_cons.mp (pm.mem_iff.mp hp) with rfl | hp
      · exact at_same hx ho hd sb
      · exact at_same (R.key p hp) ho hd sb
    by_cases full : t2.tooFull = true
    · have five : (M.length + 1) * 5 ≥ t.mask * 3 := by
        have := full
        unfold SetTable.tooFull at this
        rw [decide_eq_true_eq, fill2, a3, u4] at this
        exact this
      have two : (t.mask = 7 ∧ M.length = 4) ∨ (t.mask = 31 ∧ M.length = 18) := by
        rcases R.tab.mok with e | e | e <;> rw [e] at five room
        · exact .inl ⟨e, by omega⟩
        · exact .inr ⟨e, by omega⟩
        · omega
      have anew : ∀ m, SetTable.sizeAbove (SetTable.grown (M.length + 1)) - 1 = m → MaskOk m → SetTable.sizeAbove (SetTable.grown (M.length + 1)) ≤ 128 → (M.length + 1) * 5 < m * 3 →
          wpAny (model P w) A (setRelay S (SetTable.grown (es.size + 1)) >>= fun _ => pure true) Q E { s with heap := h1 } := fun m c1 c2 c3 c4 => by
        rw [size]
        refine wpAny_bind (relay_keys (s := { s with heap := h1 }) ho1 ⟨hex.1, hex.2.1, hex.2.2⟩ rfl row1 T2 (by rw [len1, a3, u4]; rcases two with ⟨e, e2⟩ | ⟨e, e2⟩ <;> omega) nd1 key1 led2 (by omega) c1 c2 c3 (by rw [len1]; exact c4) fun h2 M2 es2 ep2 t3 sb2 R2 pm2 => ?_)
        exact wpAny_pure (go true h2 M2 es2 ep2 t3 (sb.trans sb2) R2 (fun z => absurd z hm) fun _ => pm2.trans pm)
      refine yes (by simp [full]) ?_
      rcases two with ⟨_, e2⟩ | ⟨_, e2⟩
      · exact anew 31 (by rw [e2, size_20]) (.inr (.inl rfl)) (by rw [e2, size_20]; decide) (by omega)
      · exact anew 127 (by rw [e2, size_76]) (.inr (.inr rfl)) (by rw [e2, size_76]; decide) (by omega)
    · refine no (by simp [full]) (wpAny_pure (go true h1 M1 es1 (ep + 1) t2 sb ⟨⟨_, ho1, ⟨hex.1, hex.2.1, hex.2.2⟩, rfl⟩, row1, T2, nd1, key1, led2, ?_, by omega⟩ (fun z => absurd z hm) fun _ => pm))
      have := full
      unfold SetTable.tooFull at this
      rw [decide_eq_true_eq, fill2, a3, u4] at this
      rw [len1, a3, u4]
      omega
  by_cases pl : t1.plain = true
  · refine yes pl (wpAny_bind (val_key _ _ _ _ _ hx.1 hx.2 fun c => ?_))
    cases c with
    | true => exact behind t1 rfl rfl rfl rfl
    | false => exact behind { t1 with plain := false } rfl rfl rfl rfl
  · exact no pl (wpAny_bind (wpAny_pure (behind t1 rfl rfl rfl rfl)))
theorem uniqTo_snoc (k : NestedKey) : ∀ (ks acc : List NestedKey), uniqTo acc (ks ++ [k]) = if k ∈ uniqTo acc ks then uniqTo acc ks else uniqTo acc ks ++ [k]
  | [], acc => rfl
  | c :: ks, acc => by
    rw [List.cons_append, uniqTo, uniqTo]
    split <;> exact uniqTo_snoc k ks _
theorem uniq_snoc (k : NestedKey) (ks : List NestedKey) : uniq (ks ++ [k]) = if k ∈ uniq ks then uniq ks else uniq ks ++ [k] := uniqTo_snoc k ks []
theorem uniqTo_len : ∀ (ks acc : List NestedKey), (uniqTo acc ks).length ≤ acc.length + ks.length
  | [], acc => by simp [uniqTo]
  | k :: ks, acc => by
    rw [uniqTo]
    split
    · have := uniqTo_len ks acc
      simp
      omega
    · have := uniqTo_len ks (acc ++ [k])
      simp at this ⊢
      omega
/-- the set holds the first i keys -/
def First (ks : List (Addr × NestedKey)) (i : Nat) (M : List (Addr × NestedKey)) : Prop := (M.map (·.2)).Perm (uniq ((ks.take i).map (·.2))) ∧ ∀ p ∈ M, p ∈ ks
theorem First.len {ks : List (Addr × NestedKey)} {i : Nat} {M : List (Addr × NestedKey)} (f : First ks i M) : M.length ≤ ks.length := by
  have h1 := f.1.length_eq
  have h2 := uniqTo_len ((ks.take i).map (·.2)) []
  simp [uniq] at h1 h2
  omega
theorem First.at {ks : List (Addr × NestedKey)} {i : Nat} {M : List (Addr × NestedKey)} (f : First ks i M) : M.length ≤ i := by
  have h1 := f.1.length_eq
  have h2 := uniqTo_len ((ks.take i).map (·.2)) []
  rw [List.length_map, List.length_take] at h2
  rw [List.length_map] at h1
  unfold uniq at h1
  simp only [List.length_nil] at h2
  omega
theorem First.next {ks M M' : List (Addr × NestedKey)} {i : Nat} {p : Addr × NestedKey} (f : First ks i M) (hp : ks[i]? = some p) (h1 : p.2 ∈ M.map (·.2) → M' = M) (h2 : p.2 ∉ M.map (·.2) → M'.Perm (p :: M)) : First ks (i + 1) M' := by
  have e : (ks.take (i + 1)).map (·.2) = (ks.take i).map (·.2) ++ [p.2] := by
    rw [List.take_succ, hp]
    simp
  unfold First
  rw [e, uniq_snoc]
  by_cases c : p.2 ∈ M.map (·.2)
  · rw [h1 c, if_pos (f.1.mem_iff.mp c)]
    exact f
  · have pm := h2 c
    rw [if_neg fun z => c (f.1.mem_iff.mpr z)]
    have pm2 : (M'.map (·.2)).Perm (p.2 :: M.map (·.2)) := pm.map (·.2)
    refine ⟨(pm2.trans (f.1.cons p.2)).trans (List.perm_append_singleton _ _).symm, fun q hq => ?_⟩
    rcases List.mem_cons.mp (pm.mem_iff.mp hq) with rfl | hq
    · exact List.mem_of_getElem? hp
    · exact f.2 q hq
theorem Has.keep {h h' : Heap} (R : Has P w h S M es ep t) (q : ∀ o, h.get? S = some o → h'.get? S = some o) (k : ∀ p ∈ M, At P w h' p.2 p.1) : Has P w h' S M es ep t :=
  ⟨let ⟨o, e, r⟩ := R.obj; ⟨o, q o e, r⟩, R.row, R.tab, R.nd, k, R.led, R.room, R.few⟩
/-- an empty set, as it is made -/
abbrev emptyT (w : World) : SetTable := .fresh 0 0 (!w.params.followText "set-order")
abbrev emptyO (w : World) : Obj := { cls := .type "set", dict := none, data := .set #[] 0 (emptyT w) }
theorem has_empty {h : Heap} (e : h.get? S = some (emptyO w)) : Has P w h S [] #[] 0 (emptyT w) :=
  ⟨⟨_, e, ⟨rfl, rfl, rfl⟩, rfl⟩, rfl, ⟨List.Pairwise.nil, rfl, rfl, .inl rfl, fun x hx => (by cases hx), fun i g j hi => (by simp [hsh] at hi)⟩, List.nodup_nil, fun p hp => (by cases hp),
    (by cases q : w.params.followText "set-order"
        · exact .inr (by show (!w.params.followText "set-order") = true; rw [q]; rfl)
        · exact .inl rfl), (by show 0 * 5 < 7 * 3; decide), by decide⟩
/-- set.update's loop over keys -/
theorem fill_keys {I : Addr} {fp wr : List Addr} {G : Array GenState → Array GenState → Prop} {n : Nat} {Pv : Nat → Value → Prop} {St : Nat → Shared → Prop} {R : Result → Shared → Prop}
    (W : WalksS P w A.in1 I fp wr G n Pv St) (S : Addr) (away : S ∉ fp) (ks : List (Addr × NestedKey)) (hn : n = ks.length) (few : ks.length < 64) (val : ∀ i v, Pv i v → ∃ p, ks[i]? = some p ∧ v = .ref p.1)
    (h0 : Heap) (key : ∀ p ∈ ks, At P w h0 p.2 p.1) (free : h0.get? S = none) (free2 : ∀ b ∈ wr, h0.get? b = none) (hu : A.in1.units + 8 < cLine) (d : Nat) :
    ∀ (i : Nat) (s : Shared), n - i = d → i ≤ n → St i s → (∀ b o, h0.get? b = some o → s.heap.get? b = some o) → (∃ M es ep t, Has P w s.heap S M es ep t ∧ First ks i M) →
      (∀ s' M es ep t, Moved (S :: wr) G s s' → Has P w s'.heap S M es ep t → First ks n M → (∀ b o, h0.get? b = some o → s'.heap.get? b = some o) → R (.ok (.ret .none)) s') →
      codeAny (model P w) A (.builtin "set.update.loop" ⟨[.ref S, .ref I], []⟩) R s := by
  have awayW : S ∉ wr := fun h => away (W.sub _ h)
  have more : ∀ b ∈ wr, b ∈ S :: wr := fun b hb => List.mem_cons_of_mem _ hb
  have old : ∀ {s s' : Shared}, Moved wr G s s' → (∀ b o, h0.get? b = some o → s.heap.get? b = some o) → ∀ b o, h0.get? b = some o → s'.heap.get? b = some o := fun m q b o e =>
    m.heap b o (fun hb => by
      rw [free2 b hb] at e
      cases e) (q b o e)
  induction d with
  | zero =>
    rintro i s hd hi st q ⟨M, es, ep, t, H, f⟩ fin
    obtain rfl : i = n := by omega
    refine codeAny_builtin F.entry_set_update_loop ?_
    rw [Around.under_plainId F.plain_set_update_loop _]
    show wpAny _ A.in1 (pyNext (Value.ref I) >>= _) _ _ s
    refine wpAny_bind (W.done s _ _ st fun s' m => ?_)
    have q' := old m q
    show wpAny _ A.in1 (ret Value.none) _ _ s'
    exact wpAny_pure (fin s' M es ep t (m.mono more) (H.keep (fun o e => m.heap S o awayW e) fun p hp => at_keep (key p (f.2 p hp)) q') f q')
  | succ d ih =>
    rintro i s hd hi st q ⟨M, es, ep, t, H, f⟩ fin
    have lt : i < n := by omega
    refine codeAny_builtin F.entry_set_update_loop ?_
    rw [Around.under_plainId F.plain_set_update_loop _]
    show wpAny _ A.in1 (pyNext (Value.ref I) >>= _) _ _ s
    refine wpAny_bind (W.item i s _ _ lt st fun v s' hP st' m => ?_)
    obtain ⟨p, hp, rfl⟩ := val i v hP
    have q' := old m q
    have H' : Has P w s'.heap S M es ep t := H.keep (fun o e => m.heap S o awayW e) fun r hr => at_keep (key r (f.2 r hr)) q'
    have hx : At P w s'.heap p.2 p.1 := at_keep (key p (List.mem_of_getElem? hp)) q'
    show wpAny _ A.in1 (holding [Value.ref p.1] (setAdd S (.ref p.1)) >>= _) _ _ s'
    refine wpAny_bind (wpAny_holding ?_)
    unfold setAdd
    refine wpAny_holding (wpAny_bind ((nestedKind P w).pyHash hu hx ?_))
    refine add_key (s := { s' with toks := s'.toks + _ }) H' hx hu (by have h1 := f.at; omega) fun b h' M' es' ep' t' sb H2 c1 c2 => ?_
    have q2 : ∀ b o, h0.get? b = some o → h'.get? b = some o := fun b o e => (sb.2 b fun z => by
      rw [z, free] at e
      cases e).trans (q' b o e)
    refine wpAny_pure ⟨plainId_quiet F.plain_set_update_loop _, ih (i + 1) _ (by omega) lt (W.frame _ s' _ _ st' (Nat.le_add_right _ _) fun b hb o e => ?_) q2 ⟨M', es', ep', t', H2, f.next hp c1 c2⟩ fun s'' M2 es2 ep2 t2 m2 H3 f3 q3 => ?_⟩
    · rw [sb.2 b fun z : b = S => away (z ▸ hb)]
      exact e
    · refine fin s'' M2 es2 ep2 t2 (Moved.trans W.gtrans ((m.mono more).then_heap (Nat.le_add_right _ _) fun b o hb e => ?_) m2) H3 f3 q3
      rw [sb.2 b fun z : b = S => hb (z ▸ List.mem_cons_self)]
      exact e
end
end PV.T
set_option Elab.async false
set_option linter.all false
set_option maxRecDepth 100000
set_option maxHeartbeats 4000000
/-! PV, part U: set(t) of a tuple of keys. -/
namespace PV.T
open PySem PySem.Spec PyProof.Rows L2
section
variable {P : Program} {w : World} {A : Around} {E : Value → Shared → Prop} {s : Shared}
theorem set_of_tuple {l : Addr} {items : Array Value} (ks : List (Addr × NestedKey)) {Q : Value → Shared → Prop} (hh : A.handled = none) (tup : s.heap.IsTuple l items) (its : items.toList = ks.map fun p => Value.ref p.1) (key : ∀ p ∈ ks, At P w s.heap p.2 p.1) (few : ks.length < 64) (hu : A.units + 20 < cLine)
    (go : ∀ (h' : Heap) (tk : Nat) M es ep t, Has P w h' s.heap.objs.size M es ep t → First ks ks.length M → (∀ b o, s.heap.get? b = some o → h'.get? b = some o) → Q (.ref s.heap.objs.size) { s with heap := h', toks := tk }) :
    wpAny (model P w) A (call (.type "set") [.ref l]) Q E s := by
  have size : items.size = ks.length := by
    have := congrArg List.length its
    simpa using this
  obtain ⟨c, tl, mro⟩ := F.called_set.mro
  have made := F.called_set.made
  have sub := F.called_set.sub
  refine wpAny_call (codeAny_of_tree ?_)
  show wpAny _ _ (callAny (.type "set") _) _ _ _
  refine wpAny_pure ⟨Code.quiet_builtin _ (by decide +kernel), codeAny_builtin F.entry_type_call ?_⟩
  rw [Around.under_plain (weight_type_call_type "set" [.ref l] []) rfl]
  have t1 := F.called_set.notType
  have t2 := F.called_set.canCreate
  have t3 := F.typeCall_set_1 (.ref l)
  repeat (any_goals (first | assumption | wp_step))
  refine codeAny_mono (code_set_led1 (.ref l) (E := E) (Q₁ := fun ob s1 => ob = .ref s.heap.objs.size ∧ s1 = { s with heap := s.heap.push (emptyO w) }) ⟨rfl, rfl⟩) fun r s1 hr => ?_
  cases r with
  | error e => exact hr
  | ok fl =>
    cases fl with
    | ret ob =>
      obtain ⟨rfl, rfl⟩ := hr
      have atS : (s.heap.push (emptyO w)).get? s.heap.objs.size = some (emptyO w) := Heap.get?_push_size _ rfl
      have typ : Shared.TypeIs { s with heap := s.heap.push (emptyO w) } (.ref s.heap.objs.size) "set" := ⟨_, atS, rfl⟩
      have i1 := F.called_set.init.lookup
      have i2 := F.called_set.init.bind (.ref s.heap.objs.size)
      repeat (any_goals (first | assumption | wp_step))
      refine codeAny_mono (codeAny_call_builtin (R := wants (fun r s2 => r = .none ∧ ∃ h' tk M es ep t, s2 = { s with heap := h', toks := tk } ∧ Has P w h' s.heap.objs.size M es ep t ∧ First ks ks.length M ∧
          ∀ b o, s.heap.get? b = some o → h'.get? b = some o) E) F.called_set.init.plain F.entry_set_init (check_set_init_1 typ ?_)) fun r2 s2 hr2 => ?_
      · obtain ⟨ot, ho, hc, hd⟩ := id tup
        have lt : l < s.heap.objs.size := Heap.lt_size ho
        have ho1 : (s.heap.push (emptyO w)).get? l = some ot := Heap.get?_push_of_some _ ho
        have tup1 : (s.heap.push (emptyO w)).IsTuple l items := ⟨ot, ho1, hc, hd⟩
        have n1 := F.sub_tuple_set
        have n2 := F.sub_tuple_frozenset
        have n3 : (Value.type "tuple" == Value.type "dict") = false := by decide
        have typT : Shared.TypeIs { s with heap := s.heap.push (emptyO w) } (.ref l) "tuple" := ⟨ot, ho1, hc⟩
        unfold Builtin.«set.__init__» noKeywords Builtin.Frozenset.updateFrom
        generalize eI : pyIter = PI
        wp_walk
        subst eI
        refine wpAny_pyIter_tuple tup1 ?_
        refine wpAny_bind (wpAny_runValue ?_)
        have hh3 : A.in1.in1.in1.handled = none := by simp [hh]
        have more : (s.heap.push (emptyO w)).objs.size = s.heap.objs.size + 1 := Heap.size_push ..
        have apart : l ≠ (s.heap.push (emptyO w)).objs.size := by
          rw [more]
          exact Nat.ne_of_lt (Nat.lt_succ_of_lt lt)
        have away : s.heap.objs.size ∉ [(s.heap.push (emptyO w)).objs.size, l] := by
          rw [more]
          simp only [List.mem_cons, List.not_mem_nil, or_false, not_or]
          exact ⟨Nat.ne_of_lt (Nat.lt_succ_self _), Nat.ne_of_gt lt⟩
        have val : ∀ (i : Nat) (v : Value), items[i]? = some v → ∃ p, ks[i]? = some p ∧ v = .ref p.1 := fun i v hv => by
          rw [← Array.getElem?_toList, its, List.getElem?_map] at hv
          obtain ⟨p, h1, h2⟩ := Option.map_eq_some_iff.mp hv
          exact ⟨p, h1, h2.symm⟩
        have free : ∀ b, s.heap.objs.size ≤ b → s.heap.get? b = none := fun b hb => by
          cases q : s.heap.get? b with
          | none => rfl
          | some o =>
            exact absurd (Nat.lt_of_lt_of_le (Heap.lt_size q) hb) (Nat.lt_irrefl _)
        refine fill_keys ((Walks.tuple hh3 _ l apart items).toS) s.heap.objs.size away ks size few val s.heap key (free _ (Nat.le_refl _)) (fun b hb => free b (by
            rw [List.mem_singleton.mp hb, more]
            exact Nat.le_succ _)) ?room (items.size - 0) 0 _ rfl (Nat.zero_le _) ⟨⟨_, Heap.get?_push_size _ rfl, rfl, rfl⟩, tup1.push _⟩ (fun b o e => Heap.get?_push_of_some _ (Heap.get?_push_of_some _ e))
          ⟨[], #[], 0, _, has_empty (Heap.get?_push_of_some _ atS), ⟨by simp [uniq, uniqTo], fun p hp => by cases hp⟩⟩ ?fin
        case room =>
          have : A.in1.in1.in1.units = A.units + 3 := by rfl
          omega
        case fin =>
          intro s' M es ep t m H f q
          obtain ⟨h', g2, d2, tk2, os2⟩ := s'
          obtain rfl : g2 = s.gens := m.gens
          obtain rfl : d2 = s.drawn := m.drawn
          obtain rfl : os2 = s.os := m.os
          show wpAny _ _ _ _ _ _
          refine wpAny_pure ?_
          show wpAny _ _ (ret Value.none) _ _ _
          rw [size] at f
          exact wpAny_pure ⟨rfl, h', tk2, M, es, ep, t, rfl, H, f, q⟩
      · cases r2 with
        | error e => exact hr2
        | ok f2 =>
          cases f2 with
          | ret u =>
            obtain ⟨rfl, h', tk, M, es, ep, t, rfl, H, f, q⟩ := hr2
            repeat (any_goals (first | assumption | wp_step))
            exact go _ _ _ _ _ _ H f q
          | _ => exact hr2.elim
    | _ => exact hr.elim
end
end PV.T
set_option Elab.async false
set_option linter.all false
set_option maxRecDepth 100000
set_option maxHeartbeats 4000000
/-! PV, part W: set(xs) of a list of ints. -/
namespace PV.T
open PySem PySem.Spec PyProof.Rows L2
section
variable {P : Program} {w : World} {A : Around} {E : Value → Shared → Prop} {s : Shared}
theorem set_of_ints {l : Addr} {items : Array Value} (ns : List Int) {Q : Value → Shared → Prop} (hh : A.handled = none) (tup : s.heap.IsList l items) (its : IntsAre items.toList ns) (few : ns.length + 1 < scanBound)
    (go : ∀ (h' : Heap) (tk c : Nat), SetR w h' s.heap.objs.size (fun j => decide (j ∈ ns)) c → c ≤ ns.length → (∀ b o, s.heap.get? b = some o → h'.get? b = some o) → Q (.ref s.heap.objs.size) { s with heap := h', toks := tk }) :
    wpAny (model P w) A (call (.type "set") [.ref l]) Q E s := by
  have size : items.size = ns.length := by
    have := IntsAre.length its
    simpa using this
  obtain ⟨c, tl, mro⟩ := F.called_set.mro
  have made := F.called_set.made
  have sub := F.called_set.sub
  refine wpAny_call (codeAny_of_tree ?_)
  show wpAny _ _ (callAny (.type "set") _) _ _ _
  refine wpAny_pure ⟨Code.quiet_builtin _ (by decide +kernel), codeAny_builtin F.entry_type_call ?_⟩
  rw [Around.under_plain (weight_type_call_type "set" [.ref l] []) rfl]
  have t1 := F.called_set.notType
  have t2 := F.called_set.canCreate
  have t3 := F.typeCall_set_1 (.ref l)
  repeat (any_goals (first | assumption | wp_step))
  refine codeAny_mono (code_set_led1 (.ref l) (E := E) (Q₁ := fun ob s1 => ob = .ref s.heap.objs.size ∧ s1 = { s with heap := s.heap.push (emptyO w) }) ⟨rfl, rfl⟩) fun r s1 hr => ?_
  cases r with
  | error e => exact hr
  | ok fl =>
    cases fl with
    | ret ob =>
      obtain ⟨rfl, rfl⟩ := hr
      have atS : (s.heap.push (emptyO w)).get? s.heap.objs.size = some (emptyO w) := Heap.get?_push_size _ rfl
      have typ : Shared.TypeIs { s with heap := s.heap.push (emptyO w) } (.ref s.heap.objs.size) "set" := ⟨_, atS, rfl⟩
      have i1 := F.called_set.init.lookup
      have i2 := F.called_set.init.bind (.ref s.heap.objs.size)
      repeat (any_goals (first | assumption | wp_step))
      refine codeAny_mono (codeAny_call_builtin (R := wants (fun r s2 => r = .none ∧ ∃ h' tk c, s2 = { s with heap := h', toks := tk } ∧ SetR w h' s.heap.objs.size (fun j => decide (j ∈ ns)) c ∧ c ≤ ns.length ∧
          ∀ b o, s.heap.get? b = some o → h'.get? b = some o) E) F.called_set.init.plain F.entry_set_init (check_set_init_1 typ ?_)) fun r2 s2 hr2 => ?_
      · obtain ⟨ot, ho, hc, nn, hd⟩ := id tup
        have lt : l < s.heap.objs.size := Heap.lt_size ho
        have ho1 : (s.heap.push (emptyO w)).get? l = some ot := Heap.get?_push_of_some _ ho
        have tup1 : (s.heap.push (emptyO w)).IsList l items := ⟨ot, ho1, hc, nn, hd⟩
        have n1 := F.sub_list_set
        have n2 := F.sub_list_frozenset
        have n3 : (Value.type "list" == Value.type "dict") = false := by decide
        have typT : Shared.TypeIs { s with heap := s.heap.push (emptyO w) } (.ref l) "list" := ⟨ot, ho1, hc⟩
        unfold Builtin.«set.__init__» noKeywords Builtin.Frozenset.updateFrom
        generalize eI : pyIter = PI
        wp_walk
        subst eI
        refine wpAny_pyIter_list tup1 ?_
        refine wpAny_bind (wpAny_runValue ?_)
        have hh3 : A.in1.in1.in1.handled = none := by simp [hh]
        have more : (s.heap.push (emptyO w)).objs.size = s.heap.objs.size + 1 := Heap.size_push ..
        have apart : l ≠ (s.heap.push (emptyO w)).objs.size := by
          rw [more]
          exact Nat.ne_of_lt (Nat.lt_succ_of_lt lt)
        have away : s.heap.objs.size ∉ [(s.heap.push (emptyO w)).objs.size, l] := by
          rw [more]
          simp only [List.mem_cons, List.not_mem_nil, or_false, not_or]
          exact ⟨Nat.ne_of_lt (Nat.lt_succ_self _), Nat.ne_of_gt lt⟩
        have val : ∀ (i : Nat) (v : Value), items[i]? = some v → ∃ k t, ns[i]? = some k ∧ v = .int k t := fun i v hv => by
          have hi : i < ns.length := by
            rw [← size]
            exact (Array.getElem?_eq_some_iff.mp hv).1
          obtain ⟨t, e⟩ := PyProof.Rows.IntsAre.int_at its i v (by rw [Array.getElem?_toList]; exact hv)
          exact ⟨ns[i], t, List.getElem?_eq_getElem hi, by simpa [hi] using e⟩
        refine set_update_ints ((Walks.list hh3 _ l apart items).toS) s.heap.objs.size away ns size few val (items.size - 0) 0 _ rfl (Nat.zero_le _) ⟨⟨_, Heap.get?_push_size _ rfl, rfl, rfl⟩, tup1.push _⟩
          ⟨0, Nat.le_refl 0, setR_new_at (Heap.get?_push_of_some _ atS)⟩ ?fin
        case fin =>
          intro s' c' m le R
          obtain ⟨h', g2, d2, tk2, os2⟩ := s'
          obtain rfl : g2 = s.gens := m.gens
          obtain rfl : d2 = s.drawn := m.drawn
          obtain rfl : os2 = s.os := m.os
          show wpAny _ _ _ _ _ _
          refine wpAny_pure ?_
          show wpAny _ _ (ret Value.none) _ _ _
          rw [size] at le
          refine wpAny_pure ⟨rfl, h', tk2, c', rfl, R, le, fun b o e => ?_⟩
          have lb : b < s.heap.objs.size := Heap.lt_size e
          refine m.heap b o ?_ (Heap.get?_push_of_some _ (Heap.get?_push_of_some _ e))
          simp only [List.mem_cons, List.not_mem_nil, or_false, not_or]
          exact ⟨Nat.ne_of_lt lb, by rw [more]; exact Nat.ne_of_lt (Nat.lt_succ_of_lt lb)⟩
      · cases r2 with
        | error e => exact hr2
        | ok f2 =>
          cases f2 with
          | ret u =>
            obtain ⟨rfl, h', tk, c', rfl, R, le, q⟩ := hr2
            repeat (any_goals (first | assumption | wp_step))
            exact go _ _ _ R le q
          | _ => exact hr2.elim
    | _ => exact hr.elim
end
end PV.T
set_option Elab.async false
set_option linter.all false
set_option maxRecDepth 100000
/-! PV, part B: how values of the heap stand for data. -/
namespace PV
open PySem PySem.Spec PyProof.Rows L2
/-- the program and the world of a proof -/
class Wd where
  prog : Program
  w : World
variable [Wd]
/-- a dict whose keys are tuples -/
def rawD (a : Addr) (ep : Nat) (xs : List (NestedKey × Addr × Value)) : Heap → Prop := fun h => (a == sysModules) = false ∧ xs.length ≤ sizeLine ∧
  ∃ o es, h.get? a = some o ∧ o.ExactDict ∧ o.data = .dict es ep ∧ es.toList = xs.map (entryOfKey (nestedKind Wd.prog Wd.w)) ∧ (xs.map (·.1)).Nodup
/-- a predicate of addresses: what no one changes -/
abbrev Pa := Addr → Prop
/-- a tuple whose object bears no dict of its own -/
def PlT (K : PySem.W.Frag) (H : Hp) (a : Addr) (xs : List V) : Prop :=
  (∃ o : Obj, H a = some (.frz o (.tup xs)) ∧ o.dict = none) ∨
    ∃ (o : Obj) (its : Array Value) (n : Nat), K.lookup a = some o ∧ o.cls = .type "tuple" ∧ o.dict = none ∧ o.data = .seq its n ∧ its.size ≤ sizeLine ∧ Vals xs its.toList
theorem PlT.sq {K : PySem.W.Frag} {H : Hp} {a : Addr} {xs : List V} (h : PlT K H a xs) : SqT K H a xs := by
  rcases h with ⟨o, e, _⟩ | ⟨o, its, n, e, c, _, d, z, v⟩
  · exact .inl (.inr ⟨o, e⟩)
  · exact .inr ⟨o, its, n, e, c, d, z, v⟩
theorem PlT.new {K : PySem.W.Frag} {H : Hp} {a : Addr} {o : Obj} {xs : List V} (d : o.dict = none) : PlT K (upd H a (.frz o (.tup xs))) a xs := .inl ⟨o, upd_same, d⟩
mutual
/-- the value v stands for the datum d; its lists are such as P lets -/
inductive RP (K : PySem.W.Frag) (H : Hp) (P : Pa) : V → D → Prop
  | non : RP K H P .non .none
  | bl (b : Bool) : RP K H P (.bl b) (.bool b)
  | int (i : Int) : RP K H P (.int i) (.int i)
  | str (x : Str) : RP K H P (.str x) (.str x)
  | lst {a : Addr} {xs : List V} {ds : List D} : P a → Rd H a (.lst xs) → RPs K H P xs ds → RP K H P (.ref a) (.list ds)
  | lit {a : Addr} {xs : List V} {ds : List D} : SqL K (fun _ => none) a xs → RPs K H P xs ds → RP K H P (.ref a) (.list ds)
  | tup {a : Addr} {xs : List V} {ds : List D} : PlT K H a xs → RPs K H P xs ds → RP K H P (.ref a) (.tuple ds)
  | dct {a : Addr} {ep : Nat} {xs : List (NestedKey × Addr × Value)} {ds : List (D × D)} : P a → Rd H a (.ext (rawD a ep xs)) → REs K H P xs ds → RP K H P (.ref a) (.dict ds)
inductive REs (K : PySem.W.Frag) (H : Hp) (P : Pa) : List (NestedKey × Addr × Value) → List (D × D) → Prop
  | nil : REs K H P [] []
  | cons {k : NestedKey} {b : Addr} {u : Value} {v : V} {d : D} {xs : List (NestedKey × Addr × Value)} {ds : List (D × D)} : k.depth ≤ 8 → RP K H P (.ref b) k.data → RelV v u → RP K H P v d → REs K H P xs ds → REs K H P ((k, b, u) :: xs) ((k.data, d) :: ds)
inductive RPs (K : PySem.W.Frag) (H : Hp) (P : Pa) : List V → List D → Prop
  | nil : RPs K H P [] []
  | cons {v : V} {vs : List V} {d : D} {ds : List D} : RP K H P v d → RPs K H P vs ds → RPs K H P (v :: vs) (d :: ds)
end
/-- a tuple, that a loop may hold -/
def tupO : HO → Bool
  | .tup _ => true
  | .frz _ (.tup _) => true
  | _ => false
/-- what is tracked where P holds stays, all tuples too -/
def Keep (P : Pa) (H H' : Hp) : Prop := ∀ a o, H a = some o → P a ∨ tupO o = true → H' a = some o
section
variable {K : PySem.W.Frag} {H H' H'' : Hp} {P P' : Pa}
theorem Keep.refl : Keep P H H := fun _ _ h _ => h
theorem Keep.trans (k : Keep P H H') (k' : Keep P H' H'') : Keep P H H'' := fun a o h p => k' a o (k a o h p) p
theorem Keep.mono (k : Keep P' H H') (h : ∀ a, P a → P' a) : Keep P H H' := fun a o e p => k a o e (p.imp_left (h a))
theorem Keep.all (k : ∀ a o, H a = some o → H' a = some o) : Keep P H H' := fun a o e _ => k a o e
theorem none_lit {a : Addr} {xs : List V} (s : SqL K (fun _ => none) a xs) : SqL K H a xs := by
  rcases s with h | h
  · rcases h with h | ⟨o, h⟩ <;> cases h
  · exact .inr h
mutual
theorem RP.keep (k : Keep P H H') (m : ∀ a, P a → P' a) : ∀ {v : V} {d : D}, RP K H P v d → RP K H' P' v d
  | _, _, .non => .non
  | _, _, .bl b => .bl b
  | _, _, .int i => .int i
  | _, _, .str x => .str x
  | _, _, .lst p s r => .lst (m _ p) (by
      rcases s with h | ⟨o, h⟩
      · exact .inl (k _ _ h (.inl p))
      · exact .inr ⟨o, k _ _ h (.inl p)⟩) (RPs.keep k m r)
  | _, _, .lit s r => .lit s (RPs.keep k m r)
  | _, _, .tup s r => .tup (by
      rcases s with ⟨o, h, d⟩ | h
      · exact .inl ⟨o, k _ _ h (.inr rfl), d⟩
      · exact .inr h) (RPs.keep k m r)
  | _, _, .dct p s r => .dct (m _ p) (by
      rcases s with h | ⟨o, h⟩
      · exact .inl (k _ _ h (.inl p))
      · exact .inr ⟨o, k _ _ h (.inl p)⟩) (REs.keep k m r)
theorem REs.keep (k : Keep P H H') (m : ∀ a, P a → P' a) : ∀ {xs : List (NestedKey × Addr × Value)} {ds : List (D × D)}, REs K H P xs ds → REs K H' P' xs ds
  | _, _, .nil => .nil
  | _, _, .cons n h1 h2 h3 r => .cons n (RP.keep k m h1) h2 (RP.keep k m h3) (REs.keep k m r)
theorem RPs.keep (k : Keep P H H') (m : ∀ a, P a → P' a) : ∀ {vs : List V} {ds : List D}, RPs K H P vs ds → RPs K H' P' vs ds
  | _, _, .nil => .nil
  | _, _, .cons h r => .cons (RP.keep k m h) (RPs.keep k m r)
end
mutual
/-- a free address is in no value -/
theorem RP.avoid {p : Addr} (n : H p = none) : ∀ {v : V} {d : D}, RP K H P v d → RP K H (fun a => P a ∧ a ≠ p) v d
  | _, _, .non => .non
  | _, _, .bl b => .bl b
  | _, _, .int i => .int i
  | _, _, .str x => .str x
  | _, _, .lst q s r => .lst ⟨q, by
      rintro rfl
      rcases s with h | ⟨o, h⟩ <;> (rw [n] at h; cases h)⟩ s (RPs.avoid n r)
  | _, _, .lit s r => .lit s (RPs.avoid n r)
  | _, _, .tup s r => .tup s (RPs.avoid n r)
  | _, _, .dct q s r => .dct ⟨q, by
      rintro rfl
      rcases s with h | ⟨o, h⟩ <;> (rw [n] at h; cases h)⟩ s (REs.avoid n r)
theorem REs.avoid {p : Addr} (n : H p = none) : ∀ {xs : List (NestedKey × Addr × Value)} {ds : List (D × D)}, REs K H P xs ds → REs K H (fun a => P a ∧ a ≠ p) xs ds
  | _, _, .nil => .nil
  | _, _, .cons m h1 h2 h3 r => .cons m (RP.avoid n h1) h2 (RP.avoid n h3) (REs.avoid n r)
theorem RPs.avoid {p : Addr} (n : H p = none) : ∀ {vs : List V} {ds : List D}, RPs K H P vs ds → RPs K H (fun a => P a ∧ a ≠ p) vs ds
  | _, _, .nil => .nil
  | _, _, .cons h r => .cons (RP.avoid n h) (RPs.avoid n r)
end
theorem RP.mono (m : ∀ a, P a → P' a) {v : V} {d : D} (r : RP K H P v d) : RP K H P' v d := r.keep Keep.refl m
theorem RPs.mono (m : ∀ a, P a → P' a) {v : List V} {d : List D} (r : RPs K H P v d) : RPs K H P' v d := r.keep Keep.refl m
/-- a list's, a tuple's items are to be read -/
theorem RP.list {v : V} {ds : List D} (r : RP K H P v (.list ds)) : ∃ a xs, v = .ref a ∧ SqL K H a xs ∧ RPs K H P xs ds := by
  cases r with
  | lst p s r => exact ⟨_, _, rfl, .inl s, r⟩
  | lit s r => exact ⟨_, _, rfl, none_lit s, r⟩
theorem RP.tupleP {v : V} {ds : List D} (r : RP K H P v (.tuple ds)) : ∃ a xs, v = .ref a ∧ PlT K H a xs ∧ RPs K H P xs ds := by
  cases r with
  | tup s r => exact ⟨_, _, rfl, s, r⟩
theorem RP.tuple {v : V} {ds : List D} (r : RP K H P v (.tuple ds)) : ∃ a xs, v = .ref a ∧ SqT K H a xs ∧ RPs K H P xs ds := by
  obtain ⟨a, xs, e, s, q⟩ := r.tupleP
  exact ⟨a, xs, e, s.sq, q⟩
theorem RPs.length : ∀ {vs : List V} {ds : List D}, RPs K H P vs ds → vs.length = ds.length
  | _, _, .nil => rfl
  | _, _, .cons _ r => by simp [RPs.length r]
theorem RPs.get : ∀ {vs : List V} {ds : List D}, RPs K H P vs ds → ∀ {i : Nat} {d : D}, ds[i]? = some d → ∃ v, vs[i]? = some v ∧ RP K H P v d
  | _, _, .nil, i, d, e => by simp at e
  | _, _, .cons h r, 0, d, e => by
    simp at e
    subst e
    exact ⟨_, rfl, h⟩
  | _, _, .cons h r, i + 1, d, e => by
    obtain ⟨v, h1, h2⟩ := RPs.get r (i := i) (d := d) (by simpa using e)
    exact ⟨v, by simpa using h1, h2⟩
theorem RPs.at : ∀ {vs : List V} {ds : List D}, RPs K H P vs ds → ∀ {i : Nat} {v : V}, vs[i]? = some v → ∃ d, ds[i]? = some d ∧ RP K H P v d
  | _, _, .nil, i, d, e => by simp at e
  | _, _, .cons h r, 0, d, e => by
    simp at e
    subst e
    exact ⟨_, rfl, h⟩
  | _, _, .cons h r, i + 1, d, e => by
    obtain ⟨v, h1, h2⟩ := RPs.at r (i := i) (v := d) (by simpa using e)
    exact ⟨v, by simpa using h1, h2⟩
theorem RPs.append : ∀ {vs ws : List V} {ds es : List D}, RPs K H P vs ds → RPs K H P ws es → RPs K H P (vs ++ ws) (ds ++ es)
  | _, _, _, _, .nil, s => s
  | _, _, _, _, .cons h r, s => .cons h (RPs.append r s)
theorem RPs.take : ∀ {vs : List V} {ds : List D} (n : Nat), RPs K H P vs ds → RPs K H P (vs.take n) (ds.take n)
  | _, _, 0, _ => .nil
  | _, _, _ + 1, .nil => .nil
  | _, _, n + 1, .cons h r => .cons h (RPs.take n r)
theorem RPs.drop : ∀ {vs : List V} {ds : List D} (n : Nat), RPs K H P vs ds → RPs K H P (vs.drop n) (ds.drop n)
  | _, _, 0, r => r
  | _, _, _ + 1, .nil => .nil
  | _, _, n + 1, .cons h r => RPs.drop n r
theorem RPs.set : ∀ {vs : List V} {ds : List D} (i : Nat) {v : V} {d : D}, RPs K H P vs ds → RP K H P v d → RPs K H P (vs.set i v) (ds.set i d)
  | _, _, _, _, _, .nil, _ => .nil
  | _, _, 0, _, _, .cons h r, q => .cons q r
  | _, _, i + 1, _, _, .cons h r, q => .cons h (RPs.set i r q)
theorem RPs.reverse : ∀ {vs : List V} {ds : List D}, RPs K H P vs ds → RPs K H P vs.reverse ds.reverse
  | _, _, .nil => .nil
  | _, _, .cons h r => by
    rw [List.reverse_cons, List.reverse_cons]
    exact RPs.append (RPs.reverse r) (.cons h .nil)
theorem RPs.dropLast {vs : List V} {ds : List D} (r : RPs K H P vs ds) : RPs K H P vs.dropLast ds.dropLast := by
  rw [List.dropLast_eq_take, List.dropLast_eq_take, r.length]
  exact r.take _
theorem RPs.eraseIdx : ∀ {vs : List V} {ds : List D} (i : Nat), RPs K H P vs ds → RPs K H P (vs.eraseIdx i) (ds.eraseIdx i)
  | _, _, _, .nil => .nil
  | _, _, 0, .cons h r => r
  | _, _, i + 1, .cons h r => .cons h (RPs.eraseIdx i r)
theorem RPs.rep {vs : List V} {ds : List D} (r : RPs K H P vs ds) : ∀ k : Nat, RPs K H P (List.replicate k vs).flatten (List.replicate k ds).flatten
  | 0 => .nil
  | k + 1 => by
    rw [List.replicate_succ, List.replicate_succ, List.flatten_cons, List.flatten_cons]
    exact r.append (RPs.rep r k)
mutual
/-- what has no list in it stands for whatever P -/
theorem RP.flat : ∀ {v : V} {d : D}, RP K H P v d → flat d = true → RP K H P' v d
  | _, _, .non, _ => .non
  | _, _, .bl b, _ => .bl b
  | _, _, .int i, _ => .int i
  | _, _, .str x, _ => .str x
  | _, _, .lst p s r, h => by simp [PV.flat] at h
  | _, _, .lit s r, h => by simp [PV.flat] at h
  | _, _, .tup s r, h => .tup s (RPs.flat r (by simpa [PV.flat] using h))
  | _, _, .dct p s r, h => by simp [PV.flat] at h
theorem RPs.flat : ∀ {vs : List V} {ds : List D}, RPs K H P vs ds → flat.flats ds = true → RPs K H P' vs ds
  | _, _, .nil, _ => .nil
  | _, _, .cons h r, q => by
    simp only [PV.flat.flats, Bool.and_eq_true] at q
    exact .cons (RP.flat h q.1) (RPs.flat r q.2)
end
mutual
theorem RP.dp : ∀ {v : V} {d : D}, RP K H P v d → noDict d = true → Dp K H v d
  | _, _, .non, _ => .non
  | _, _, .bl b, _ => .bl b
  | _, _, .int i, _ => .int i
  | _, _, .str x, _ => .str x
  | _, _, .lst p s r, h => .lst (.inl s) (RPs.dp r (by simpa [noDict] using h))
  | _, _, .lit s r, h => .lst (none_lit s) (RPs.dp r (by simpa [noDict] using h))
  | _, _, .tup s r, h => .tup s.sq (RPs.dp r (by simpa [noDict] using h))
  | _, _, .dct p s r, h => by simp [noDict] at h
theorem RPs.dp : ∀ {vs : List V} {ds : List D}, RPs K H P vs ds → noDict.noDicts ds = true → DpAll K H vs ds
  | _, _, .nil, _ => .nil
  | _, _, .cons h r, q => by
    simp only [noDict.noDicts, Bool.and_eq_true] at q
    exact .cons (RP.dp h q.1) (RPs.dp r q.2)
end
theorem REs.mono (m : ∀ a, P a → P' a) {xs : List (NestedKey × Addr × Value)} {ds : List (D × D)} (r : REs K H P xs ds) : REs K H P' xs ds := r.keep Keep.refl m
theorem RPs.ints : ∀ {vs : List V} {ds : List D}, RPs K H P vs ds → ∀ {ns : List Int}, ints? ds = some ns → vs = ns.map V.int
  | _, _, .nil, ns, h => by
    simp [ints?] at h
    subst h
    rfl
  | _, _, .cons (d := d) (ds := ds) h r, ns, q => by
    cases h with
    | int i =>
      unfold ints? at q
      cases e : ints? ds with
      | none => simp [e] at q
      | some ms =>
        simp [e] at q
        subst q
        rw [List.map_cons, RPs.ints r e]
    | _ => simp [ints?] at q
theorem RPs.bools : ∀ {vs : List V} {ds : List D}, RPs K H P vs ds → ∀ {ns : List Bool}, bools? ds = some ns → vs = ns.map V.bl
  | _, _, .nil, ns, h => by
    simp [bools?] at h
    subst h
    rfl
  | _, _, .cons (d := d) (ds := ds) h r, ns, q => by
    cases h with
    | bl i =>
      unfold bools? at q
      cases e : bools? ds with
      | none => simp [e] at q
      | some ms =>
        simp [e] at q
        subst q
        rw [List.map_cons, RPs.bools r e]
    | _ => simp [bools?] at q
end
/-! ### the frame's slots -/
/-- a list that a def may change: its items -/
inductive ROwn (K : PySem.W.Frag) (H : Hp) (P : Pa) : Addr → D → Prop
  | lst {a : Addr} {xs : List V} {ds : List D} : H a = some (.lst xs) → RPs K H P xs ds → ROwn K H P a (.list ds)
  | dct {a : Addr} {ep : Nat} {xs : List (NestedKey × Addr × Value)} {ds : List (D × D)} : H a = some (.ext (rawD a ep xs)) → REs K H P xs ds → ROwn K H P a (.dict ds)
/-- the addresses of the frame's own lists -/
def OwnA (env : Fram) (σ : L2.St) (a : Addr) : Prop := ∃ (i : Nat) (d : D), env[i]? = some (.own d) ∧ σ[i]? = some (some (.ref a))
/-- what no one changes while the frame stands so -/
def Stb (P0 : Pa) (env : Fram) (σ : L2.St) : Pa := fun a => P0 a ∧ ¬ OwnA env σ a
/-- the frame: P0 where lists of values may stand -/
structure RE (K : PySem.W.Frag) (P0 : Pa) (env : Fram) (σ : L2.St) (H : Hp) : Prop where
  len : σ.length = env.length
  val : ∀ (i : Nat) (d : D), env[i]? = some (.val d) → ∃ v, σ[i]? = some (some v) ∧ RP K H (Stb P0 env σ) v d
  own : ∀ (i : Nat) (d : D), env[i]? = some (.own d) → ∃ a, σ[i]? = some (some (.ref a)) ∧ ROwn K H (Stb P0 env σ) a d
  inj : ∀ (i j : Nat) (d e : D) (a : Addr), env[i]? = some (.own d) → env[j]? = some (.own e) → σ[i]? = some (some (.ref a)) → σ[j]? = some (some (.ref a)) → i = j
  new : ∀ b, H b = none → P0 b
  pos : ∀ (i : Nat) (d : D) (a : Addr), i ≠ 0 → env[i]? = some (.own d) → σ[i]? = some (some (.ref a)) → P0 a
/-- all stays but the frame's own lists -/
def KeepO (env : Fram) (σ : L2.St) (H H' : Hp) : Prop := ∀ a o, H a = some o → ¬ OwnA env σ a → H' a = some o
section
variable {K : PySem.W.Frag} {H H' H'' : Hp} {P0 P1 : Pa} {env env' : Fram} {σ : L2.St}
theorem ROwn.keep {P P' : Pa} {a : Addr} {d : D} (r : ROwn K H P a d) (ka : ∀ o, H a = some o → tupO o = false → H' a = some o) (k : Keep P H H') (m : ∀ b, P b → P' b) : ROwn K H' P' a d := by
  cases r with
  | lst h q => exact .lst (ka _ h rfl) (q.keep k m)
  | dct h q => exact .dct (ka _ h rfl) (q.keep k m)
theorem ROwn.mono {P P' : Pa} {a : Addr} {d : D} (r : ROwn K H P a d) (m : ∀ b, P b → P' b) : ROwn K H P' a d := r.keep (fun _ e _ => e) Keep.refl m
theorem ROwn.there {P : Pa} {a : Addr} {d : D} (r : ROwn K H P a d) : ∃ o, H a = some o ∧ tupO o = false := by
  cases r with
  | lst h _ => exact ⟨_, h, rfl⟩
  | dct h _ => exact ⟨_, h, rfl⟩
theorem RE.ownAt (r : RE K P0 env σ H) {a : Addr} (h : OwnA env σ a) : ∃ o, H a = some o ∧ tupO o = false := by
  obtain ⟨i, d, e1, e2⟩ := h
  obtain ⟨b, e3, q⟩ := r.own i d e1
  rw [e2] at e3
  cases e3
  exact q.there
theorem KeepO.keep (r : RE K P0 env σ H) (k : KeepO env σ H H') : Keep (Stb P0 env σ) H H' := fun a o e h => k a o e fun ow => by
  rcases h with h | h
  · exact h.2 ow
  · obtain ⟨xs, e', ht⟩ := r.ownAt ow
    rw [e] at e'
    cases e'
    rw [ht] at h
    cases h
theorem KeepO.refl : KeepO env σ H H := fun _ _ e _ => e
theorem KeepO.all (k : ∀ a o, H a = some o → H' a = some o) : KeepO env σ H H' := fun a o e _ => k a o e
theorem KeepO.trans (k : KeepO env σ H H') (k' : KeepO env' σ H' H'') (m : ∀ a, OwnA env' σ a → OwnA env σ a) : KeepO env σ H H'' := fun a o e n => k' a o (k a o e n) fun z => n (m a z)
theorem upd_all {p : Addr} {o : HO} (n : H p = none) : ∀ a u, H a = some u → upd H p o a = some u := fun a u e => by
  rw [upd_ne (ne_of_none e n)]
  exact e
/-- the heap has grown -/
theorem RE.grow (r : RE K P0 env σ H) (k : ∀ a o, H a = some o → H' a = some o) : RE K P0 env σ H' where
  len := r.len
  val := fun i d e => let ⟨v, h1, h2⟩ := r.val i d e; ⟨v, h1, h2.keep (Keep.all k) fun _ z => z⟩
  own := fun i d e => by
    obtain ⟨a, h1, h2⟩ := r.own i d e
    exact ⟨a, h1, h2.keep (fun _ z _ => k _ _ z) (Keep.all k) fun _ z => z⟩
  inj := r.inj
  new := fun b e => r.new b (by
    cases q : H b with
    | none => rfl
    | some o =>
      rw [k b o q] at e
      cases e)
  pos := r.pos
/-- something new stands at p, and is not meant -/
theorem RE.fresh (r : RE K P0 env σ H) {p : Addr} (n : H p = none) {o : HO} : RE K (fun a => P0 a ∧ a ≠ p) env σ (upd H p o) where
  len := r.len
  val := fun i d e => by
    obtain ⟨v, h1, h2⟩ := r.val i d e
    exact ⟨v, h1, ((h2.avoid n).mono fun _ z => (⟨⟨z.1.1, z.2⟩, z.1.2⟩ : Stb (fun a => P0 a ∧ a ≠ p) env σ _)).keep (Keep.all (upd_all n)) fun _ z => z⟩
  own := fun i d e => by
    obtain ⟨a, h1, h2⟩ := r.own i d e
    refine ⟨a, h1, ?_⟩
    cases h2 with
    | lst h q => exact .lst (upd_all n _ _ h) (((q.avoid n).mono fun _ z => (⟨⟨z.1.1, z.2⟩, z.1.2⟩ : Stb (fun a => P0 a ∧ a ≠ p) env σ _)).keep (Keep.all (upd_all n)) fun _ z => z)
    | dct h q => exact .dct (upd_all n _ _ h) (((q.avoid n).mono fun _ z => (⟨⟨z.1.1, z.2⟩, z.1.2⟩ : Stb (fun a => P0 a ∧ a ≠ p) env σ _)).keep (Keep.all (upd_all n)) fun _ z => z)
  inj := r.inj
  new := fun b e => by
    have hb : b ≠ p := by
      rintro rfl
      rw [upd_same] at e
      cases e
    rw [upd_ne hb] at e
    exact ⟨r.new b e, hb⟩
  pos := fun i d a hi e1 e2 => ⟨r.pos i d a hi e1 e2, by
    rintro rfl
    obtain ⟨xs, q, _⟩ := r.ownAt ⟨i, d, e1, e2⟩
    rw [n] at q
    cases q⟩
theorem OwnA.val {i : Nat} {d : D} {v : V} {a : Addr} (h : OwnA (env.set i (.val d)) (σ.set i (some v)) a) : OwnA env σ a := by
  obtain ⟨j, e, h1, h2⟩ := h
  by_cases hj : i = j
  · subst hj
    by_cases hl : i < env.length
    · rw [List.getElem?_set_self hl] at h1
      cases h1
    · rw [List.getElem?_eq_none (by simpa using hl)] at h1
      cases h1
  · rw [List.getElem?_set_ne hj] at h1 h2
    exact ⟨j, e, h1, h2⟩
/-- a slot is given a value -/
theorem RE.setVal (r : RE K P0 env σ H) {i : Nat} {d : D} {v : V} (q : RP K H (Stb P0 env σ) v d) : RE K P0 (env.set i (.val d)) (σ.set i (some v)) H := by
  have m : ∀ a, Stb P0 env σ a → Stb P0 (env.set i (.val d)) (σ.set i (some v)) a := fun a z => ⟨z.1, fun w => z.2 w.val⟩
  have old : ∀ {j : Nat} {s : Slot}, i ≠ j → (env.set i (.val d))[j]? = some s → env[j]? = some s := fun {j s} hj e => by
    rw [List.getElem?_set_ne hj] at e
    exact e
  have ownj : ∀ {j : Nat} {e : D}, (env.set i (.val d))[j]? = some (.own e) → i ≠ j := fun {j e} h z => by
    subst z
    by_cases hl : i < env.length
    · rw [List.getElem?_set_self hl] at h
      cases h
    · rw [List.getElem?_eq_none (by simpa using hl)] at h
      cases h
  refine ⟨by simp [r.len], fun j e h => ?_, fun j e h => ?_, fun j k e f a h1 h2 h3 h4 => ?_, r.new, fun j e a h0 h1 h2 => ?_⟩
  · by_cases hj : i = j
    · subst hj
      by_cases hl : i < env.length
      · rw [List.getElem?_set_self hl] at h
        cases h
        exact ⟨v, List.getElem?_set_self (by rw [r.len]; exact hl), q.mono m⟩
      · rw [List.getElem?_eq_none (by simpa using hl)] at h
        cases h
    · obtain ⟨w, h1, h2⟩ := r.val j e (old hj h)
      exact ⟨w, by rw [List.getElem?_set_ne hj]; exact h1, h2.mono m⟩
  · have hj := ownj h
    obtain ⟨a, h1, h2⟩ := r.own j e (old hj h)
    refine ⟨a, by rw [List.getElem?_set_ne hj]; exact h1, h2.mono m⟩
  · have hj := ownj h1
    have hk := ownj h2
    rw [List.getElem?_set_ne hj] at h1 h3
    rw [List.getElem?_set_ne hk] at h2 h4
    exact r.inj j k e f a h1 h2 h3 h4
  · have hj := ownj h1
    rw [List.getElem?_set_ne hj] at h1 h2
    exact r.pos j e a h0 h1 h2
/-- a slot is given a new list -/
theorem RE.setOwn {b : Addr} (r : RE K (fun a => P0 a ∧ a ≠ b) env σ H) {i : Nat} {d : D} (hi : i < env.length) (hb : ¬ OwnA env σ b) (hp : P0 b) (q : ROwn K H (Stb (fun a => P0 a ∧ a ≠ b) env σ) b d) : RE K P0 (env.set i (.own d)) (σ.set i (some (.ref b))) H := by
  have m : ∀ a, Stb (fun a => P0 a ∧ a ≠ b) env σ a → Stb P0 (env.set i (.own d)) (σ.set i (some (.ref b))) a := fun a z => ⟨z.1.1, fun ⟨j, e, h1, h2⟩ => by
    by_cases hj : i = j
    · subst hj
      rw [List.getElem?_set_self (by rw [r.len]; exact hi)] at h2
      cases h2
      exact z.1.2 rfl
    · rw [List.getElem?_set_ne hj] at h1 h2
      exact z.2 ⟨j, e, h1, h2⟩⟩
  refine ⟨by simp [r.len], fun j e h => ?_, fun j e h => ?_, fun j k e f a h1 h2 h3 h4 => ?_, fun c h => (r.new c h).1, fun j e a h0 h1 h2 => ?_⟩
  · by_cases hj : i = j
    · subst hj
      rw [List.getElem?_set_self hi] at h
      cases h
    · rw [List.getElem?_set_ne hj] at h
      obtain ⟨w, h1, h2⟩ := r.val j e h
      exact ⟨w, by rw [List.getElem?_set_ne hj]; exact h1, h2.mono m⟩
  · by_cases hj : i = j
    · subst hj
      rw [List.getElem?_set_self hi] at h
      cases h
      exact ⟨b, List.getElem?_set_self (by rw [r.len]; exact hi), q.mono m⟩
    · rw [List.getElem?_set_ne hj] at h
      obtain ⟨a, h1, h2⟩ := r.own j e h
      refine ⟨a, by rw [List.getElem?_set_ne hj]; exact h1, h2.mono m⟩
  · by_cases hj : i = j
    · subst hj
      by_cases hk : i = k
      · exact hk
      · rw [List.getElem?_set_self (by rw [r.len]; exact hi)] at h3
        rw [List.getElem?_set_ne hk] at h2 h4
        cases h3
        exact absurd ⟨k, f, h2, h4⟩ hb
    · rw [List.getElem?_set_ne hj] at h1 h3
      by_cases hk : i = k
      · subst hk
        rw [List.getElem?_set_self (by rw [r.len]; exact hi)] at h4
        cases h4
        exact absurd ⟨j, e, h1, h3⟩ hb
      · rw [List.getElem?_set_ne hk] at h2 h4
        exact r.inj j k e f a h1 h2 h3 h4
  · by_cases hj : i = j
    · subst hj
      rw [List.getElem?_set_self (by rw [r.len]; exact hi)] at h2
      cases h2
      exact hp
    · rw [List.getElem?_set_ne hj] at h1 h2
      exact (r.pos j e a h0 h1 h2).1
/-- the own list of slot i is another one -/
theorem RE.changeG (r : RE K P0 env σ H) {i : Nat} {d d' : D} {a : Addr} {o : HO} (hi : env[i]? = some (.own d)) (hs : σ[i]? = some (some (.ref a))) (q : ∀ (H' : Hp) (P' : Pa), Keep (Stb P0 env σ) H H' → (∀ b, Stb P0 env σ b → P' b) → H' a = some o → ROwn K H' P' a d') :
    RE K P0 (env.set i (.own d')) σ (upd H a o) ∧ KeepO env σ H (upd H a o) := by
  have hl : i < env.length := (List.getElem?_eq_some_iff.mp hi).1
  have own : ∀ b, OwnA (env.set i (.own d')) σ b ↔ OwnA env σ b := fun b => by
    constructor
    · rintro ⟨j, e, h1, h2⟩
      by_cases hj : i = j
      · subst hj
        exact ⟨i, d, hi, h2⟩
      · rw [List.getElem?_set_ne hj] at h1
        exact ⟨j, e, h1, h2⟩
    · rintro ⟨j, e, h1, h2⟩
      by_cases hj : i = j
      · subst hj
        exact ⟨i, _, List.getElem?_set_self hl, h2⟩
      · exact ⟨j, e, by rw [List.getElem?_set_ne hj]; exact h1, h2⟩
  have m : ∀ b, Stb P0 env σ b → Stb P0 (env.set i (.own d')) σ b := fun b z => ⟨z.1, fun w => z.2 ((own b).mp w)⟩
  have ko : KeepO env σ H (upd H a o) := fun b u e n => by
    rw [upd_ne]
    · exact e
    · rintro rfl
      exact n ⟨i, d, hi, hs⟩
  have k := ko.keep r
  refine ⟨⟨by simp [r.len], fun j e h => ?_, fun j e h => ?_, fun j k e f b h1 h2 h3 h4 => ?_, fun b h => ?_, fun j e b h0 h1 h2 => ?_⟩, ko⟩
  · by_cases hj : i = j
    · subst hj
      rw [List.getElem?_set_self hl] at h
      cases h
    · rw [List.getElem?_set_ne hj] at h
      obtain ⟨w, h1, h2⟩ := r.val j e h
      exact ⟨w, h1, h2.keep k m⟩
  · by_cases hj : i = j
    · subst hj
      rw [List.getElem?_set_self hl] at h
      cases h
      exact ⟨a, hs, q _ _ k m upd_same⟩
    · rw [List.getElem?_set_ne hj] at h
      obtain ⟨b, h1, h2⟩ := r.own j e h
      have hb : b ≠ a := by
        rintro rfl
        exact hj (r.inj i j d e b hi h hs h1)
      exact ⟨b, h1, h2.keep (fun xs z _ => by rw [upd_ne hb]; exact z) k m⟩
  · have old : ∀ {j : Nat} {e : D}, (env.set i (.own d'))[j]? = some (.own e) → ∃ e', env[j]? = some (.own e') := fun {j e} h => by
      by_cases hj : i = j
      · subst hj
        exact ⟨d, hi⟩
      · rw [List.getElem?_set_ne hj] at h
        exact ⟨e, h⟩
    obtain ⟨e', q1⟩ := old h1
    obtain ⟨f', q2⟩ := old h2
    exact r.inj j k e' f' b q1 q2 h3 h4
  · by_cases hb : b = a
    · subst hb
      rw [upd_same] at h
      cases h
    · rw [upd_ne hb] at h
      exact r.new b h
  · by_cases hj : i = j
    · subst hj
      exact r.pos i d b h0 hi h2
    · rw [List.getElem?_set_ne hj] at h1
      exact r.pos j e b h0 h1 h2
/-- what was the frame's own is so no longer -/
theorem RE.change (r : RE K P0 env σ H) {i : Nat} {d d' : D} {a : Addr} {xs ys : List V} {es : List D} (hi : env[i]? = some (.own d)) (hs : σ[i]? = some (some (.ref a))) (q : RPs K H (Stb P0 env σ) ys es) :
    RE K P0 (env.set i (.own (.list es))) σ (upd H a (.lst ys)) ∧ KeepO env σ H (upd H a (.lst ys)) := r.changeG hi hs fun H' P' k m e => .lst e (q.keep k m)
theorem RE.freeze (r : RE K P0 env σ H) {i : Nat} {d : D} {a : Addr} (hi : env[i]? = some (.own d)) (hs : σ[i]? = some (some (.ref a))) (h0 : i ≠ 0) : RE K P0 (env.set i (.val d)) σ H ∧ RP K H (Stb P0 (env.set i (.val d)) σ) (.ref a) d ∧ ∀ b, OwnA (env.set i (.val d)) σ b → OwnA env σ b := by
  have hl : i < env.length := (List.getElem?_eq_some_iff.mp hi).1
  have ownj : ∀ {j : Nat} {e : D}, (env.set i (.val d))[j]? = some (.own e) → i ≠ j ∧ env[j]? = some (.own e) := fun {j e} h => by
    by_cases hj : i = j
    · subst hj
      rw [List.getElem?_set_self hl] at h
      cases h
    · rw [List.getElem?_set_ne hj] at h
      exact ⟨hj, h⟩
  have less : ∀ b, OwnA (env.set i (.val d)) σ b → OwnA env σ b := fun b ⟨j, e, h1, h2⟩ => ⟨j, e, (ownj h1).2, h2⟩
  have m : ∀ b, Stb P0 env σ b → Stb P0 (env.set i (.val d)) σ b := fun b z => ⟨z.1, fun w => z.2 (less b w)⟩
  have na : ¬ OwnA (env.set i (.val d)) σ a := fun ⟨j, e, h1, h2⟩ => by
    obtain ⟨hj, h1'⟩ := ownj h1
    exact hj (r.inj i j d e a hi h1' hs h2)
  have rp : RP K H (Stb P0 (env.set i (.val d)) σ) (.ref a) d := by
    obtain ⟨b, h1, h2⟩ := r.own i d hi
    rw [hs] at h1
    cases h1
    cases h2 with
    | lst h q => exact .lst ⟨r.pos i _ a h0 hi hs, na⟩ (.inl h) (q.mono m)
    | dct h q => exact .dct ⟨r.pos i _ a h0 hi hs, na⟩ (.inl h) (q.mono m)
  refine ⟨⟨by simp [r.len], fun j e h => ?_, fun j e h => ?_, fun j k e f b h1 h2 h3 h4 => ?_, r.new, fun j e b h0 h1 h2 => r.pos j e b h0 (ownj h1).2 h2⟩, rp, less⟩
  · by_cases hj : i = j
    · subst hj
      rw [List.getElem?_set_self hl] at h
      cases h
      exact ⟨_, hs, rp⟩
    · rw [List.getElem?_set_ne hj] at h
      obtain ⟨w, h1, h2⟩ := r.val j e h
      exact ⟨w, h1, h2.mono m⟩
  · obtain ⟨hj, h'⟩ := ownj h
    obtain ⟨b, h1, h2⟩ := r.own j e h'
    exact ⟨b, h1, h2.mono m⟩
  · exact r.inj j k e f b (ownj h1).2 (ownj h2).2 h3 h4
end
end PV
set_option Elab.async false
set_option linter.all false
set_option maxRecDepth 100000
/-! PV, part C: what the evaluator says of an expression, as a reading of the hand layer; the rules of the layer entail it. -/
namespace PV
open PySem PySem.Spec PyProof.Rows L2
variable [Wd]
/-- what is wanted of a result -/
def Post {A : Type} (r : Res A) (k : A → Prop) (x : Exc → Fram → Prop) : Prop := match r with
  | .ok a => k a
  | .exc z e => x z e
  | .bad => False
theorem post_bind {A B : Type} {r : Res A} {f : A → Res B} {k : B → Prop} {x : Exc → Fram → Prop} : Post (r.bind f) k x ↔ Post r (fun a => Post (f a) k x) x := by
  cases r <;> exact Iff.rfl
theorem post_opt {A : Type} {o : Option A} {k : A → Prop} {x : Exc → Fram → Prop} : Post (opt o) k x ↔ ∃ a, o = some a ∧ k a := by
  cases o with
  | none => exact ⟨fun h => h.elim, fun ⟨_, e, _⟩ => by cases e⟩
  | some a => exact ⟨fun h => ⟨a, rfl, h⟩, fun ⟨_, e, h⟩ => by cases e; exact h⟩
theorem Post.imp {A : Type} {r : Res A} {k k' : A → Prop} {x x' : Exc → Fram → Prop} (h : Post r k x) (hk : ∀ a, k a → k' a) (hx : ∀ z e, x z e → x' z e) : Post r k' x' := by
  cases r with
  | ok a => exact hk a h
  | exc z e => exact hx z e h
  | bad => exact h
/-- how the frame stands behind an expression -/
structure Aft (K : PySem.W.Frag) (P0 : Pa) (env : Fram) (σ : L2.St) (H : Hp) (env' : Fram) (H' : Hp) : Prop where
  re : RE K P0 env' σ H'
  ko : KeepO env σ H H'
  less : ∀ a, OwnA env' σ a → OwnA env σ a
  tr : ∀ a, H' a = none → H a = none
section
variable {K : PySem.W.Frag} {H H' H1 H2 : Hp} {P0 P : Pa} {env env' env1 env2 : Fram} {σ : L2.St}
theorem none_grow (k : ∀ a o, H a = some o → H' a = some o) : ∀ a, H' a = none → H a = none := fun a h => by
  cases e : H a with
  | none => rfl
  | some o =>
    rw [k a o e] at h
    cases h
theorem Aft.refl (r : RE K P0 env σ H) : Aft K P0 env σ H env H := ⟨r, KeepO.refl, fun _ h => h, fun _ h => h⟩
theorem Aft.trans (a : Aft K P0 env σ H env1 H1) (b : Aft K P0 env1 σ H1 env2 H2) : Aft K P0 env σ H env2 H2 := ⟨b.re, a.ko.trans b.ko a.less, fun c h => a.less c (b.less c h), fun c h => a.tr c (b.tr c h)⟩
theorem Aft.stb (a : Aft K P0 env σ H env1 H1) : ∀ c, Stb P0 env σ c → Stb P0 env1 σ c := fun c h => ⟨h.1, fun w => h.2 (a.less c w)⟩
theorem Aft.rp (a : Aft K P0 env σ H env1 H1) (r : RE K P0 env σ H) {v : V} {d : D} (q : RP K H (Stb P0 env σ) v d) : RP K H1 (Stb P0 env1 σ) v d := q.keep (a.ko.keep r) a.stb
theorem Aft.rps (a : Aft K P0 env σ H env1 H1) (r : RE K P0 env σ H) {v : List V} {d : List D} (q : RPs K H (Stb P0 env σ) v d) : RPs K H1 (Stb P0 env1 σ) v d := q.keep (a.ko.keep r) a.stb
/-- the heap has grown -/
theorem Aft.grow (r : RE K P0 env σ H) (k : ∀ a o, H a = some o → H' a = some o) : Aft K P0 env σ H env H' := ⟨r.grow k, KeepO.all k, fun _ h => h, none_grow k⟩
/-- a free address is not the frame's own, and may be a value's -/
theorem RE.stbNew (r : RE K P0 env σ H) {p : Addr} (n : H p = none) : Stb P0 env σ p := ⟨r.new p n, fun w => by
  obtain ⟨xs, e, _⟩ := r.ownAt w
  rw [n] at e
  cases e⟩
end
/-- what is wanted of an exception: the exception, the frame -/
abbrev WZ := Exc → Pa → Fram → L2.St → Hp → Prop
def XP (K : PySem.W.Frag) (W : WZ) (P0 : Pa) (env : Fram) (σ : L2.St) (H : Hp) (z : Exc) (e : Fram) : Prop := ∀ H', Aft K P0 env σ H e H' → W z P0 e σ H'
/-- an expression -/
def tE (Ph : CallF) (K : PySem.W.Frag) (W : WZ) (e : Exp) : TE := fun σ H Q => ∃ (P0 : Pa) (env : Fram), RE K P0 env σ H ∧
  Post (ev Ph e env) (fun p => ∀ v H', Aft K P0 env σ H p.2 H' → RP K H' (Stb P0 p.2 σ) v p.1 → Q v H') (XP K W P0 env σ H)
/-- a test -/
def tT (Ph : CallF) (K : PySem.W.Frag) (W : WZ) (e : Exp) : TT := fun σ H Q => ∃ (P0 : Pa) (env : Fram), RE K P0 env σ H ∧
  Post (ev Ph e env) (fun p => ∃ b, p.1 = .bool b ∧ ∀ H', Aft K P0 env σ H p.2 H' → Q b H') (XP K W P0 env σ H)
/-- a value for an operand -/
def ROp (K : PySem.W.Frag) (H : Hp) (P : Pa) (σ : L2.St) (v : V) : Opd → Prop
  | .val d => RP K H P v d
  | .slot i => σ[i]? = some (some v)
inductive ROps (K : PySem.W.Frag) (H : Hp) (P : Pa) (σ : L2.St) : List V → List Opd → Prop
  | nil : ROps K H P σ [] []
  | cons {v : V} {vs : List V} {o : Opd} {os : List Opd} : ROp K H P σ v o → ROps K H P σ vs os → ROps K H P σ (v :: vs) (o :: os)
def tO (Ph : CallF) (K : PySem.W.Frag) (W : WZ) (e : Exp) : TE := fun σ H Q => ∃ (P0 : Pa) (env : Fram), RE K P0 env σ H ∧
  Post (opd e env (ev Ph e env)) (fun p => ∀ v H', Aft K P0 env σ H p.2 H' → ROp K H' (Stb P0 p.2 σ) σ v p.1 → Q v H') (XP K W P0 env σ H)
def tEs (Ph : CallF) (K : PySem.W.Frag) (W : WZ) (e : Exs) : TA := fun σ H Q => ∃ (P0 : Pa) (env : Fram), RE K P0 env σ H ∧
  Post (evs Ph e env) (fun p => ∀ v H', Aft K P0 env σ H p.2 H' → RPs K H' (Stb P0 p.2 σ) v p.1 → Q v H') (XP K W P0 env σ H)
def tOs (Ph : CallF) (K : PySem.W.Frag) (W : WZ) (e : Exs) : TA := fun σ H Q => ∃ (P0 : Pa) (env : Fram), RE K P0 env σ H ∧
  Post (evp Ph e env) (fun p => ∀ v H', Aft K P0 env σ H p.2 H' → ROps K H' (Stb P0 p.2 σ) σ v p.1 → Q v H') (XP K W P0 env σ H)
/-- a value that is looked at: a datum's, or the frame's own list -/
inductive RW (K : PySem.W.Frag) (H : Hp) (P : Pa) : V → D → Prop
  | val {v : V} {d : D} : RP K H P v d → RW K H P v d
  | own {a : Addr} {d : D} : ROwn K H P a d → RW K H P (.ref a) d
inductive RWs (K : PySem.W.Frag) (H : Hp) (P : Pa) : List V → List D → Prop
  | nil : RWs K H P [] []
  | cons {v : V} {vs : List V} {d : D} {ds : List D} : RW K H P v d → RWs K H P vs ds → RWs K H P (v :: vs) (d :: ds)
section
variable {K : PySem.W.Frag} {W : WZ} {H H' H1 H2 : Hp} {P0 P P' : Pa} {env env' env1 env2 : Fram} {σ : L2.St} {Ph : CallF}
theorem RW.list {v : V} {ds : List D} (r : RW K H P v (.list ds)) : ∃ a xs, v = .ref a ∧ SqL K H a xs ∧ RPs K H P xs ds := by
  cases r with
  | val q => exact q.list
  | own q => cases q with
    | lst h q => exact ⟨_, _, rfl, SqL.of h, q⟩
theorem RW.tupleP {v : V} {ds : List D} (r : RW K H P v (.tuple ds)) : ∃ a xs, v = .ref a ∧ PlT K H a xs ∧ RPs K H P xs ds := by
  cases r with
  | val q => exact q.tupleP
  | own q => cases q
theorem RW.tuple {v : V} {ds : List D} (r : RW K H P v (.tuple ds)) : ∃ a xs, v = .ref a ∧ SqT K H a xs ∧ RPs K H P xs ds := by
  obtain ⟨a, xs, e, s, q⟩ := r.tupleP
  exact ⟨a, xs, e, s.sq, q⟩
theorem RW.int {v : V} {i : Int} (r : RW K H P v (.int i)) : v = .int i := by
  cases r with
  | val q => cases q; rfl
  | own q => cases q
theorem RW.bool {v : V} {i : Bool} (r : RW K H P v (.bool i)) : v = .bl i := by
  cases r with
  | val q => cases q; rfl
  | own q => cases q
theorem RW.str {v : V} {i : Str} (r : RW K H P v (.str i)) : v = .str i := by
  cases r with
  | val q => cases q; rfl
  | own q => cases q
theorem RW.dp {v : V} {d : D} (r : RW K H P v d) (n : noDict d = true) : Dp K H v d := by
  cases r with
  | val q => exact q.dp n
  | own q => cases q with
    | lst h q => exact .lst (SqL.of h) (q.dp (by simpa [noDict] using n))
    | dct h q => cases n
theorem RE.look (r : RE K P0 env σ H) {i : Nat} {d : D} {v : V} (h : look env i = some d) (hs : σ[i]? = some (some v)) : RW K H (Stb P0 env σ) v d := by
  unfold PV.look at h
  split at h
  · rename_i d' e
    cases h
    obtain ⟨w, h1, h2⟩ := r.val i _ e
    rw [hs] at h1
    cases h1
    exact .val h2
  · rename_i d' e
    cases h
    obtain ⟨a, h1, h2⟩ := r.own i _ e
    rw [hs] at h1
    cases h1
    exact .own h2
  · cases h
theorem RE.deref (r : RE K P0 env σ H) {o : Opd} {d : D} {v : V} (h : deref env o = some d) (q : ROp K H (Stb P0 env σ) σ v o) : RW K H (Stb P0 env σ) v d := by
  cases o with
  | val e =>
    cases (show some e = some d from h)
    exact .val q
  | slot i => exact r.look h q
theorem RE.derefs (r : RE K P0 env σ H) : ∀ {os : List Opd} {ds : List D} {vs : List V}, derefs env os = some ds → ROps K H (Stb P0 env σ) σ vs os → RWs K H (Stb P0 env σ) vs ds
  | [], ds, vs, h, q => by
    cases h
    cases q
    exact .nil
  | o :: os, ds, vs, h, q => by
    cases q with
    | cons q1 q2 =>
      unfold PV.derefs at h
      cases e : PV.deref env o with
      | none => rw [e] at h; cases h
      | some d =>
        rw [e] at h
        cases e2 : PV.derefs env os with
        | none => rw [e2] at h; cases h
        | some es =>
          rw [e2] at h
          cases h
          exact .cons (r.deref e q1) (RE.derefs r e2 q2)
theorem Aft.rop (a : Aft K P0 env σ H env1 H1) (r : RE K P0 env σ H) {v : V} {o : Opd} (q : ROp K H (Stb P0 env σ) σ v o) : ROp K H1 (Stb P0 env1 σ) σ v o := by
  cases o with
  | val d => exact a.rp r q
  | slot i => exact q
theorem XP.after (a : Aft K P0 env σ H env1 H1) {z : Exc} {e : Fram} (x : XP K W P0 env σ H z e) : XP K W P0 env1 σ H1 z e := fun H' b => x H' (a.trans b)
/-- one expression, then what follows -/
theorem tE_of (r : RE K P0 env σ H) {e : Exp} {R : V → Hp → Prop} {k : D × Fram → Prop} (h : Post (ev Ph e env) k (XP K W P0 env σ H))
    (hk : ∀ d env1, k (d, env1) → ∀ v H1, Aft K P0 env σ H env1 H1 → RP K H1 (Stb P0 env1 σ) v d → R v H1) : tE Ph K W e σ H R :=
  ⟨P0, env, r, h.imp (fun p q v H1 a b => hk p.1 p.2 q v H1 a b) fun _ _ x => x⟩
theorem tO_of (r : RE K P0 env σ H) {e : Exp} {R : V → Hp → Prop} {k : Opd × Fram → Prop} (h : Post (opd e env (ev Ph e env)) k (XP K W P0 env σ H))
    (hk : ∀ d env1, k (d, env1) → ∀ v H1, Aft K P0 env σ H env1 H1 → ROp K H1 (Stb P0 env1 σ) σ v d → R v H1) : tO Ph K W e σ H R :=
  ⟨P0, env, r, h.imp (fun p q v H1 a b => hk p.1 p.2 q v H1 a b) fun _ _ x => x⟩
theorem tEs_of (r : RE K P0 env σ H) {e : Exs} {R : List V → Hp → Prop} {k : List D × Fram → Prop} (h : Post (evs Ph e env) k (XP K W P0 env σ H))
    (hk : ∀ d env1, k (d, env1) → ∀ v H1, Aft K P0 env σ H env1 H1 → RPs K H1 (Stb P0 env1 σ) v d → R v H1) : tEs Ph K W e σ H R :=
  ⟨P0, env, r, h.imp (fun p q v H1 a b => hk p.1 p.2 q v H1 a b) fun _ _ x => x⟩
theorem tOs_of (r : RE K P0 env σ H) {e : Exs} {R : List V → Hp → Prop} {k : List Opd × Fram → Prop} (h : Post (evp Ph e env) k (XP K W P0 env σ H))
    (hk : ∀ d env1, k (d, env1) → ∀ v H1, Aft K P0 env σ H env1 H1 → ROps K H1 (Stb P0 env1 σ) σ v d → R v H1) : tOs Ph K W e σ H R :=
  ⟨P0, env, r, h.imp (fun p q v H1 a b => hk p.1 p.2 q v H1 a b) fun _ _ x => x⟩
theorem tT_of (r : RE K P0 env σ H) {e : Exp} {R : Bool → Hp → Prop} {k : D × Fram → Prop} (h : Post (ev Ph e env) k (XP K W P0 env σ H))
    (hk : ∀ d env1, k (d, env1) → ∃ b, d = .bool b ∧ ∀ H1, Aft K P0 env σ H env1 H1 → R b H1) : tT Ph K W e σ H R :=
  ⟨P0, env, r, h.imp (fun p q => hk p.1 p.2 q) fun _ _ x => x⟩
end
theorem PE.imp {X : Cx} {e : Expr} {t t' : TE} (h : PE X e t) (m : ∀ σ H Q, t' σ H Q → t σ H Q) : PE X e t' := ⟨fun pins s σ H Q I q => h.run pins s σ H Q I (m σ H Q q)⟩
theorem PT.imp {X : Cx} {e : Expr} {t t' : TT} (h : PT X e t) (m : ∀ σ H Q, t' σ H Q → t σ H Q) : PT X e t' := ⟨fun pins s σ H Q I q => h.run pins s σ H Q I (m σ H Q q)⟩
theorem PA.imp {X : Cx} {e : List Expr} {t t' : TA} (h : PA X e t) (m : ∀ σ H Q, t' σ H Q → t σ H Q) : PA X e t' := ⟨fun pos pins s σ H Q I q => h.run pos pins s σ H Q I (m σ H Q q)⟩
section
variable {K : PySem.W.Frag} {W : WZ} {Ph : CallF} {σ : L2.St} {H : Hp} {Q : VK}
/-! ### the simple ones -/
theorem ent_var {i : Nat} (h : tE Ph K W (.var i) σ H Q) : tVar i σ H Q := by
  obtain ⟨P0, env, r, h⟩ := h
  unfold ev readVar at h
  split at h
  · rename_i d e
    obtain ⟨v, h1, h2⟩ := r.val i d e
    exact ⟨v, h1, h v H (Aft.refl r) h2⟩
  · rename_i d e
    split at h
    · exact h.elim
    · rename_i h0
      obtain ⟨a, h1, _⟩ := r.own i d e
      obtain ⟨f1, f2, f3⟩ := r.freeze e h1 h0
      exact ⟨.ref a, h1, h _ H ⟨f1, KeepO.refl, f3, fun _ h => h⟩ f2⟩
  · exact h.elim
theorem ent_con {e : Exp} {v : V} {d : D} (he : ∀ env, ev Ph e env = .ok (d, env)) (hv : ∀ H P, RP K H P v d) (h : tE Ph K W e σ H Q) : tC v σ H Q := by
  obtain ⟨P0, env, r, h⟩ := h
  rw [he] at h
  exact h v H (Aft.refl r) (hv _ _)
theorem ent_opd {e : Exp} {t : TE} (h1 : ∀ Q, tE Ph K W e σ H Q → t σ H Q) (h2 : ∀ i, e = .var i → t = tVar i) (h : tO Ph K W e σ H Q) : t σ H Q := by
  obtain ⟨P0, env, r, h⟩ := h
  have plain : Post ((ev Ph e env).bind fun p => .ok (Opd.val p.1, p.2)) (fun p => ∀ v H', Aft K P0 env σ H p.2 H' → ROp K H' (Stb P0 p.2 σ) σ v p.1 → Q v H') (XP K W P0 env σ H) → t σ H Q := fun h =>
    h1 _ (tE_of r (post_bind.mp h) fun d env1 q v H1 a b => q v H1 a b)
  unfold opd at h
  split at h
  · rename_i i
    split at h
    · rename_i ho
      rw [h2 i rfl]
      unfold isOwn at ho
      split at ho
      · rename_i d e
        obtain ⟨a, e1, _⟩ := r.own i d e
        exact ⟨_, e1, h _ H (Aft.refl r) e1⟩
      · cases ho
    · exact plain h
  · exact plain h
end
end PV
set_option Elab.async false
set_option linter.all false
set_option maxRecDepth 100000
set_option maxHeartbeats 2000000
/-! PV, part D: operators over data. -/
namespace PV
open PySem PySem.Spec PyProof.Rows L2
variable [Wd]
/-- what an operation leaves: the heap has grown, the value stands for d, a list is new -/
structure Out (K : PySem.W.Frag) (P : Pa) (H : Hp) (v : V) (d : D) (H' : Hp) : Prop where
  grow : ∀ a u, H a = some u → H' a = some u
  rp : RP K H' P v d
/-- a list that is new -/
def FreshL (K : PySem.W.Frag) (P : Pa) (H : Hp) (v : V) (d : D) (H' : Hp) : Prop := ∀ ds, d = .list ds → ∃ p vs, v = .ref p ∧ H p = none ∧ H' = upd H p (.lst vs) ∧ RPs K H P vs ds
def rBin (K : PySem.W.Frag) (o : Bop) : R2 := fun x y H Q => ∃ (P : Pa) (dx dy dz : D), (∀ b, H b = none → P b) ∧ RW K H P x dx ∧ RW K H P y dy ∧ binF o dx dy = some dz ∧
  ∀ v H', Out K P H v dz H' → FreshL K P H v dz H' → Q v H'
section
variable {X : Cx} {K : PySem.W.Frag} {P : Pa} {H : Hp}
theorem out_int (i : Int) : Out K P H (.int i) (.int i) H := ⟨fun _ _ e => e, .int i⟩
theorem fresh_int (i : Int) : FreshL K P H (.int i) (.int i) H := fun _ e => by cases e
theorem out_lst {p : Addr} {vs : List V} {ds : List D} (new : ∀ b, H b = none → P b) (n : H p = none) (r : RPs K H P vs ds) : Out K P H (.ref p) (.list ds) (upd H p (.lst vs)) :=
  ⟨upd_all n, .lst (new p n) (.inl upd_same) (r.keep (Keep.all (upd_all n)) fun _ z => z)⟩
theorem fresh_lst {p : Addr} {vs : List V} {ds : List D} (n : H p = none) (r : RPs K H P vs ds) : FreshL K P H (.ref p) (.list ds) (upd H p (.lst vs)) := fun es e => by
  cases e
  exact ⟨p, vs, rfl, n, rfl, r⟩
theorem out_tup {p : Addr} {o : Obj} {vs : List V} {ds : List D} (n : H p = none) (e : o.dict = none) (r : RPs K H P vs ds) : Out K P H (.ref p) (.tuple ds) (upd H p (.frz o (.tup vs))) :=
  ⟨upd_all n, .tup (.new e) (r.keep (Keep.all (upd_all n)) fun _ z => z)⟩
/-- a tuple newly laid, its object known -/
theorem laidT {pins : List (Addr × Obj)} {σ : L2.St} {G : Hp} {s : Shared} {h' : Heap} {tk : Tok} {arr : Array Value} {vs : List V} {Q : VK} (I : Inv X pins σ G s) (kp : ∀ b o, s.heap.get? b = some o → h'.get? b = some o) (rv : Vals vs arr.toList) (hz : vs.length ≤ sizeLine)
    (q : ∀ p (o : Obj), G p = none → o.dict = none → Q (.ref p) (upd G p (.frz o (.tup vs)))) :
    EP X pins σ Q (.ref h'.objs.size) { s with heap := h'.push { cls := .type "tuple", data := .seq arr }, toks := tk } := by
  have J : Inv X pins σ G { s with heap := h', toks := tk } := I.kept (t' := tk) kp
  refine ⟨.ref h'.objs.size, upd G h'.objs.size (.frz { cls := .type "tuple", data := .seq arr } (.tup vs)), J.laid (t' := tk) (fun _ _ e => Heap.get?_push_of_some _ e) (Nat.le_refl _) ⟨Heap.get?_push_size _ rfl, hz, arr.toList, rv, ?_⟩, rfl, q _ _ (J.hok.fresh (Nat.le_refl _)) rfl⟩
  rw [Array.toArray_toList]
  exact IsTup.new _ _
theorem vals_empty {vs : List V} {us : List Value} (r : Vals vs us) (e : vs = []) : us = [] := by
  subst e
  cases r
  rfl
theorem op_catP {pins : List (Addr × Obj)} {s : Shared} {σ : L2.St} {G : Hp} {a b : Addr} {xs ys : List V} {Q : VK} (I : Inv X pins σ G s) (ha : SqT X.K G a xs) (hb : SqT X.K G b ys) (hz : xs.length + ys.length ≤ sizeLine)
    (q0 : xs = [] → Q (.ref b) G) (q1 : ys = [] → Q (.ref a) G) (q2 : ∀ p (o : Obj), G p = none → o.dict = none → Q (.ref p) (upd G p (.frz o (.tup (xs ++ ys))))) :
    wpAny (model X.prog X.w) X.A (binaryOp .Add (.ref a) (.ref b)) (EP X pins σ Q) X.xe s := by
  obtain ⟨us, rxs, isx, _⟩ := I.tuple ha
  obtain ⟨ws, rys, isy, _⟩ := I.tuple hb
  by_cases hx : xs = []
  · obtain rfl := vals_empty rxs hx
    exact cat_tup0 isx isy ⟨.ref b, G, I, rfl, q0 hx⟩
  · refine HT.cat_tup isx isy (fun z => hx (rxs.nil_iff.mp z)) (fun z => ⟨.ref a, G, I, rfl, q1 (rys.nil_iff.mp z)⟩) (fun _ => ?_) (by
      rw [← rxs.length, ← rys.length]
      exact hz)
    exact laidT (h' := s.heap) (tk := s.toks) I (fun _ _ e => e) (rxs.append rys) (by
      rw [List.length_append]
      exact hz) q2
theorem sz_line : LINE = sizeLine := by rw [sizeLine_eq]
theorem opb_sub : OpR X (binaryOp .Sub) (rBin X.K .sub) := by
  intro pins s σ H x y v u Q I rx ry h
  obtain ⟨P, dx, dy, dz, new, hx, hy, e, q⟩ := h
  cases dx <;> cases dy <;> simp only [binF] at e <;> try cases e
  cases hx.int
  cases hy.int
  exact op_sub pins s σ H _ _ v u Q I rx ry ⟨_, _, rfl, rfl, q _ _ (out_int _) (fresh_int _)⟩
theorem opb_band : OpR X (binaryOp .BitAnd) (rBin X.K .band) := by
  intro pins s σ H x y v u Q I rx ry h
  obtain ⟨P, dx, dy, dz, new, hx, hy, e, q⟩ := h
  cases dx <;> cases dy <;> simp only [binF] at e <;> try cases e
  cases hx.int
  cases hy.int
  exact op_and pins s σ H _ _ v u Q I rx ry ⟨_, _, rfl, rfl, q _ _ (out_int _) (fresh_int _)⟩
theorem opb_shr : OpR X (binaryOp .RShift) (rBin X.K .shr) := by
  intro pins s σ H x y v u Q I rx ry h
  obtain ⟨P, dx, dy, dz, new, hx, hy, e, q⟩ := h
  cases dx <;> cases dy <;> simp only [binF] at e <;> try cases e
  cases hx.int
  cases hy.int
  split at e
  · rename_i hc
    cases e
    exact op_shr pins s σ H _ _ v u Q I rx ry ⟨_, _, rfl, rfl, hc, q _ _ (out_int _) (fresh_int _)⟩
  · cases e
theorem opb_pow : OpR X (binaryOp .Pow) (rBin X.K .pow) := by
  intro pins s σ H x y v u Q I rx ry h
  obtain ⟨P, dx, dy, dz, new, hx, hy, e, q⟩ := h
  cases dx <;> cases dy <;> simp only [binF] at e <;> try cases e
  cases hx.int
  cases hy.int
  split at e
  · rename_i hc
    cases e
    exact op_pow pins s σ H _ _ v u Q I rx ry ⟨_, _, rfl, rfl, hc, q _ _ (out_int _) (fresh_int _)⟩
  · cases e
theorem opb_shl : OpR X (binaryOp .LShift) (rBin X.K .shl) := by
  intro pins s σ H x y v u Q I rx ry h
  obtain ⟨P, dx, dy, dz, new, hx, hy, e, q⟩ := h
  cases dx <;> cases dy <;> simp only [binF] at e <;> try cases e
  cases hx.int
  cases hy.int
  split at e
  · rename_i hc
    cases e
    exact op_shl pins s σ H _ _ v u Q I rx ry ⟨_, _, rfl, rfl, hc, q _ _ (out_int _) (fresh_int _)⟩
  · cases e
theorem opb_mod : OpR X (binaryOp .Mod) (rBin X.K .mod) := by
  intro pins s σ H x y v u Q I rx ry h
  obtain ⟨P, dx, dy, dz, new, hx, hy, e, q⟩ := h
  cases dx <;> cases dy <;> simp only [binF] at e <;> try cases e
  cases hx.int
  cases hy.int
  split at e
  · rename_i hc
    cases e
    exact op_modN pins s σ H _ _ v u Q I rx ry ⟨_, _, rfl, rfl, hc, q _ _ (out_int _) (fresh_int _)⟩
  · cases e
theorem op_fdivA : OpR X (binaryOp .FloorDiv) (rI (fun _ j => j ≠ 0 ∧ j.natAbs.log2 < 9000) fun i j => .int (i.fdiv j)) := opI fun _ _ _ _ _ _ _ hc q => floordiv_int hc.1 q (.inl (PyProof.noPylong_of_log2 hc.2))
theorem opb_fdiv : OpR X (binaryOp .FloorDiv) (rBin X.K .fdiv) := by
  intro pins s σ H x y v u Q I rx ry h
  obtain ⟨P, dx, dy, dz, new, hx, hy, e, q⟩ := h
  cases dx <;> cases dy <;> simp only [binF] at e <;> try cases e
  cases hx.int
  cases hy.int
  split at e
  · rename_i hc
    cases e
    exact op_fdivA pins s σ H _ _ v u Q I rx ry ⟨_, _, rfl, rfl, hc, q _ _ (out_int _) (fresh_int _)⟩
  · cases e
/-- lists of any standing -/
theorem op_catL {pins : List (Addr × Obj)} {s : Shared} {σ : L2.St} {H : Hp} {a b : Addr} {xs zs : List V} {Q : VK} (I : Inv X pins σ H s) (ha : SqL X.K H a xs) (hb : SqL X.K H b zs) (hz : xs.length + zs.length ≤ sizeLine)
    (q : ∀ p, H p = none → Q (.ref p) (upd H p (.lst (xs ++ zs)))) : wpAny (model X.prog X.w) X.A (binaryOp .Add (.ref a) (.ref b)) (EP X pins σ Q) X.xe s := by
  obtain ⟨its, r1, ⟨⟨c1, d1, dt1, sl1⟩, n1, e1, h1, h1', h1''⟩, _⟩ := I.list ha
  obtain ⟨its2, r2, ⟨⟨c2, d2, dt2, sl2⟩, n2, e2, h2, h2', h2''⟩, _⟩ := I.list hb
  simp only at h1 h1' h1'' h2 h2' h2''
  subst h1 h1' h1'' h2 h2' h2''
  have l1 := r1.length
  have l2 := r2.length
  refine concat_meets ⟨_, e1, rfl⟩ ⟨_, e2, rfl⟩ noFill_list_add seq_list_add PySem.F.slot_list_add PySem.F.entry_list_add (PySem.F.args_list_add_2 _ _) (list_addW a b its.toArray its2.toArray n1 n2 none none sl1 sl2 (by simp; omega)) ⟨e1, e2, ?_⟩
  have ea : its.toArray ++ its2.toArray = (its ++ its2).toArray := by simp
  rw [ea]
  exact ⟨.ref _, _, I.lnew (t' := s.toks) (r1.append r2) (by rw [List.length_append]; omega), rfl, q _ I.fresh⟩
theorem opb_add : OpR X (binaryOp .Add) (rBin X.K .add) := by
  intro pins s σ H x y v u Q I rx ry h
  obtain ⟨P, dx, dy, dz, new, hx, hy, e, q⟩ := h
  cases dx <;> cases dy <;> simp only [binF] at e <;> try cases e
  · cases hx.int
    cases hy.int
    exact op_add pins s σ H _ _ v u Q I rx ry ⟨_, _, rfl, rfl, q _ _ (out_int _) (fresh_int _)⟩
  · cases hx.str
    cases hy.str
    split at e
    · rename_i hc
      cases e
      exact op_add_str pins s σ H _ _ v u Q I rx ry ⟨_, _, rfl, rfl, by rw [← sz_line]; exact hc, q _ _ ⟨fun _ _ e => e, .str _⟩ (fun _ e => by cases e)⟩
    · cases e
  · obtain ⟨a, xs, rfl, ha, ra⟩ := hx.list
    obtain ⟨b, ys, rfl, hb, rb⟩ := hy.list
    cases rx
    cases ry
    split at e
    · rename_i hc
      cases e
      exact op_catL I ha hb (by rw [ra.length, rb.length, ← sz_line]; exact hc) fun p n => q _ _ (out_lst new n (ra.append rb)) (fresh_lst n (ra.append rb))
    · cases e
  · obtain ⟨a, xs, rfl, ha, ra⟩ := hx.tupleP
    obtain ⟨b, ys, rfl, hb, rb⟩ := hy.tupleP
    cases rx
    cases ry
    split at e
    · rename_i hc
      cases e
      refine op_catP I ha.sq hb.sq (by rw [ra.length, rb.length, ← sz_line]; exact hc) (fun z => ?_) (fun z => ?_) (fun p o n d => ?_)
      · have l := ra.append rb
        rw [z, List.nil_append] at l
        exact q _ _ ⟨fun _ _ e => e, .tup hb l⟩ (fun _ e => by cases e)
      · have l := ra.append rb
        rw [z, List.append_nil] at l
        exact q _ _ ⟨fun _ _ e => e, .tup ha l⟩ (fun _ e => by cases e)
      · exact q _ _ (out_tup n d (ra.append rb)) (fun _ e => by cases e)
    · cases e
/-! a list, a tuple, times a number -/
theorem tuple_mul_same (l : Addr) (items : Array Value) (n : Nat) (dd : Option Addr) (sl : Array (Option Value)) (x : Int) (u : Tok) (c0 : (decide (x < -(2 ^ 63)) || decide (x ≥ 2 ^ 63)) = false) (c1 : (items.isEmpty || x == 1) = true) :
    Meets (Builtin.«tuple.__mul__» ⟨[.ref l, .int x u], []⟩) (fun _ R s => s.heap.get? l = some { cls := .type "tuple", dict := dd, data := .seq items n, slots := sl } ∧ R (.ok (.ret (Value.ref l))) s) :=
  .of_wp fun prog w A R s h => by
    obtain ⟨hp, g, d, tk, os⟩ := s
    obtain ⟨hl, h⟩ := h
    have f1 := AutoSeq1.idx_int
    wp_walk using wpAny_loadPart' hl
    repeat (first
      | (refine wpAny_ite_false (decide_eq_false (by rw [c0]; exact Bool.false_ne_true)) ?_; wp_walk using wpAny_loadPart' hl)
      | (refine wpAny_ite_true (decide_eq_true c1) ?_; wp_walk using wpAny_loadPart' hl))
    exact ⟨_, rfl, h⟩
theorem tuple_mul_none (l : Addr) (items : Array Value) (n : Nat) (dd : Option Addr) (sl : Array (Option Value)) (x : Int) (u : Tok) (c0 : (decide (x < -(2 ^ 63)) || decide (x ≥ 2 ^ 63)) = false) (c1 : (items.isEmpty || x == 1) = false) (c2 : (decide (x ≤ 0) || items.isEmpty) = true) :
    Meets (Builtin.«tuple.__mul__» ⟨[.ref l, .int x u], []⟩) (fun _ R s => s.heap.get? l = some { cls := .type "tuple", dict := dd, data := .seq items n, slots := sl } ∧
      R (.ok (.ret (Value.ref s.heap.objs.size))) { s with heap := s.heap.push { cls := Value.type "tuple", data := Data.seq #[] }, toks := s.toks }) :=
  .of_wp fun prog w A R s h => by
    obtain ⟨hp, g, d, tk, os⟩ := s
    obtain ⟨hl, h⟩ := h
    have f1 := AutoSeq1.idx_int
    wp_walk using wpAny_loadPart' hl
    repeat (first
      | (refine wpAny_ite_false (decide_eq_false (by rw [c0]; exact Bool.false_ne_true)) ?_; wp_walk using wpAny_loadPart' hl)
      | (refine wpAny_ite_false (decide_eq_false (by rw [c1]; exact Bool.false_ne_true)) ?_; wp_walk using wpAny_loadPart' hl)
      | (refine wpAny_ite_true (decide_eq_true c2) ?_; wp_walk using wpAny_loadPart' hl))
    exact ⟨_, rfl, h⟩
theorem op_repTA {pins : List (Addr × Obj)} {s : Shared} {σ : L2.St} {H : Hp} {a : Addr} {k : Int} {t : Tok} {xs : List V} {Q : VK} (I : Inv X pins σ H s) (ha : SqT X.K H a xs) (h0 : -(2 ^ 62) ≤ k) (h1 : k ≤ 1000) (hz : xs.length ≤ 1000)
    (q1 : k = 1 ∨ xs = [] → Q (.ref a) H) (q2 : ∀ p (o : Obj), H p = none → o.dict = none → Q (.ref p) (upd H p (.frz o (.tup (List.replicate k.toNat xs).flatten)))) : wpAny (model X.prog X.w) X.A (binaryOp .Mult (.ref a) (.int k t)) (EP X pins σ Q) X.xe s := by
  obtain ⟨its, r, ⟨⟨cls, dd, data, sl⟩, ho, hc, n, hd⟩, hs⟩ := I.tuple ha
  simp only at hc hd
  subst hc hd
  have hl := r.length
  have hemp : its.toArray.isEmpty = xs.isEmpty := by
    cases xs <;> cases its <;> first | rfl | (simp at hl)
  have c0 : (decide (k < -(2 ^ 63)) || decide (k ≥ 2 ^ 63)) = false := by
    rw [decide_eq_false (by omega), decide_eq_false (by omega)] <;> rfl
  have many : (List.replicate k.toNat xs).flatten.length ≤ 1000 * 1000 := by
    rw [PyProof.Rows.lm_len_rep_flat]
    exact Nat.mul_le_mul (by omega) hz
  by_cases hk : 2 ≤ k ∧ xs ≠ []
  · have hx : xs.isEmpty = false := by
      cases xs with
      | nil => exact absurd rfl hk.2
      | cons _ _ => rfl
    have c1 : (its.toArray.isEmpty || k == 1) = false := by
      rw [hemp, hx, Bool.false_or]
      exact beq_eq_false_iff_ne.mpr (by omega)
    have c2 : (decide (k ≤ 0) || its.toArray.isEmpty) = false := by
      rw [hemp, hx, Bool.or_false]
      exact decide_eq_false (by omega)
    have small : ((its.toArray.size : Nat) : Int) * k ≤ 1000000 := by
      rw [List.size_toArray, ← hl]
      have a1 : ((xs.length : Nat) : Int) * k ≤ 1000 * k := Int.mul_le_mul_of_nonneg_right (by omega) (by omega)
      omega
    have c4 : Builtin.Tuple.tupleTooMany (((its.toArray.size : Nat) : Int) * k) = false := by
      unfold Builtin.Tuple.tupleTooMany
      rw [sizeLine_eq]
      exact decide_eq_false (by omega)
    have rv := r.rep k.toNat
    have lv := rv.length
    refine wpAny_binaryOp_repeat_ref (T := "tuple") (U := "int") (by decide) ⟨_, ho, rfl⟩ (fun s' => typeIs_int s' k t) noFill_tuple_mul F.fills_int_mul F.slot_int_rmul repeat_tuple F.slot_int_index.lookup
      (call_meets F.slot_int_rmul (typeIs_int s k t) F.entry_int_rmul (F.args_int_rmul_2 _ _) (int_rmul_tuple k t a its.toArray n dd sl)
        ⟨ho, rfl, ⟨_, ho, rfl⟩, call_meets F.slot_tuple_mul ⟨_, ho, rfl⟩ F.entry_tuple_mul (F.args_tuple_mul_2 _ _) (tuple_mulW a its.toArray n dd sl k t c0 c1 c2 (by omega) c4 (by
          rw [size_rep, List.size_toArray, sizeLine_eq]
          omega)) ⟨ho, ?_⟩⟩)
    rw [size_rep]
    exact laidT (h' := s.heap) (tk := s.toks) I (fun _ _ e => e) rv (by
      rw [sizeLine_eq]
      omega) q2
  · skip
    by_cases h : k = 1 ∨ xs = []
    · have c1 : (its.toArray.isEmpty || k == 1) = true := by
        rw [hemp]
        rcases h with h | h
        · subst h
          simp
        · subst h
          rfl
      refine wpAny_binaryOp_repeat_ref (T := "tuple") (U := "int") (by decide) ⟨_, ho, rfl⟩ (fun s' => typeIs_int s' k t) noFill_tuple_mul F.fills_int_mul F.slot_int_rmul repeat_tuple F.slot_int_index.lookup
        (call_meets F.slot_int_rmul (typeIs_int s k t) F.entry_int_rmul (F.args_int_rmul_2 _ _) (int_rmul_tuple k t a its.toArray n dd sl)
          ⟨ho, rfl, ⟨_, ho, rfl⟩, call_meets F.slot_tuple_mul ⟨_, ho, rfl⟩ F.entry_tuple_mul (F.args_tuple_mul_2 _ _) (tuple_mul_same a its.toArray n dd sl k t c0 c1) ⟨ho, ?_⟩⟩)
      exact ⟨.ref a, H, I, rfl, q1 h⟩
    · have h2 : k ≠ 1 ∧ xs ≠ [] := ⟨fun z => h (.inl z), fun z => h (.inr z)⟩
      have h3 : k ≤ 0 := by
        by_cases z : 2 ≤ k
        · exact absurd ⟨z, h2.2⟩ hk
        · omega
      have hx : xs.isEmpty = false := by
        cases xs with
        | nil => exact absurd rfl h2.2
        | cons _ _ => rfl
      have c1 : (its.toArray.isEmpty || k == 1) = false := by
        rw [hemp, hx, Bool.false_or]
        exact beq_eq_false_iff_ne.mpr h2.1
      have c2 : (decide (k ≤ 0) || its.toArray.isEmpty) = true := by
        rw [decide_eq_true h3]
        rfl
      refine wpAny_binaryOp_repeat_ref (T := "tuple") (U := "int") (by decide) ⟨_, ho, rfl⟩ (fun s' => typeIs_int s' k t) noFill_tuple_mul F.fills_int_mul F.slot_int_rmul repeat_tuple F.slot_int_index.lookup
        (call_meets F.slot_int_rmul (typeIs_int s k t) F.entry_int_rmul (F.args_int_rmul_2 _ _) (int_rmul_tuple k t a its.toArray n dd sl)
          ⟨ho, rfl, ⟨_, ho, rfl⟩, call_meets F.slot_tuple_mul ⟨_, ho, rfl⟩ F.entry_tuple_mul (F.args_tuple_mul_2 _ _) (tuple_mul_none a its.toArray n dd sl k t c0 c1 c2) ⟨ho, ?_⟩⟩)
      have e0 : k.toNat = 0 := by omega
      rw [e0] at q2
      exact laidT (h' := s.heap) (tk := s.toks) I (fun _ _ e => e) .nil (by simp) q2
theorem op_repL {pins : List (Addr × Obj)} {s : Shared} {σ : L2.St} {H : Hp} {a : Addr} {k : Int} {t : Tok} {xs : List V} {Q : VK} (I : Inv X pins σ H s) (ha : SqL X.K H a xs) (h1 : -(2 ^ 63) ≤ k) (h2 : k < 2 ^ 63) (hz : xs.length * k.toNat ≤ sizeLine)
    (q : ∀ p, H p = none → Q (.ref p) (upd H p (.lst (List.replicate k.toNat xs).flatten))) : wpAny (model X.prog X.w) X.A (binaryOp .Mult (.ref a) (.int k t)) (EP X pins σ Q) X.xe s := by
  obtain ⟨its, r, ⟨⟨cls, dd, dt, sl⟩, n, e, hc, hd, hs⟩, _⟩ := I.list ha
  simp only at hc hd hs
  subst hc hd hs
  have hl := r.length
  have hlen : its.toArray.size * k.toNat ≤ sizeLine := by rw [List.size_toArray, ← hl]; exact hz
  have hcap : ¬ its.toArray.size * k.toNat > (2 ^ 63 - 1) / 8 := by
    have z : (sizeLine : Nat) ≤ (2 ^ 63 - 1) / 8 := by decide
    omega
  have hfit : ¬ (!Builtin.List.listFitsIndex k) = true := by rw [fitsIndex_both h1 h2] <;> exact Bool.false_ne_true
  have hlong : ¬ Builtin.List.listTooLong (its.toArray.size * k.toNat) = true := by rw [notLongL hlen] <;> exact Bool.false_ne_true
  refine wpAny_binaryOp_repeat_ref (T := "list") (U := "int") (by decide) ⟨_, e, rfl⟩ (fun s' => typeIs_int s' k t) noFill_list_mul F.fills_int_mul F.slot_int_rmul repeat_list F.slot_int_index.lookup
    (call_meets F.slot_int_rmul (typeIs_int s k t) F.entry_int_rmul (F.args_int_rmul_2 _ _) (lm_int_rmul_list_any k t a its.toArray n none sl)
      ⟨e, rfl, ⟨_, e, rfl⟩, call_meets F.slot_list_mul ⟨_, e, rfl⟩ F.entry_list_mul (F.args_list_mul_2 _ _) (lm_list_mul_any a its.toArray n none sl k t hfit hcap hlong) ⟨e, ?_⟩⟩)
  have hnew : List.foldl (fun x1 x2 => x1 ++ x2) #[] (List.replicate (if its.toArray.isEmpty = true then 0 else k.toNat) its.toArray) = (List.replicate k.toNat its).flatten.toArray := by
    have f0 := fun m : Nat => (foldl_rep its m []).trans (by rw [List.nil_append])
    rw [f0]
    cases its with
    | nil => simp
    | cons a r' => rw [if_neg (by simp)]
  rw [hnew]
  exact ⟨.ref _, _, I.lnew (t' := s.toks) (r.rep k.toNat) (by rw [PyProof.Rows.lm_len_rep_flat, Nat.mul_comm]; exact hz), rfl, q _ I.fresh⟩
theorem rep_one (xs : List D) : (List.replicate (1 : Int).toNat xs).flatten = xs := by simp
theorem rep_nil {A : Type} (k : Nat) : (List.replicate k ([] : List A)).flatten = [] := by induction k <;> simp_all [List.replicate_succ]
theorem opb_mul : OpR X (binaryOp .Mult) (rBin X.K .mul) := by
  intro pins s σ H x y v u Q I rx ry h
  obtain ⟨P, dx, dy, dz, new, hx, hy, e, q⟩ := h
  cases dx <;> cases dy <;> simp only [binF] at e <;> try cases e
  · cases hx.int
    cases hy.int
    split at e
    · rename_i hc
      cases e
      exact op_mulW pins s σ H _ _ v u Q I rx ry ⟨_, _, rfl, rfl, hc, q _ _ (out_int _) (fresh_int _)⟩
    · cases e
  · cases hy.int
    obtain ⟨a, xs, rfl, ha, ra⟩ := hx.list
    cases rx
    obtain ⟨t, rfl⟩ := ry
    split at e
    · rename_i hc
      cases e
      refine op_repL I ha (by omega) (by omega) (by rw [ra.length, ← sz_line]; exact hc.2.2) fun p n => q _ _ (out_lst new n (ra.rep _)) (fresh_lst n (ra.rep _))
    · cases e
  · cases hy.int
    obtain ⟨a, xs, rfl, ha, ra⟩ := hx.tupleP
    cases rx
    obtain ⟨t, rfl⟩ := ry
    split at e
    · rename_i hc
      cases e
      refine op_repTA I ha.sq hc.1 hc.2.1 (by rw [ra.length]; exact hc.2.2) (fun z => ?_) fun p o n d => q _ _ (out_tup n d (ra.rep _)) (fun _ e => by cases e)
      refine q _ _ ⟨fun _ _ e => e, ?_⟩ (fun _ e => by cases e)
      rcases z with z | z
      · subst z
        rw [rep_one]
        exact .tup ha ra
      · subst z
        cases ra
        rw [rep_nil]
        exact .tup ha .nil
    · cases e
end
end PV
set_option Elab.async false
set_option linter.all false
set_option maxRecDepth 100000
set_option maxHeartbeats 2000000
/-! PV, part E: comparisons, indexes, slices, calls of builtins over data. -/
namespace PV
open PySem PySem.Spec PyProof.Rows L2
variable [Wd]
/-- the room that a frame has -/
structure RoomX (X : Cx) : Prop where
  un : X.A.units + 100 < cLine
  gd : X.A.guards = some []
  pw : X.prog = Wd.prog ∧ X.w = Wd.w
def rCmp (K : PySem.W.Frag) (o : Cop) : R2 := fun x y H Q => ∃ (P : Pa) (dx dy : D) (b : Bool), RW K H P x dx ∧ RW K H P y dy ∧ cmpF o dx dy = some b ∧ Q (.bl b) H
section
variable {X : Cx} {K : PySem.W.Frag} {P : Pa} {H : Hp}
theorem eqOk_and {d e : D} (h : (eqOk d && eqOk e) = true) : (SeqAt.shaped d = true ∧ SeqAt.shaped e = true) ∧ noDict d = true ∧ noDict e = true := by
  unfold eqOk at h
  simp only [Bool.and_eq_true] at h
  obtain ⟨⟨⟨a, b⟩, c⟩, ⟨a', b'⟩, c'⟩ := h
  exact ⟨⟨by unfold SeqAt.shaped; simp only [Bool.and_eq_true]; exact ⟨a, b⟩, by unfold SeqAt.shaped; simp only [Bool.and_eq_true]; exact ⟨a', b'⟩⟩, c, c'⟩
theorem opc_eq (rm : RoomX X) : OpR X (compareOp .Eq) (rCmp X.K .eq) := by
  intro pins s σ H x y v u Q I rx ry h
  obtain ⟨P, dx, dy, b, hx, hy, e, q⟩ := h
  simp only [cmpF] at e
  split at e
  · rename_i hc
    cases e
    have un := rm.un
    exact op_eqD (by omega) pins s σ H _ _ v u Q I rx ry ⟨dx, dy, hx.dp (eqOk_and hc).2.1, hy.dp (eqOk_and hc).2.2, (eqOk_and hc).1.1, (eqOk_and hc).1.2, q⟩
  · split at e
    · cases e
      rename_i xs _
      obtain ⟨a, vs, rfl, ha, ra⟩ := hx.tuple
      obtain ⟨c, ws, rfl, hc, rc⟩ := hy.tuple
      obtain ⟨its, r1, tup, _⟩ := I.tuple ha
      obtain ⟨its2, r2, tup2, _⟩ := I.tuple hc
      cases rc
      cases r2
      cases rx
      cases ry
      have t1 : s.heap.IsTuple a its.toArray := tup
      have t2 : s.heap.IsTuple c #[] := tup2
      have un := rm.un
      have eb : (((List.range (min its.toArray.size (#[] : Array Value).size)).all fun _ => true) && its.toArray.size == (#[] : Array Value).size) = xs.isEmpty := by
        have h1 := r1.length
        have h2 := ra.length
        cases xs with
        | nil => cases ra; cases r1; rfl
        | cons x xs => cases ra; cases r1; rfl
      refine EqBoolInt.of_rc (SeqAt.RcAt.tuples (e := fun _ => true) t1 t2 (by omega) fun j h1 h2 => absurd h2 (by simp)) ?_
      rw [eb]
      exact ⟨.bl _, H, I, rfl, q⟩
    · cases e
theorem opc_ne (rm : RoomX X) : OpR X (compareOp .NotEq) (rCmp X.K .ne) := by
  intro pins s σ H x y v u Q I rx ry h
  obtain ⟨P, dx, dy, b, hx, hy, e, q⟩ := h
  simp only [cmpF] at e
  split at e
  · rename_i hc
    cases e
    have un := rm.un
    exact op_neD (by omega) pins s σ H _ _ v u Q I rx ry ⟨dx, dy, hx.dp (eqOk_and hc).2.1, hy.dp (eqOk_and hc).2.2, (eqOk_and hc).1.1, (eqOk_and hc).1.2, q⟩
  · cases e
theorem ordF_s {x y : D} {b c : Bool} (h : ordF x y b = some c) : PySem.W.alike x y = true ∧ x.depth ≤ 64 ∧ b = c ∧ noDict x = true ∧ noDict y = true := by
  unfold ordF at h
  split at h
  · rename_i hc
    cases h
    simp only [Bool.and_eq_true, decide_eq_true_eq] at hc
    exact ⟨hc.1.1, hc.1.2, rfl, hc.2.1, hc.2.2⟩
  · cases h
theorem opc_lt (rm : RoomX X) : OpR X (compareOp .Lt) (rCmp X.K .lt) := by
  intro pins s σ H x y v u Q I rx ry h
  obtain ⟨P, dx, dy, b, hx, hy, e, q⟩ := h
  cases dx <;> cases dy <;> simp only [cmpF] at e <;> try cases e
  · cases hx.int
    cases hy.int
    exact op_lt pins s σ H _ _ v u Q I rx ry ⟨_, _, rfl, rfl, q⟩
  · obtain ⟨al, dp, rfl, n1, n2⟩ := ordF_s e
    obtain ⟨as, r1⟩ := Dp.reads I _ x v (hx.dp n1) rx
    obtain ⟨bs, r2⟩ := Dp.reads I _ y u (hy.dp n2) ry
    have un := rm.un
    exact PySem.W.lt_data r1 r2 al (by intro z; cases z) (by omega) ⟨.bl _, H, I, rfl, q⟩
theorem opc_le (rm : RoomX X) : OpR X (compareOp .LtE) (rCmp X.K .le) := by
  intro pins s σ H x y v u Q I rx ry h
  obtain ⟨P, dx, dy, b, hx, hy, e, q⟩ := h
  cases dx <;> cases dy <;> simp only [cmpF] at e <;> try cases e
  · cases hx.int
    cases hy.int
    exact op_le pins s σ H _ _ v u Q I rx ry ⟨_, _, rfl, rfl, q⟩
  · obtain ⟨al, dp, rfl, n1, n2⟩ := ordF_s e
    obtain ⟨as, r1⟩ := Dp.reads I _ x v (hx.dp n1) rx
    obtain ⟨bs, r2⟩ := Dp.reads I _ y u (hy.dp n2) ry
    have un := rm.un
    exact PySem.W.le_data r1 r2 al (by intro z; cases z) (by omega) ⟨.bl _, H, I, rfl, q⟩
theorem opc_gt (rm : RoomX X) : OpR X (compareOp .Gt) (rCmp X.K .gt) := by
  intro pins s σ H x y v u Q I rx ry h
  obtain ⟨P, dx, dy, b, hx, hy, e, q⟩ := h
  cases dx <;> cases dy <;> simp only [cmpF] at e <;> try cases e
  · cases hx.int
    cases hy.int
    exact op_gt pins s σ H _ _ v u Q I rx ry ⟨_, _, rfl, rfl, q⟩
  · obtain ⟨al, dp, rfl, n1, n2⟩ := ordF_s e
    obtain ⟨as, r1⟩ := Dp.reads I _ x v (hx.dp n1) rx
    obtain ⟨bs, r2⟩ := Dp.reads I _ y u (hy.dp n2) ry
    have un := rm.un
    exact PySem.W.gt_data r1 r2 al (by intro z; cases z) (by omega) ⟨.bl _, H, I, rfl, q⟩
theorem opc_ge (rm : RoomX X) : OpR X (compareOp .GtE) (rCmp X.K .ge) := by
  intro pins s σ H x y v u Q I rx ry h
  obtain ⟨P, dx, dy, b, hx, hy, e, q⟩ := h
  cases dx <;> cases dy <;> simp only [cmpF] at e <;> try cases e
  · cases hx.int
    cases hy.int
    exact op_ge pins s σ H _ _ v u Q I rx ry ⟨_, _, rfl, rfl, q⟩
  · obtain ⟨al, dp, rfl, n1, n2⟩ := ordF_s e
    obtain ⟨as, r1⟩ := Dp.reads I _ x v (hx.dp n1) rx
    obtain ⟨bs, r2⟩ := Dp.reads I _ y u (hy.dp n2) ry
    have un := rm.un
    exact PySem.W.ge_data r1 r2 al (by intro z; cases z) (by omega) ⟨.bl _, H, I, rfl, q⟩
theorem opc_in (rm : RoomX X) : OpR X (compareOp .In) (rCmp X.K .inn) := by
  intro pins s σ H x y v u Q I rx ry h
  obtain ⟨P, dx, dy, b, hx, hy, e, q⟩ := h
  have un := rm.un
  cases dy <;> simp only [cmpF] at e <;> try cases e
  · split at e
    · rename_i hc
      cases e
      exact op_inD (by omega) pins s σ H _ _ v u Q I rx ry ⟨dx, _, hx.dp (eqOk_and hc).2.1, hy.dp (eqOk_and hc).2.2, (eqOk_and hc).1.1, (eqOk_and hc).1.2, q⟩
    · cases e
  · split at e
    · rename_i hc
      cases e
      obtain ⟨as, r1⟩ := Dp.reads I _ x v (hx.dp (eqOk_and hc).2.1) rx
      obtain ⟨bs, r2⟩ := Dp.reads I _ y u (hy.dp (eqOk_and hc).2.2) ry
      exact SeqAt.in_tuple_reads r2 r1 (SeqAt.canLay_of_shaped (eqOk_and hc).1.2) (SeqAt.canLay_of_shaped (eqOk_and hc).1.1) (room_in_shaped (eqOk_and hc).1.1 (by omega)) ⟨.bl _, H, I, rfl, q⟩
    · cases e
theorem opc_notin (rm : RoomX X) : OpR X (compareOp .NotIn) (rCmp X.K .notin) := by
  intro pins s σ H x y v u Q I rx ry h
  obtain ⟨P, dx, dy, b, hx, hy, e, q⟩ := h
  have un := rm.un
  cases dy <;> simp only [cmpF] at e <;> try cases e
  · split at e
    · rename_i hc
      cases e
      exact op_notInD (by omega) pins s σ H _ _ v u Q I rx ry ⟨dx, _, hx.dp (eqOk_and hc).2.1, hy.dp (eqOk_and hc).2.2, (eqOk_and hc).1.1, (eqOk_and hc).1.2, q⟩
    · cases e
  · split at e
    · rename_i hc
      cases e
      obtain ⟨as, r1⟩ := Dp.reads I _ x v (hx.dp (eqOk_and hc).2.1) rx
      obtain ⟨bs, r2⟩ := Dp.reads I _ y u (hy.dp (eqOk_and hc).2.2) ry
      exact SeqAt.notIn_tuple_reads r2 r1 (SeqAt.canLay_of_shaped (eqOk_and hc).1.2) (SeqAt.canLay_of_shaped (eqOk_and hc).1.1) (room_in_shaped (eqOk_and hc).1.1 (by omega)) ⟨.bl _, H, I, rfl, q⟩
    · cases e
/-! indexes -/
def rIdx (K : PySem.W.Frag) : R2 := fun x y H Q => ∃ (P : Pa) (dx dy dz : D), RW K H P x dx ∧ RP K H P y dy ∧ idxF dx dy = some dz ∧ ∀ v, RP K H P v dz → Q v H
/-! keys -/
mutual
theorem nk_data : ∀ k : NestedKey, nk? k.data = some k
  | .none => rfl
  | .num i => rfl
  | .text x => rfl
  | .tup ks => by
    unfold NestedKey.data nk?
    rw [nks_data ks]
    rfl
theorem nks_data : ∀ ks : List NestedKey, nks? (NestedKey.datas ks) = some ks
  | [] => rfl
  | k :: ks => by
    unfold NestedKey.datas nks?
    rw [nk_data k, nks_data ks]
    rfl
end
mutual
theorem data_nk : ∀ {d : D} {k : NestedKey}, nk? d = some k → d = k.data
  | .none, k, h => by
    simp only [nk?, Option.some.injEq] at h
    subst h
    rfl
  | .int i, k, h => by
    simp only [nk?, Option.some.injEq] at h
    subst h
    rfl
  | .str x, k, h => by
    simp only [nk?, Option.some.injEq] at h
    subst h
    rfl
  | .tuple ds, k, h => by
    unfold nk? at h
    obtain ⟨ks, h1, rfl⟩ := Option.map_eq_some_iff.mp h
    unfold NestedKey.data
    rw [datas_nk h1]
  | .bool _, k, h => by simp [nk?] at h
  | .list _, k, h => by simp [nk?] at h
  | .dict _, k, h => by simp [nk?] at h
theorem datas_nk : ∀ {ds : List D} {ks : List NestedKey}, nks? ds = some ks → ds = NestedKey.datas ks
  | [], ks, h => by
    simp only [nks?, Option.some.injEq] at h
    subst h
    rfl
  | d :: ds, ks, h => by
    unfold nks? at h
    obtain ⟨k, h1, h⟩ := Option.bind_eq_some_iff.mp h
    obtain ⟨r, h2, rfl⟩ := Option.map_eq_some_iff.mp h
    unfold NestedKey.datas
    rw [data_nk h1, datas_nk h2]
end
mutual
theorem noDict_data : ∀ k : NestedKey, noDict k.data = true
  | .none => rfl
  | .num i => rfl
  | .text x => rfl
  | .tup ks => by
    unfold NestedKey.data noDict
    exact noDicts_data ks
theorem noDicts_data : ∀ ks : List NestedKey, noDict.noDicts (NestedKey.datas ks) = true
  | [] => rfl
  | k :: ks => by
    unfold NestedKey.datas noDict.noDicts
    rw [noDict_data k, noDicts_data ks]
    rfl
end
mutual
theorem nested_reads {h : Heap} : ∀ (k : NestedKey) {u : Value} {as : List Addr}, Reads h u k.data as → NestedIs h k u
  | .none, u, as, r => by
    cases r
    exact .none
  | .num i, u, as, r => by
    cases r
    exact .int _ _
  | .text x, u, as, r => by
    cases r
    exact .text _ _
  | .tup ks, u, as, r => by
    unfold NestedKey.data at r
    cases r with
    | tuple h1 h2 h3 h4 => exact .tup h1 h2 h3 (nested_readsAll ks h4)
theorem nested_readsAll {h : Heap} : ∀ (ks : List NestedKey) {us : List Value} {as : List Addr}, ReadsAll h us (NestedKey.datas ks) as → NestedAll h ks us
  | [], us, as, r => by
    cases r
    exact .nil
  | k :: ks, us, as, r => by
    unfold NestedKey.datas at r
    cases r with
    | cons h1 h2 => exact .cons (nested_reads k h1) (nested_readsAll ks h2)
end
theorem key_s {d : D} {k : NestedKey} (h : key? d = some k) : d = k.data ∧ k.depth ≤ 8 ∧ ∃ ks, k = .tup ks := by
  unfold key? at h
  split at h
  · obtain ⟨k', h1, h2⟩ := Option.bind_eq_some_iff.mp h
    split at h2
    · rename_i hd
      cases h2
      refine ⟨data_nk h1, hd, ?_⟩
      unfold nk? at h1
      obtain ⟨ks, _, rfl⟩ := Option.map_eq_some_iff.mp h1
      exact ⟨ks, rfl⟩
    · cases h2
  · cases h
/-- the dict at hand, its keys read off -/
theorem dictOf {pins : List (Addr × Obj)} {σ : L2.St} {s : Shared} {a : Addr} {ep : Nat} {xs : List (NestedKey × Addr × Value)} {ds : List (D × D)} (I : Inv X pins σ H s) (pw : X.prog = Wd.prog ∧ X.w = Wd.w) (h : Rd H a (.ext (rawD a ep xs))) (r : REs X.K H P xs ds) :
    (a == sysModules) = false ∧ xs.length ≤ sizeLine ∧ s.heap.DictOfH (nestedKind X.prog X.w) a xs := by
  obtain ⟨⟨h1, h2, o, es, e1, e2, e3, e4, e5⟩, _⟩ := Rd.ok h I.hok
  rw [← pw.1, ← pw.2] at e4
  have keys : ∀ {xs : List (NestedKey × Addr × Value)} {ds : List (D × D)}, REs X.K H P xs ds → ∀ x ∈ xs, (nestedKind X.prog X.w).is s.heap x.1 x.2.1 := by
    intro xs
    induction xs with
    | nil => exact fun _ x hx => by cases hx
    | cons y ys ih =>
      intro ds r x hx
      cases r with
      | cons n k1 k2 k3 r =>
        rcases List.mem_cons.mp hx with rfl | hx
        · obtain ⟨as, rd⟩ := Dp.reads I _ _ _ (k1.dp (noDict_data _)) (show RelV (.ref _) (.ref _) from rfl)
          exact ⟨nested_reads _ rd, n⟩
        · exact ih r x hx
  exact ⟨h1, h2, o, es, ep, e1, e2, e3, e4, keys r, e5⟩
theorem REs.find {K : PySem.W.Frag} {k : NestedKey} {d : D} : ∀ {xs : List (NestedKey × Addr × Value)} {ds : List (D × D)}, REs K H P xs ds → dGet ds k = some d → ∃ b u v, atKey xs k = some (b, u) ∧ RelV v u ∧ RP K H P v d
  | _, _, .nil, h => by simp [dGet] at h
  | _, _, .cons (k := k') (b := b) (u := u) (v := v) n k1 k2 k3 r, h => by
    unfold dGet at h
    rw [List.find?_cons] at h
    by_cases e : k' = k
    · subst e
      have : decide (nk? k'.data = some k') = true := by simp [nk_data]
      rw [this] at h
      cases h
      exact ⟨b, u, v, by simp [atKey], k2, k3⟩
    · have : decide (nk? k'.data = some k) = false := by simp [nk_data, e]
      rw [this] at h
      obtain ⟨b2, u2, v2, q1, q2, q3⟩ := REs.find r (by unfold dGet; exact h)
      refine ⟨b2, u2, v2, ?_, q2, q3⟩
      unfold atKey at q1 ⊢
      rw [List.find?_cons]
      simp only [e, decide_false]
      exact q1
theorem ixr (rm : RoomX X) : IxR X (rIdx X.K) := by
  intro ve se pins s σ H x y v u Q I rx ry h hs
  obtain ⟨P, dx, dy, dz, hx, hy, e, q⟩ := h
  cases dx <;> simp only [idxF] at e <;> try cases e
  · cases hy <;> simp [idxF] at e
    obtain ⟨a, xs, rfl, ha, ra⟩ := hx.list
    obtain ⟨j, e1, e2⟩ := Option.bind_eq_some_iff.mp e
    obtain ⟨w, e3, rw'⟩ := ra.get e2
    exact ix_list ve se pins s σ H _ _ v u Q I rx ry ⟨a, xs, _, w, rfl, rfl, ha, by unfold atI; rw [ra.length, (show ixN _ _ = some j from e1)]; exact e3, q w rw'⟩ hs
  · cases hy <;> simp [idxF] at e
    obtain ⟨a, xs, rfl, ha, ra⟩ := hx.tuple
    obtain ⟨j, e1, e2⟩ := Option.bind_eq_some_iff.mp e
    obtain ⟨w, e3, rw'⟩ := ra.get e2
    exact ix_tup ve se pins s σ H _ _ v u Q I rx ry ⟨a, xs, _, w, rfl, rfl, ha, by unfold atI; rw [ra.length, (show ixN _ _ = some j from e1)]; exact e3, q w rw'⟩ hs
  · obtain ⟨k, e1, e2⟩ := Option.bind_eq_some_iff.mp e
    obtain ⟨rfl, hd, ks, ek⟩ := key_s e1
    obtain ⟨a, ep, xs, rfl, ha, ra⟩ : ∃ a ep xs, x = .ref a ∧ Rd H a (.ext (rawD a ep xs)) ∧ REs X.K H P xs _ := by
      cases hx with
      | val r => cases r with
        | dct p s' r => exact ⟨_, _, _, rfl, s', r⟩
      | own r => cases r with
        | dct h r => exact ⟨_, _, _, rfl, .inl h, r⟩
    obtain ⟨b, w, z, f1, f2, f3⟩ := ra.find e2
    obtain ⟨h1, h2, hm⟩ := dictOf I rm.pw ha ra
    obtain ⟨as, rd⟩ := Dp.reads I _ _ _ (hy.dp (noDict_data _)) ry
    have un := rm.un
    cases rx
    have nk := nested_reads _ rd
    obtain ⟨c, rfl⟩ : ∃ c, u = .ref c := by
      subst ek
      unfold NestedKey.data at hy
      cases hy with
      | tup s' r =>
        cases ry
        exact ⟨_, rfl⟩
    have room : (nestedKind X.prog X.w).room X.A.in1 := by
      show X.A.units + 1 + 8 < cLine
      omega
    exact tail_any hm.typeIs PySem.F.slot_dict_getitem.lookup (wpAny_getItem_heap (knd := nestedKind X.prog X.w) room ⟨nk, hd⟩ hm f1 ⟨z, H, I.tok _, f2, q z f3⟩) hs
/-- a thing is stored under a key -/
def rSetK (K : PySem.W.Frag) : V → V → V → Hp → (Hp → Prop) → Prop := fun o i v H Q => ∃ (d : Addr) (ep : Nat) (xs : List (NestedKey × Addr × Value)) (P : Pa) (ds : List (D × D)) (kd : D) (k : NestedKey), o = .ref d ∧ RP K H P i kd ∧ key? kd = some k ∧ H d = some (.ext (rawD d ep xs)) ∧ REs K H P xs ds ∧
  xs.length < sizeLine ∧ ∀ ep' b u, i = .ref b → RelV v u → Q (upd H d (.ext (rawD d ep' (storedH xs k b u))))
theorem rawD_mono {d : Addr} {ep : Nat} {xs : List (NestedKey × Addr × Value)} (h1 h2 : Heap) (r : rawD d ep xs h1) (k : ∀ o, h1.get? d = some o → h2.get? d = some o) : rawD d ep xs h2 := by
  obtain ⟨a1, a2, o, es, e1, e2⟩ := r
  exact ⟨a1, a2, o, es, k _ e1, e2⟩
theorem set_key (rm : RoomX X) : PSet X (rSetK X.K) := by
  intro pins s σ H o i v ov iv u Q I ro ri rv h
  obtain ⟨d, ep0, xs, P, ds, kd, k, rfl, hi, hk, hd, ra, hl, q⟩ := h
  cases ro
  obtain ⟨rfl, hdp, ks, ek⟩ := key_s hk
  obtain ⟨h1, h2, hm⟩ := dictOf I rm.pw (.inl hd) ra
  obtain ⟨as, rd⟩ := Dp.reads I _ _ _ (hi.dp (noDict_data _)) ri
  have un := rm.un
  have nk := nested_reads _ rd
  obtain ⟨c, rfl, rfl⟩ : ∃ c, i = .ref c ∧ iv = .ref c := by
    subst ek
    unfold NestedKey.data at hi
    cases hi with
    | tup s' r =>
      cases ri
      exact ⟨_, rfl, rfl⟩
  have room : (nestedKind X.prog X.w).room X.A.in1 := by
    show X.A.units + 1 + 8 < cLine
    omega
  refine wpAny_setItem_heap (knd := nestedKind X.prog X.w) room ⟨nk, hdp⟩ hm (fun h' hm' hs' => ?_) h2
  obtain ⟨o, es, ep, e1, e2, e3, e4, e5, e6⟩ := id hm'
  have raw : rawD d ep (storedH xs k c u) h' := by
    refine ⟨h1, ?_, o, es, e1, e2, e3, ?_, e6⟩
    · have : (storedH xs k c u).length ≤ xs.length + 1 := by
        unfold storedH
        split <;> simp
      omega
    · rw [← rm.pw.1, ← rm.pw.2]
      exact e4
  refine ⟨_, I.write (x := d) (e := d) (o := .ext (rawD d ep (storedH xs k c u))) (by rw [hd]; trivial) (.inl rfl) (fun b o hb e => (hs'.2 b hb).trans e) ⟨_, e1⟩ ⟨raw, ⟨_, e1⟩, rawD_mono⟩, q ep c u rfl rv⟩
theorem REs.length {K : PySem.W.Frag} {xs : List (NestedKey × Addr × Value)} {ds : List (D × D)} (r : REs K H P xs ds) : xs.length = ds.length := by
  induction xs generalizing ds with
  | nil => cases r; rfl
  | cons x xs ih =>
    cases r with
    | cons _ _ _ _ r => simp [ih r]
theorem REs.isSome {K : PySem.W.Frag} {k : NestedKey} : ∀ {xs : List (NestedKey × Addr × Value)} {ds : List (D × D)}, REs K H P xs ds → (atKey xs k).isSome = (dGet ds k).isSome
  | _, _, .nil => rfl
  | _, _, .cons (k := k') n k1 k2 k3 r => by
    have ih := REs.isSome (k := k) r
    unfold atKey dGet at ih ⊢
    rw [List.find?_cons, List.find?_cons]
    by_cases e : k' = k
    · subst e
      simp [nk_data]
    · simp [nk_data, e] at ih ⊢
      exact ih
theorem REs.map {K : PySem.W.Frag} {k : NestedKey} {v : V} {u : Value} {d : D} (rv : RP K H P v d) (ru : RelV v u) : ∀ {xs : List (NestedKey × Addr × Value)} {ds : List (D × D)}, REs K H P xs ds → REs K H P (xs.map (putAt k u)) (ds.map fun p => if nk? p.1 = some k then (p.1, d) else p)
  | _, _, .nil => .nil
  | _, _, .cons (k := k') n k1 k2 k3 r => by
    rw [List.map_cons, List.map_cons]
    by_cases e : k' = k
    · rw [putAt, if_pos e, if_pos (show nk? k'.data = some k by rw [nk_data, e])]
      exact .cons n k1 ru rv (REs.map rv ru r)
    · rw [putAt, if_neg e, if_neg (show ¬ nk? k'.data = some k by rw [nk_data]; simpa using e)]
      exact .cons n k1 k2 k3 (REs.map rv ru r)
theorem REs.app {K : PySem.W.Frag} : ∀ {xs ys : List (NestedKey × Addr × Value)} {ds es : List (D × D)}, REs K H P xs ds → REs K H P ys es → REs K H P (xs ++ ys) (ds ++ es)
  | _, _, _, _, .nil, r => r
  | _, _, _, _, .cons n k1 k2 k3 r, q => .cons n k1 k2 k3 (REs.app r q)
theorem REs.put {K : PySem.W.Frag} {k : NestedKey} {b : Addr} {v : V} {u : Value} {d : D} {xs : List (NestedKey × Addr × Value)} {ds : List (D × D)} (r : REs K H P xs ds) (n : k.depth ≤ 8) (rk : RP K H P (.ref b) k.data) (ru : RelV v u) (rv : RP K H P v d) : REs K H P (storedH xs k b u) (dPut ds k k.data d) := by
  unfold storedH dPut
  rw [r.isSome]
  split
  · exact r.map rv ru
  · exact r.app (.cons n rk ru rv .nil)
def rSet (K : PySem.W.Frag) : V → V → V → Hp → (Hp → Prop) → Prop := fun o i v H Q => rSetL o i v H Q ∨ rSetK K o i v H Q
theorem set_any (rm : RoomX X) : PSet X (rSet X.K) := by
  intro pins s σ H o i v ov iv u Q I ro ri rv h
  exact h.elim (set_list pins s σ H o i v ov iv u Q I ro ri rv) (set_key rm pins s σ H o i v ov iv u Q I ro ri rv)
/-! slices -/
def rSli (K : PySem.W.Frag) : V → Option Int → Option Int → Hp → VK → Prop := fun x lo hi H Q => ∃ (P : Pa) (dx dz : D), (∀ b, H b = none → P b) ∧ RW K H P x dx ∧ sliceF dx lo hi = some dz ∧ ∀ v H', Out K P H v dz H' → FreshL K P H v dz H' → Q v H'
theorem cut_rp {xs : List V} {ds : List D} (r : RPs K H P xs ds) (lo hi : Option Int) : RPs K H P (cutV xs lo hi) (cut ds lo hi) := by
  unfold cutV cut bound
  rw [r.length]
  exact (r.drop _).take _
theorem sl_tupP {pins : List (Addr × Obj)} {s : Shared} {σ : L2.St} {G : Hp} {a : Addr} {xs : List V} {v vl vu : Value} {lo hi : Option Int} {sl : Addr} {Q : VK} (I : Inv X pins σ G s) (rx : RelV (.ref a) v) (hs : s.heap.IsSliceOf sl vl vu .none) (pl : IsPart vl lo) (pu : IsPart vu hi) (ha : SqT X.K G a xs)
    (q1 : HT.sIx xs.length 0 lo = 0 ∧ HT.sIx xs.length xs.length hi = xs.length → Q (.ref a) G) (q2 : ∀ p (o : Obj), G p = none → o.dict = none → Q (.ref p) (upd G p (.frz o (.tup (cutV xs lo hi))))) :
    ∃ T id, typeLookup (.type T) "__getitem__" = pure (some (.builtin id)) ∧ s.TypeIs v T ∧ wpAny (model X.prog X.w) X.A (getItem v (.ref sl)) (EP X pins σ Q) X.xe s := by
  by_cases hw : HT.sIx xs.length 0 lo = 0 ∧ HT.sIx xs.length xs.length hi = xs.length
  · exact sl_tupA pins s σ G _ v vl vu lo hi sl Q I rx hs pl pu ⟨a, xs, rfl, ha, q1, fun z => absurd hw z⟩
  · cases rx
    obtain ⟨us, rv, ist, few⟩ := I.tuple ha
    have len : us.toArray.size = xs.length := by
      rw [List.size_toArray]
      exact rv.length.symm
    refine ⟨"tuple", _, PyProof.Rows.slot_tuple_getitem.lookup, ist.typeIs, ?_⟩
    refine HT.getItem_tuple_cut ist hs pl pu (by
      rw [len]
      exact hw) ?_ (by
      rw [len]
      exact few)
    rw [len]
    exact laidT (h' := s.heap) (tk := s.toks) I (fun _ _ e => e) ((rv.drop _).take _) (Nat.le_trans (cutV_length xs lo hi) few) q2
theorem slr : SlR X (rSli X.K) := by
  intro pins s σ H x v vl vu lo hi sl Q I rx hs pl pu h
  obtain ⟨P, dx, dz, new, hx, e, q⟩ := h
  cases dx <;> simp only [sliceF] at e <;> try cases e
  · obtain ⟨a, xs, rfl, ha, ra⟩ := hx.list
    exact sl_list pins s σ H _ v vl vu lo hi sl Q I rx hs pl pu ⟨a, xs, rfl, ha, fun p n => q _ _ (out_lst new n (cut_rp ra lo hi)) (fresh_lst n (cut_rp ra lo hi))⟩
  · obtain ⟨a, xs, rfl, ha, ra⟩ := hx.tupleP
    refine sl_tupP I rx hs pl pu ha.sq (fun z => ?_) (fun p o n d => q _ _ (out_tup n d (cut_rp ra lo hi)) (fun _ e => by cases e))
    refine q _ _ ⟨fun _ _ e => e, ?_⟩ (fun _ e => by cases e)
    have r2 := cut_rp ra lo hi
    have e2 : cutV xs lo hi = xs := by
      unfold cutV
      rw [z.1, z.2]
      simp
    rw [e2] at r2
    exact .tup ha r2
/-! t[::-1] of a tuple -/
section
variable {M : Model} {A : Around} {E : Value → Shared → Prop} {s : Shared}
theorem wpAny_no {B : Type} {c : Prop} [Decidable c] {x y : Sem B} {Q : B → Shared → Prop} (n : ¬ c) (h : wpAny M A y Q E s) : wpAny M A (if c then x else y) Q E s := (if_neg n (t := x) (e := y)).symm ▸ h
theorem wpAny_yes {B : Type} {c : Prop} [Decidable c] {x y : Sem B} {Q : B → Shared → Prop} (n : c) (h : wpAny M A x Q E s) : wpAny M A (if c then x else y) Q E s := (if_pos n (t := x) (e := y)).symm ▸ h
end
section
variable {prog : Program} {w : World} {A : Around} {E : Value → Shared → Prop} {s : Shared}
/-- where a walk back through n items starts, its step, how many there are -/
theorem applied_back {z : Addr} {p q r : Value} {n : Nat} {Q : Int × Int × Nat → Shared → Prop} (g : s.heap.IsSliceOf z p q r) (hp : IsPart p none) (hq : IsPart q none) (hr : IsPart r (some (-1))) (k : Q ((n : Int) - 1, -1, n) s) :
    wpAny (model prog w) A (Builtin.Slice.sliceApplied (.ref z) (pure (n : Int))) Q E s := by
  have count : Builtin.Slice.slicePlaces ((n : Int) - 1) (-1) (-1) = n := by
    simp only [Builtin.Slice.slicePlaces, show ¬ ((-1 : Int) > 0) by omega, if_false, Int.neg_neg, Int.ediv_one]
    split <;> omega
  obtain ⟨o, ho, _, hd⟩ := id g
  unfold Builtin.Slice.sliceApplied
  refine wpAny_bind ?_
  unfold Builtin.Slice.sliceFields
  refine wpAny_bind (wpAny_field ho hd (x := p) rfl ?_)
  refine wpAny_bind (wpAny_field ho hd (x := q) rfl ?_)
  refine wpAny_bind (wpAny_field ho hd (x := r) rfl (wpAny_pure ?_))
  refine wpAny_bind (HT.slicePart_ hr ?_)
  refine wpAny_no (by decide) ?_
  refine wpAny_bind (HT.slicePart_ hp ?_)
  refine wpAny_bind (HT.slicePart_ hq ?_)
  refine wpAny_bind (wpAny_pure ?_)
  show wpAny _ _ (pure ((n : Int) - 1, (-1 : Int), Builtin.Slice.slicePlaces ((n : Int) - 1) (-1) (-1))) _ _ s
  rw [count]
  exact wpAny_pure k
theorem pick_back (xs : Array Value) : ((List.range xs.size).filterMap fun (m : Nat) => xs[(((xs.size : Nat) : Int) - 1 + (m : Int) * -1).toNat]?).toArray = xs.toList.reverse.toArray := by
  congr 1
  have e : (List.range xs.size).filterMap (fun (m : Nat) => xs[(((xs.size : Nat) : Int) - 1 + (m : Int) * -1).toNat]?) = ((List.range xs.size).map fun k => xs.size - 1 - k).filterMap (xs[·]?) := by
    rw [List.filterMap_map]
    have aux : ∀ l : List Nat, (∀ m ∈ l, m < xs.size) → l.filterMap (fun (m : Nat) => xs[(((xs.size : Nat) : Int) - 1 + (m : Int) * -1).toNat]?) = l.filterMap ((xs[·]?) ∘ fun k => xs.size - 1 - k) := fun l => by
      induction l with
      | nil => exact fun _ => rfl
      | cons m l ih =>
        intro h
        have hm := h m (List.mem_cons_self ..)
        have e : (((xs.size : Nat) : Int) - 1 + (m : Int) * -1).toNat = xs.size - 1 - m := by omega
        rw [List.filterMap_cons, List.filterMap_cons, ih fun k hk => h k (List.mem_cons_of_mem _ hk), e]
        rfl
    exact aux _ fun m hm => List.mem_range.mp hm
  rw [e, PySem.W.krv_range, List.filterMap_reverse, PySem.W.krv_all]
/-- a tuple by a slice that goes back through all of it -/
theorem item_back {a z : Addr} {xs : Array Value} {p q r : Value} {Q : Value → Shared → Prop} (ha : IsTup s.heap a xs) (g : s.heap.IsSliceOf z p q r) (hp : IsPart p none) (hq : IsPart q none) (hr : IsPart r (some (-1))) (few : xs.size ≤ sizeLine)
    (k : Q (.ref s.heap.objs.size) { s with heap := s.heap.push { cls := .type "tuple", data := .seq xs.toList.reverse.toArray } }) : wpAny (model prog w) A (getItem (.ref a) (.ref z)) Q E s := by
  have few' : sizeOk (.seq xs.toList.reverse.toArray) := by
    have : xs.toList.reverse.toArray.size = xs.size := by simp
    exact Nat.le_trans (Nat.le_of_eq this) few
  have zt : s.TypeIs (.ref z) "slice" := let ⟨o, ho, hc, _⟩ := g; ⟨o, ho, hc⟩
  unfold getItem
  first
  | refine wpAny_holding (wpAny_bind (wpAny_sequenceKey ha.typeIs (by decide) (wpAny_bind ?_)))
  | refine wpAny_bind (wpAny_sequenceKey ha.typeIs (by decide) (wpAny_bind ?_))
  | refine wpAny_bind (wpAny_pure (wpAny_bind (wpAny_sequenceKey ha.typeIs (by decide) (wpAny_bind ?_))))
  refine wpAny_callSpecial?_slot (T := "tuple") ha.typeIs PyProof.Rows.slot_tuple_getitem (wpAny_call_entry (T := "tuple") PyProof.Rows.slot_tuple_getitem ha.typeIs PyProof.Rows.entry_tuple_getitem ?_ (PyProof.Rows.args_tuple_getitem _ _))
  show wpAny (model prog w) A.in1 (Builtin.Tuple.tupleItemsOf (Value.ref a) >>= _) _ E s
  refine wpAny_bind (tupleItemsOf_ ha (wpAny_bind (wpAny_typeOf zt ?_)))
  refine wpAny_yes (by decide) (wpAny_bind (applied_back g hp hq hr ?_))
  refine wpAny_no (fun c => ?_) ?_
  · have c2 := (Bool.and_eq_true_iff.mp (Bool.and_eq_true_iff.mp c).1).2
    exact absurd c2 (by decide)
  · rw [pick_back]
    refine wpAny_bind (m := Builtin.Tuple.tupleExact _) (wpAny_newObj_type ?_ few')
    first
    | exact wpAny_pure ⟨_, rfl, wpAny_pure k⟩
    | exact wpAny_bind (wpAny_pure (wpAny_pure ⟨_, rfl, wpAny_pure k⟩))
end
/-- xs[::-1] of a list or a tuple -/
def tRevA (K : PySem.W.Frag) (te : TE) : TE := fun σ H Q => te σ H fun x H1 => ∃ a xs, x = .ref a ∧ (SqL K H1 a xs ∧ (∀ p, H1 p = none → Q (.ref p) (upd H1 p (.lst xs.reverse))) ∨ SqT K H1 a xs ∧ ∀ p (o : Obj), H1 p = none → o.dict = none → Q (.ref p) (upd H1 p (.frz o (.tup xs.reverse))))
theorem pe_revA {e : Expr} {te : TE} {k : Nat} {p1 p2 p3 pos : Pos} (he : PE X e te) : PE X (.Subscript e (.Slice none none (some (.UnaryOp .USub (.Constant (.int 1) k p1) p2)) p3) pos) (tRevA X.K te) := by
  have minus : PO X (some (.UnaryOp .USub (.Constant (.int 1) k p1) p2)) (tPart (tUn (rU fun i => .int (-i)) (tC (.int 1)))) := po_some (pe_un un_neg pe_int)
  constructor
  intro ps t0 σ H0 Q J0 h
  refine Subscript_ (thn (he.run ps t0 σ H0 _ J0 h) ?_)
  rintro v t1 ⟨x, H1, J1, rx, a, xs, rfl, alt⟩
  cases rx
  refine wpAny_Slice (thn (po_none.run ps t1 σ H1 (fun o G => o = none ∧ G = H1) J1 ⟨rfl, rfl⟩) ?_)
  rintro q1 t2 ⟨_, _, J2, i1, rfl, rfl⟩
  refine thn (po_none.run ps t2 σ _ (fun o G => o = none ∧ G = _) J2 ⟨rfl, rfl⟩) ?_
  rintro q2 t3 ⟨_, _, J3, i2, rfl, rfl⟩
  refine thn (minus.run ps t3 σ _ (fun o G => o = some (-1) ∧ G = _) J3 ⟨1, rfl, -1, rfl, rfl, rfl⟩) ?_
  rintro q3 t4 ⟨_, G, J4, i3, rfl, rfl⟩
  have J5 : Inv X ps σ G { t4 with heap := t4.heap.push { cls := .type "slice", data := .fields #[q1, q2, q3] } } := J4.kept (t' := t4.toks) fun _ _ z => Heap.get?_push_of_some _ z
  have there := Heap.IsSliceOf.new t4.heap q1 q2 q3
  show wpAny _ _ (subscriptTail e _ (.ref a) (.ref t4.heap.objs.size)) (EP X ps σ Q) X.xe _
  rcases alt with ⟨hl, go⟩ | ⟨hl, go⟩
  · obtain ⟨its, rv, hi, hz⟩ := J5.list hl
    have few : its.toArray.size ≤ sizeLine := by
      have := rv.length
      simp
      omega
    refine tail_any (ops := [.ref a, .ref t4.heap.objs.size]) hi.isList.typeIs PySem.slot_list_getitem.lookup (wpAny_getItem_list_slice hi.isList there i1 i2 i3 (by decide) ?_ few) (by with_unfolding_all rfl)
    rw [PySem.W.krv_pick]
    refine ⟨.ref _, _, J5.laid (o := .lst xs.reverse) (t' := t4.toks) (fun _ _ z => Heap.get?_push_of_some _ z) (Nat.le_refl _) ?_, rfl, go _ (J5.hok.fresh (Nat.le_refl _))⟩
    exact ⟨by simpa using hz, its.reverse, 0, rv.reverse, Heap.get?_push_size _ rfl⟩
  · obtain ⟨its, rv, hi, hz⟩ := J5.tuple hl
    have hi' : IsTup _ a its.toArray := hi
    have few : its.toArray.size ≤ sizeLine := by
      have := rv.length
      simp
      omega
    refine tail_any (ops := [.ref a, .ref t4.heap.objs.size]) hi'.typeIs PyProof.Rows.slot_tuple_getitem.lookup (item_back hi' there i1 i2 i3 few ?_) (by with_unfolding_all rfl)
    exact laidT (tk := t4.toks) J5 (fun _ _ e => e) (vs := xs.reverse) (by simpa using rv.reverse) (by simpa using hz) go
/-! calls of builtins -/
def rBlt (K : PySem.W.Frag) (b : Blt) : List V → Hp → VK → Prop := fun vs H Q => ∃ (P : Pa) (ds : List D) (dz : D), (∀ b, H b = none → P b) ∧ RWs K H P vs ds ∧ bltF b ds = some dz ∧ ∀ v H', Out K P H v dz H' → FreshL K P H v dz H' → Q v H'
theorem RWs.one {vs : List V} {d : D} (r : RWs K H P vs [d]) : ∃ v, vs = [v] ∧ RW K H P v d := by
  cases r with
  | cons h r => cases r; exact ⟨_, rfl, h⟩
theorem RWs.two {vs : List V} {d e : D} (r : RWs K H P vs [d, e]) : ∃ v w, vs = [v, w] ∧ RW K H P v d ∧ RW K H P w e := by
  cases r with
  | cons h r => cases r with
    | cons h' r => cases r; exact ⟨_, _, rfl, h, h'⟩
theorem out_bool (i : Bool) : Out K P H (.bl i) (.bool i) H := ⟨fun _ _ e => e, .bl i⟩
theorem out_str (i : Str) : Out K P H (.str i) (.str i) H := ⟨fun _ _ e => e, .str i⟩
theorem cb_len : CallR X (.builtin "len") (rBlt X.K .len) := by
  intro pins s σ H vs us Q I r h
  obtain ⟨P, ds, dz, new, hx, e, q⟩ := h
  replace e : blt_len ds = some dz := e
  unfold blt_len at e
  split at e <;> try cases e
  · obtain ⟨v, rfl, hv⟩ := hx.one
    obtain ⟨a, xs, rfl, ha, ra⟩ := hv.list
    exact call_len_seq pins s σ H _ us Q I r ⟨a, xs, rfl, .inl ha, by rw [ra.length]; exact q _ _ (out_int _) (fresh_int _)⟩
  · obtain ⟨v, rfl, hv⟩ := hx.one
    obtain ⟨a, xs, rfl, ha, ra⟩ := hv.tuple
    exact call_len_seq pins s σ H _ us Q I r ⟨a, xs, rfl, .inr ha, by rw [ra.length]; exact q _ _ (out_int _) (fresh_int _)⟩
theorem cb_abs : CallR X (.builtin "abs") (rBlt X.K .abs) := by
  intro pins s σ H vs us Q I r h
  obtain ⟨P, ds, dz, new, hx, e, q⟩ := h
  replace e : blt_abs ds = some dz := e
  unfold blt_abs at e
  split at e <;> try cases e
  obtain ⟨v, rfl, hv⟩ := hx.one
  cases hv.int
  exact call_abs pins s σ H _ us Q I r ⟨_, rfl, q _ _ (out_int _) (fresh_int _)⟩
theorem cb_max2 (hc : X.calm = true) : CallR X (.builtin "max") (rBlt X.K .max2) := by
  intro pins s σ H vs us Q I r h
  obtain ⟨P, ds, dz, new, hx, e, q⟩ := h
  replace e : blt_max2 ds = some dz := e
  unfold blt_max2 at e
  split at e <;> try cases e
  obtain ⟨v, w, rfl, hv, hw⟩ := hx.two
  cases hv.int
  cases hw.int
  exact call_max2 hc pins s σ H _ us Q I r ⟨_, _, rfl, q _ _ (out_int _) (fresh_int _)⟩
theorem cb_min2 (hc : X.calm = true) : CallR X (.builtin "min") (rBlt X.K .min2) := by
  intro pins s σ H vs us Q I r h
  obtain ⟨P, ds, dz, new, hx, e, q⟩ := h
  replace e : blt_min2 ds = some dz := e
  unfold blt_min2 at e
  split at e <;> try cases e
  obtain ⟨v, w, rfl, hv, hw⟩ := hx.two
  cases hv.int
  cases hw.int
  exact call_min2 hc pins s σ H _ us Q I r ⟨_, _, rfl, q _ _ (out_int _) (fresh_int _)⟩
theorem cb_int1 : CallR X (.type "int") (rBlt X.K .int1) := by
  intro pins s σ H vs us Q I r h
  obtain ⟨P, ds, dz, new, hx, e, q⟩ := h
  replace e : blt_int1 ds = some dz := e
  unfold blt_int1 at e
  split at e <;> try cases e
  · obtain ⟨v, rfl, hv⟩ := hx.one
    cases hv.int
    exact call_int1 pins s σ H _ us Q I r (.inl ⟨_, rfl, q _ _ (out_int _) (fresh_int _)⟩)
  · obtain ⟨v, rfl, hv⟩ := hx.one
    cases hv.bool
    exact call_int1 pins s σ H _ us Q I r (.inr ⟨_, rfl, q _ _ (out_int _) (fresh_int _)⟩)
theorem cb_str1 : CallR X (.type "str") (rBlt X.K .str1) := by
  intro pins s σ H vs us Q I r h
  obtain ⟨P, ds, dz, new, hx, e, q⟩ := h
  replace e : blt_str1 ds = some dz := e
  unfold blt_str1 at e
  split at e <;> try cases e
  split at e <;> try cases e
  rename_i hc
  obtain ⟨v, rfl, hv⟩ := hx.one
  cases hv.int
  exact call_str_int pins s σ H _ us Q I r ⟨_, rfl, hc, q _ _ (out_str _) (fun _ e => by cases e)⟩
theorem cb_repr (rm : RoomX X) : CallR X (.builtin "repr") (rBlt X.K .repr) := by
  intro pins s σ H vs us Q I r h
  obtain ⟨P, ds, dz, new, hx, e, q⟩ := h
  replace e : blt_repr ds = some dz := e
  unfold blt_repr at e
  split at e <;> try cases e
  split at e <;> try cases e
  rename_i d hc
  obtain ⟨v, rfl, hv⟩ := hx.one
  obtain ⟨u, rfl, ru⟩ := vals1 r
  simp only [Bool.and_eq_true, Bool.not_eq_true', decide_eq_true_eq] at hc
  obtain ⟨⟨⟨⟨h1, h2⟩, h3⟩, h4⟩, h5⟩ := hc
  have un := rm.un
  rw [sz_line] at h3
  obtain ⟨as, rr⟩ := Dp.reads I d v u (hv.dp h5) ru
  have fin : ∀ (h' : Heap) (t tk : Tok), (∀ b o, s.heap.get? b = some o → h'.get? b = some o) → EP X pins σ Q (.str d.shown t) { s with heap := h', toks := tk } := fun h' t tk k =>
    ⟨.str d.shown, H, I.kept k, ⟨t, rfl⟩, q _ _ (out_str _) (fun _ e => by cases e)⟩
  cases rr with
  | none => exact PySem.P.repr_of_none (fin s.heap _ _ fun _ _ e => e)
  | bool b => exact PySem.P.repr_of_bool (fin s.heap _ _ fun _ _ e => e)
  | int i t => exact PySem.P.repr_of_int (by simpa [PyData.showable] using h1) (fin s.heap _ _ fun _ _ e => e)
  | str x t => exact PySem.P.repr_of_str (fin s.heap _ _ fun _ _ e => e) h3
  | list a b c e => exact repr_of_reads' (.list a b c e) h1 (fun z => by rw [h2] at z; cases z) rm.gd (by omega) (fun _ _ e => e) (fun h' t tk k => fin h' t tk k) h3
  | tuple a b c e => exact repr_of_reads' (.tuple a b c e) h1 (fun z => by rw [h2] at z; cases z) rm.gd (by omega) (fun _ _ e => e) (fun h' t tk k => fin h' t tk k) h3
  | dict a b c e f => exact repr_of_reads' (.dict a b c e f) h1 (fun z => by rw [h2] at z; cases z) rm.gd (by omega) (fun _ _ e => e) (fun h' t tk k => fin h' t tk k) h3
theorem cb_all (hc : X.calm = true) : CallR X (.builtin "all") (rBlt X.K .all) := by
  intro pins s σ H vs us Q I r h
  obtain ⟨P, ds, dz, new, hx, e, q⟩ := h
  replace e : blt_all ds = some dz := e
  unfold blt_all at e
  split at e <;> try cases e
  obtain ⟨bs, e1, rfl⟩ := Option.map_eq_some_iff.mp e
  obtain ⟨v, rfl, hv⟩ := hx.one
  obtain ⟨a, xs, rfl, ha, ra⟩ := hv.list
  have eb := ra.bools e1
  subst eb
  exact cr_all hc pins s σ H _ us Q I r ⟨a, bs, rfl, ha, q _ _ (out_bool _) (fun _ e => by cases e)⟩
theorem cb_any (hc : X.calm = true) : CallR X (.builtin "any") (rBlt X.K .any) := by
  intro pins s σ H vs us Q I r h
  obtain ⟨P, ds, dz, new, hx, e, q⟩ := h
  replace e : blt_any ds = some dz := e
  unfold blt_any at e
  split at e <;> try cases e
  obtain ⟨bs, e1, rfl⟩ := Option.map_eq_some_iff.mp e
  obtain ⟨v, rfl, hv⟩ := hx.one
  obtain ⟨a, xs, rfl, ha, ra⟩ := hv.list
  have eb := ra.bools e1
  subst eb
  exact cr_any hc pins s σ H _ us Q I r ⟨a, bs, rfl, ha, q _ _ (out_bool _) (fun _ e => by cases e)⟩
theorem sumT {prog : Program} {w : World} {A : Around} {E : Value → Shared → Prop} {s : Shared} {l : Addr} {its : List Value} {ns : List Int} {Q : Value → Shared → Prop} (hh : A.handled = none) (hl : s.heap.IsTuple l its.toArray) (hi : IntsAre its ns)
    (h : ∀ h' tk t', (∀ b o, s.heap.get? b = some o → h'.get? b = some o) → Q (.int ns.sum t') { s with heap := h', toks := tk }) : wpAny (model prog w) A (call (.builtin "sum") [.ref l]) Q E s := by
  obtain ⟨xs, e⟩ := hi.allInts.items
  have hn : numsOf (intItems xs).toList = ns := by
    rw [← e]
    exact hi.numsOf
  rw [nums_intItems] at hn
  rw [e] at hl
  refine call_sum_walkG (wpAny_pyIter_tuple hl ?_)
  obtain ⟨o, ho, _⟩ := id hl
  have lt : l < s.heap.objs.size := Heap.lt_size ho
  have hl2 : (s.heap.push { cls := .type "tuple_iterator", data := .fields #[.ref l, .int 0 0] }).IsTuple l (intItems xs) := hl.at fun o q => Heap.get?_push_of_some _ q
  refine ⟨_, _, _, _, _, _, numAt xs, rfl, Walks.tuple (A := A.in1) hh s.heap.objs.size l (Nat.ne_of_lt lt) (intItems xs), ⟨⟨_, Heap.get?_push_size _ rfl, rfl, rfl⟩, hl2⟩, fun b hb => ?_, fun _ _ => intItems_at, fun h' tk t' hk => ?_⟩
  · show b < (s.heap.push _).objs.size
    rw [Heap.size_push]
    rcases (by simpa using hb : b = s.heap.objs.size ∨ b = l) with rfl | rfl
    · exact Nat.lt_succ_self _
    · exact Nat.lt_succ_of_lt lt
  · have z := h h' tk t' fun b o q => hk b o (fun w => by
      rw [List.mem_singleton.mp w] at q
      exact absurd (Heap.lt_size q) (Nat.lt_irrefl _)) (Heap.get?_push_of_some _ q)
    have e2 : preSum (numAt xs) (intItems xs).size = ns.sum := by
      rw [preSum_eq, List.take_of_length_le (by simp [intItems]), hn]
    rw [e2]
    exact z
theorem cb_sum (hc : X.calm = true) : CallR X (.builtin "sum") (rBlt X.K .sum) := by
  intro pins s σ H vs us Q I r h
  obtain ⟨P, ds, dz, new, hx, e, q⟩ := h
  replace e : blt_sum ds = some dz := e
  unfold blt_sum at e
  split at e <;> try cases e
  · obtain ⟨bs, e1, rfl⟩ := Option.map_eq_some_iff.mp e
    obtain ⟨v, rfl, hv⟩ := hx.one
    obtain ⟨a, xs, rfl, ha, ra⟩ := hv.list
    have eb := ra.ints e1
    subst eb
    exact cr_sum hc pins s σ H _ us Q I r ⟨a, bs, rfl, ha, q _ _ (out_int _) (fresh_int _)⟩
  · obtain ⟨bs, e1, rfl⟩ := Option.map_eq_some_iff.mp e
    obtain ⟨v, rfl, hv⟩ := hx.one
    obtain ⟨a, xs, rfl, ha, ra⟩ := hv.tuple
    have eb := ra.ints e1
    subst eb
    obtain ⟨its, rv, p, _⟩ := I.tuple ha
    rw [Vals.ref1 r]
    have p' : s.heap.IsTuple a its.toArray := p
    exact sumT (I.ok.hd hc) p' rv.ints fun h' tk t' hk => ⟨.int _, H, I.kept hk, ⟨_, rfl⟩, q _ _ (out_int _) (fresh_int _)⟩
/-! sorted -/
theorem each_of {K : PySem.W.Frag} {H : Hp} {P : Pa} : ∀ {vs : List V} {ds : List D} {us : List Value}, RPs K H P vs ds → Vals vs us → PySem.W.EachIs (fun (u : Value) (p : V × D) => RelV p.1 u ∧ RP K H P p.1 p.2) us (vs.zip ds)
  | _, _, _, .nil, .nil => .nil
  | _, _, _, .cons h r, .cons q s => .cons ⟨q, h⟩ (each_of r s)
theorem of_each {K : PySem.W.Frag} {H : Hp} {P : Pa} : ∀ {us : List Value} {bs : List (V × D)}, PySem.W.EachIs (fun (u : Value) (p : V × D) => RelV p.1 u ∧ RP K H P p.1 p.2) us bs → Vals (bs.map (·.1)) us ∧ RPs K H P (bs.map (·.1)) (bs.map (·.2))
  | _, _, .nil => ⟨.nil, .nil⟩
  | _, _, .cons h r => let ⟨a, b⟩ := of_each r; ⟨.cons h.1 a, .cons h.2 b⟩
theorem isort_of {ns ms : List Int} (p : ms.Perm ns) (h : ms.Pairwise (· ≤ ·)) : ms = isort ns := by
  have a : (isort ns).Pairwise (· ≤ ·) := (List.pairwise_mergeSort (le := fun a b : Int => decide (a ≤ b)) (fun a b c => by simpa using fun h1 h2 => Int.le_trans h1 h2) (fun a b => by simpa using Int.le_total a b) ns).imp fun h => by simpa using h
  exact List.Perm.eq_of_pairwise (le := (· ≤ ·)) (fun a b _ _ h1 h2 => Int.le_antisymm h1 h2) h a (p.trans (List.mergeSort_perm _ _).symm)
/-- sorted(t), t a tuple of numbers -/
theorem sorted_tup {pins : List (Addr × Obj)} {σ : L2.St} {s : Shared} {G : Hp} {a : Addr} {ns : List Int} {Q : VK} (I : Inv X pins σ G s) (ha : SqT X.K G a (ns.map V.int)) (h64 : ns.length < 64)
    (q : ∀ p, G p = none → Q (.ref p) (upd G p (.lst ((isort ns).map V.int)))) : wpAny (model X.prog X.w) X.A (call (.builtin "sorted") [.ref a]) (EP X pins σ Q) X.xe s := by
  obtain ⟨us, rv, ⟨o, ho, hc, n, hd⟩, few⟩ := I.tuple ha
  have lus : us.length = ns.length := by
    rw [← rv.length, List.length_map]
  have inn := rv.ints
  refine Calls.call_function_entry kind_sorted plain_sorted entry_sorted (args_sorted1 _) ?_
  unfold Builtin.«sorted»
  refine wpAny_bind (m := checkCount "sorted" 1 1 _) (wpAny_pure ?_)
  refine wpAny_bind (wpAny_collect_seq (A := X.A.in1) a (.inr rfl) ho hc hd (fun h' kp => ?_) (by
    simp only [List.size_toArray]
    rw [sizeLine_eq]
    omega))
  rw [List.toList_toArray]
  refine wpAny_bind (wpAny_newList ?_ (by
    rw [sizeLine_eq]
    omega))
  have there : (h'.push (seqObj "list" us.toArray 0)).get? h'.objs.size = some (seqObj "list" us.toArray 0) := Heap.get?_push_size _ rfl
  refine wpAny_bind (wpAny_holding (wpAny_call_entry slot_list_sort ⟨_, there, rfl⟩ entry_list_sort (list_sort_tree there inn (by omega) fun out ms a1 a2 a3 => ⟨_, rfl, ?_⟩) (args_list_sort _)))
  obtain ⟨c, at1⟩ := sortedHeap_at (vs := us) (out := out) there
  have em := isort_of a2 a3
  subst em
  have J : Inv X pins σ G { s with heap := h' } := I.kept (t' := s.toks) kp
  have new := J.hok.fresh (Nat.le_refl _)
  have vals : Vals ((isort ns).map V.int) out.toList := vals_of_ints a1
  refine wpAny_pure ⟨_, rfl, .ref h'.objs.size, upd G h'.objs.size (.lst ((isort ns).map V.int)), J.laid (h' := sortedHeap (h'.push (seqObj "list" us.toArray 0)) h'.objs.size us out) (t' := s.toks) (fun b u e => ?_) (Nat.le_refl _) ⟨?_, out.toList, c, vals, at1⟩, rfl, q _ new⟩
  · have lt := Heap.lt_size e
    rw [sortedHeap_old (Nat.ne_of_lt lt) (by
      rw [size_push']
      exact Nat.lt_succ_of_lt lt)]
    exact Heap.get?_push_of_some _ e
  · rw [List.length_map, sizeLine_eq]
    unfold isort
    rw [List.length_mergeSort]
    omega
theorem cb_sorted (rm : RoomX X) : CallR X (.builtin "sorted") (rBlt X.K .sorted) := by
  intro pins s σ H vs us Q I r h
  obtain ⟨P, ds, dz, new, hx, e, q⟩ := h
  replace e : blt_sorted ds = some dz := e
  unfold blt_sorted at e
  split at e
  rotate_left
  · obtain ⟨ns, e1, e2⟩ := Option.bind_eq_some_iff.mp e
    split at e2
    · rename_i h64
      cases e2
      obtain ⟨v, rfl, hv⟩ := hx.one
      obtain ⟨a, ws, rfl, ha, ra⟩ := hv.tuple
      obtain rfl := ra.ints e1
      rw [Vals.ref1 r]
      have rows : RPs X.K H P ((isort ns).map V.int) ((isort ns).map .int) := by
        generalize isort ns = ms
        induction ms with
        | nil => exact .nil
        | cons x l ih => exact .cons (.int _) ih
      exact sorted_tup I ha h64 fun p n => q _ _ (out_lst new n rows) (fresh_lst n rows)
    · cases e2
  · cases e
  rename_i xs
  split at e <;> try cases e
  rename_i hc
  unfold sortOk at hc
  simp only [Bool.and_eq_true, Bool.or_eq_true, List.all_eq_true, decide_eq_true_eq] at hc
  obtain ⟨⟨⟨al, dp⟩, ln⟩, so⟩ := hc
  obtain ⟨v, rfl, hv⟩ := hx.one
  obtain ⟨a, ws, rfl, ha, ra⟩ := hv.list
  obtain ⟨its, rv, hl, hz⟩ := I.list ha
  rw [Vals.ref1 r]
  have un := rm.un
  have len := ra.length
  have e2 : (ws.zip xs).map Prod.snd = xs := List.map_snd_zip (by omega)
  have each := each_of ra rv
  have reads : PySem.W.EachIs (fun (u : Value) (p : V × D) => ∃ as, Reads s.heap u p.2 as) its (ws.zip xs) := (PySem.W.each_mem each).mono fun u p z => Dp.reads I _ _ _ (z.1.2.dp (dp p.2 (by
    rw [← e2]
    exact List.mem_map_of_mem z.2)).2) z.1.1
  refine PySem.W.sorted_data (enc := Prod.snd) (bs := ws.zip xs) hl.isList each reads (by rw [e2]; exact al) ?_ ?_ (fun p hp => ?_) fun out hlen eo => ?_
  · rw [e2]
    rcases so with so | so
    · left
      intro d hd
      have := so d hd
      split at this
      · exact ⟨_, _, rfl⟩
      · cases this
    · right
      intro d hd
      have := so d hd
      refine ⟨?_, ?_⟩
      · rintro rfl
        cases this
      · rintro ys rfl
        cases this
  · rw [List.length_zip, sizeLine_eq]
    have : LINE = 16777216 := rfl
    omega
  · have : p.2 ∈ xs := by
      rw [← e2]
      exact List.mem_map_of_mem hp
    have := (dp _ this).1
    omega
  · obtain ⟨v1, r1⟩ := of_each eo
    have e3 : ((ws.zip xs).mergeSort (PySem.W.dataLe false Prod.snd)).map Prod.snd = xs.mergeSort (PySem.W.dataLe false id) := by
      have z := List.map_mergeSort (r := PySem.W.dataLe (β := V × PyData) false Prod.snd) (s := PySem.W.dataLe (β := PyData) false id) (f := Prod.snd) (l := ws.zip xs) (fun _ _ _ _ => rfl)
      rw [z, e2]
    rw [e3] at r1
    obtain ⟨ep, he'⟩ := PyProof.Rows.sortedAll_at s.heap its out.toArray
    have fresh : H (s.heap.objs.size + 1) = none := I.hok.fresh (Nat.le_succ _)
    have o := out_lst (P := P) new fresh r1
    have hlen' : (((ws.zip xs).mergeSort (PySem.W.dataLe false Prod.snd)).map (·.1)).length ≤ sizeLine := by
      rw [List.length_map, List.length_mergeSort, List.length_zip, sizeLine_eq]
      have : LINE = 16777216 := rfl
      omega
    refine ⟨.ref _, _, I.laid (t' := s.toks) (fun _ _ => PyProof.Rows.sortedAll_old) (Nat.le_succ _) (show ObjOk X.prog X.w _ _ _ (.lst _) from ⟨hlen', out, ep, v1, he'⟩), rfl, q _ _ o (fresh_lst fresh r1)⟩
theorem cb_gcd : CallR X (.builtin "math.gcd") (rBlt X.K .gcd) := by
  intro pins s σ H vs us Q I r h
  obtain ⟨P, ds, dz, new, hx, e, q⟩ := h
  replace e : blt_gcd ds = some dz := e
  unfold blt_gcd at e
  split at e <;> try cases e
  obtain ⟨v, w, rfl, hv, hw⟩ := hx.two
  cases hv.int
  cases hw.int
  exact cr_gcd pins s σ H _ us Q I r ⟨_, _, rfl, q _ _ (out_int _) (fresh_int _)⟩
theorem cb_divmod : CallR X (.builtin "divmod") (rBlt X.K .divmod) := by
  intro pins s σ H vs us Q I r h
  obtain ⟨P, ds, dz, new, hx, e, q⟩ := h
  replace e : blt_divmod ds = some dz := e
  unfold blt_divmod at e
  split at e <;> try cases e
  split at e <;> try cases e
  rename_i hc
  obtain ⟨v, w, rfl, hv, hw⟩ := hx.two
  cases hv.int
  cases hw.int
  obtain ⟨_, _, rfl, ⟨t, rfl⟩, ⟨t', rfl⟩⟩ := vals2 r
  refine divmod_int (by omega) ?_ (.inl (PyProof.noPylong_small (by omega)))
  rw [Int.fdiv_eq_ediv_of_nonneg _ (by omega), Int.fmod_eq_emod_of_nonneg _ (by omega)]
  refine laidT (h' := s.heap) I (fun _ _ e => e) (vs := [.int _, .int _]) (.cons ⟨_, rfl⟩ (.cons ⟨_, rfl⟩ .nil)) (by
    simp only [List.length_cons, List.length_nil]
    rw [sizeLine_eq]
    decide) fun p o n d => ?_
  exact q _ _ (out_tup n d (.cons (.int _) (.cons (.int _) .nil))) (fun _ e => by cases e)
theorem cb_tuple : CallR X (.type "tuple") (rBlt X.K .tuple) := by
  intro pins s σ H vs us Q I r h
  obtain ⟨P, ds, dz, new, hx, e, q⟩ := h
  replace e : blt_tuple ds = some dz := e
  unfold blt_tuple at e
  split at e <;> try cases e
  · obtain ⟨v, rfl, hv⟩ := hx.one
    obtain ⟨a, xs, rfl, ha, ra⟩ := hv.list
    rw [Vals.ref1 r]
    obtain ⟨us', rv, isl, few⟩ := I.list ha
    have lv := rv.length
    refine call_tuple_list isl.isList (fun h' kp => ?_) (by
      simp only [List.size_toArray]
      omega)
    exact laidT (h' := h') (tk := s.toks) I kp (by simpa using rv) few fun p o n d => q _ _ (out_tup n d ra) (fun _ e => by cases e)
  · obtain ⟨v, rfl, hv⟩ := hx.one
    obtain ⟨a, xs, rfl, ha, ra⟩ := hv.tupleP
    exact call_tuple_of pins s σ H _ us Q I r ⟨a, xs, rfl, .inr ⟨ha.sq, q _ _ ⟨fun _ _ e => e, .tup ha ra⟩ (fun _ e => by cases e)⟩⟩
theorem cb_list : CallR X (.type "list") (rBlt X.K .list) := by
  intro pins s σ H vs us Q I r h
  obtain ⟨P, ds, dz, new, hx, e, q⟩ := h
  replace e : blt_list ds = some dz := e
  unfold blt_list at e
  split at e <;> try cases e
  · obtain ⟨v, rfl, hv⟩ := hx.one
    obtain ⟨a, xs, rfl, ha, ra⟩ := hv.list
    exact call_list_of pins s σ H _ us Q I r ⟨a, xs, rfl, .inl ha, fun p n => q _ _ (out_lst new n ra) (fresh_lst n ra)⟩
  · obtain ⟨v, rfl, hv⟩ := hx.one
    obtain ⟨a, xs, rfl, ha, ra⟩ := hv.tuple
    exact call_list_of pins s σ H _ us Q I r ⟨a, xs, rfl, .inr ha, fun p n => q _ _ (out_lst new n ra) (fresh_lst n ra)⟩
/-- isinstance(x, T) -/
def tyName : Ty → String
  | .int => "int"
  | .bool => "bool"
  | .str => "str"
  | .tuple => "tuple"
  | .list => "list"
  | .dict => "dict"
/-- what stands on top -/
inductive Top (h : Heap) : Value → D → Prop
  | none : Top h .none .none
  | bool (b : Bool) : Top h (.bool b) (.bool b)
  | int (i : Int) (t : Tok) : Top h (.int i t) (.int i)
  | str (x : Str) (t : Tok) : Top h (.str x t) (.str x)
  | list {a : Addr} {o : Obj} {ds : List D} : h.get? a = some o → o.cls = .type "list" → Top h (.ref a) (.list ds)
  | tuple {a : Addr} {o : Obj} {ds : List D} : h.get? a = some o → o.cls = .type "tuple" → Top h (.ref a) (.tuple ds)
  | dict {a : Addr} {o : Obj} {ds : List (D × D)} : h.get? a = some o → o.cls = .type "dict" → Top h (.ref a) (.dict ds)
theorem RW.top {pins : List (Addr × Obj)} {σ : L2.St} {H : Hp} {s : Shared} {v : V} {u : Value} {d : D} (I : Inv X pins σ H s) (r : RW X.K H P v d) (q : RelV v u) : Top s.heap u d := by
  have ex : ∀ {a : Addr} {ep : Nat} {xs : List (NestedKey × Addr × Value)} {ds : List (D × D)}, Rd H a (.ext (rawD a ep xs)) → Top s.heap (.ref a) (.dict ds) := fun {a ep xs ds} h => by
    obtain ⟨⟨_, _, o, es, e1, e2, _⟩, _⟩ := Rd.ok h I.hok
    exact .dict e1 e2.1
  cases r with
  | val r => cases r with
    | non =>
      cases q
      exact .none
    | bl b =>
      cases q
      exact .bool b
    | int i =>
      obtain ⟨t, rfl⟩ := q
      exact .int i t
    | str x =>
      obtain ⟨t, rfl⟩ := q
      exact .str x t
    | lst p s' r =>
      cases q
      obtain ⟨its, _, p, _⟩ := I.list (.inl s')
      obtain ⟨o, e, c, _⟩ := p.isList
      exact .list e c
    | lit s' r =>
      cases q
      obtain ⟨its, _, p, _⟩ := I.list (none_lit s')
      obtain ⟨o, e, c, _⟩ := p.isList
      exact .list e c
    | tup s' r =>
      cases q
      obtain ⟨its, _, p, _⟩ := I.tuple s'.sq
      obtain ⟨o, e, c, _⟩ := p
      exact .tuple e c
    | dct p s' r =>
      cases q
      exact ex s'
  | own r =>
    cases q
    cases r with
    | lst h r =>
      obtain ⟨its, _, p, _⟩ := I.list (SqL.of h)
      obtain ⟨o, e, c, _⟩ := p.isList
      exact .list e c
    | dct h r => exact ex (.inl h)
theorem cb_isi (t : Ty) : CallR X (.builtin "isinstance") (fun vs H Q => ∃ (P : Pa) (x : V) (d : D), vs = [x, .ty (tyName t)] ∧ RW X.K H P x d ∧ Q (.bl (isF t d)) H) := by
  intro pins s σ H vs us Q I r h
  obtain ⟨P, x, d, rfl, hv, q⟩ := h
  obtain ⟨u, w, rfl, ru, rw'⟩ := vals2 r
  cases rw'
  have top := hv.top I ru
  have fin : ∀ tk, s.toks ≤ tk → EP X pins σ Q (.bool (isF t d)) { s with toks := tk } := fun tk _ => ⟨.bl _, H, I.tok tk, rfl, q⟩
  cases t
  · cases top with
    | none => first | exact PySem.IsiPair.NoneType_int (fin _ (Nat.le_succ _)) | exact PySem.IsiPair.NoneType_int (fin _ (Nat.le_refl _))
    | bool b => first | exact PySem.IsiPair.bool_int (fin _ (Nat.le_succ _)) | exact PySem.IsiPair.bool_int (fin _ (Nat.le_refl _))
    | int i t => first | exact PySem.IsiPair.int_int (fin _ (Nat.le_succ _)) | exact PySem.IsiPair.int_int (fin _ (Nat.le_refl _))
    | str x t => first | exact PySem.IsiPair.str_int (fin _ (Nat.le_succ _)) | exact PySem.IsiPair.str_int (fin _ (Nat.le_refl _))
    | list h1 h2 => first | exact PySem.IsiPair.list_int h1 h2 (fin _ (Nat.le_succ _)) | exact PySem.IsiPair.list_int h1 h2 (fin _ (Nat.le_refl _))
    | tuple h1 h2 => first | exact PySem.IsiPair.tuple_int h1 h2 (fin _ (Nat.le_succ _)) | exact PySem.IsiPair.tuple_int h1 h2 (fin _ (Nat.le_refl _))
    | dict h1 h2 => first | exact PySem.IsiPair.dict_int h1 h2 (fin _ (Nat.le_succ _)) | exact PySem.IsiPair.dict_int h1 h2 (fin _ (Nat.le_refl _))
  · cases top with
    | none => first | exact PySem.IsiPair.NoneType_bool (fin _ (Nat.le_succ _)) | exact PySem.IsiPair.NoneType_bool (fin _ (Nat.le_refl _))
    | bool b => first | exact PySem.IsiPair.bool_bool (fin _ (Nat.le_succ _)) | exact PySem.IsiPair.bool_bool (fin _ (Nat.le_refl _))
    | int i t => first | exact PySem.IsiPair.int_bool (fin _ (Nat.le_succ _)) | exact PySem.IsiPair.int_bool (fin _ (Nat.le_refl _))
    | str x t => first | exact PySem.IsiPair.str_bool (fin _ (Nat.le_succ _)) | exact PySem.IsiPair.str_bool (fin _ (Nat.le_refl _))
    | list h1 h2 => first | exact PySem.IsiPair.list_bool h1 h2 (fin _ (Nat.le_succ _)) | exact PySem.IsiPair.list_bool h1 h2 (fin _ (Nat.le_refl _))
    | tuple h1 h2 => first | exact PySem.IsiPair.tuple_bool h1 h2 (fin _ (Nat.le_succ _)) | exact PySem.IsiPair.tuple_bool h1 h2 (fin _ (Nat.le_refl _))
    | dict h1 h2 => first | exact PySem.IsiPair.dict_bool h1 h2 (fin _ (Nat.le_succ _)) | exact PySem.IsiPair.dict_bool h1 h2 (fin _ (Nat.le_refl _))
  · cases top with
    | none => first | exact PySem.IsiPair.NoneType_str (fin _ (Nat.le_succ _)) | exact PySem.IsiPair.NoneType_str (fin _ (Nat.le_refl _))
    | bool b => first | exact PySem.IsiPair.bool_str (fin _ (Nat.le_succ _)) | exact PySem.IsiPair.bool_str (fin _ (Nat.le_refl _))
    | int i t => first | exact PySem.IsiPair.int_str (fin _ (Nat.le_succ _)) | exact PySem.IsiPair.int_str (fin _ (Nat.le_refl _))
    | str x t => first | exact PySem.IsiPair.str_str (fin _ (Nat.le_succ _)) | exact PySem.IsiPair.str_str (fin _ (Nat.le_refl _))
    | list h1 h2 => first | exact PySem.IsiPair.list_str h1 h2 (fin _ (Nat.le_succ _)) | exact PySem.IsiPair.list_str h1 h2 (fin _ (Nat.le_refl _))
    | tuple h1 h2 => first | exact PySem.IsiPair.tuple_str h1 h2 (fin _ (Nat.le_succ _)) | exact PySem.IsiPair.tuple_str h1 h2 (fin _ (Nat.le_refl _))
    | dict h1 h2 => first | exact PySem.IsiPair.dict_str h1 h2 (fin _ (Nat.le_succ _)) | exact PySem.IsiPair.dict_str h1 h2 (fin _ (Nat.le_refl _))
  · cases top with
    | none => first | exact PySem.IsiPair.NoneType_tuple (fin _ (Nat.le_succ _)) | exact PySem.IsiPair.NoneType_tuple (fin _ (Nat.le_refl _))
    | bool b => first | exact PySem.IsiPair.bool_tuple (fin _ (Nat.le_succ _)) | exact PySem.IsiPair.bool_tuple (fin _ (Nat.le_refl _))
    | int i t => first | exact PySem.IsiPair.int_tuple (fin _ (Nat.le_succ _)) | exact PySem.IsiPair.int_tuple (fin _ (Nat.le_refl _))
    | str x t => first | exact PySem.IsiPair.str_tuple (fin _ (Nat.le_succ _)) | exact PySem.IsiPair.str_tuple (fin _ (Nat.le_refl _))
    | list h1 h2 => first | exact PySem.IsiPair.list_tuple h1 h2 (fin _ (Nat.le_succ _)) | exact PySem.IsiPair.list_tuple h1 h2 (fin _ (Nat.le_refl _))
    | tuple h1 h2 => first | exact PySem.IsiPair.tuple_tuple h1 h2 (fin _ (Nat.le_succ _)) | exact PySem.IsiPair.tuple_tuple h1 h2 (fin _ (Nat.le_refl _))
    | dict h1 h2 => first | exact PySem.IsiPair.dict_tuple h1 h2 (fin _ (Nat.le_succ _)) | exact PySem.IsiPair.dict_tuple h1 h2 (fin _ (Nat.le_refl _))
  · cases top with
    | none => first | exact PySem.IsiPair.NoneType_list (fin _ (Nat.le_succ _)) | exact PySem.IsiPair.NoneType_list (fin _ (Nat.le_refl _))
    | bool b => first | exact PySem.IsiPair.bool_list (fin _ (Nat.le_succ _)) | exact PySem.IsiPair.bool_list (fin _ (Nat.le_refl _))
    | int i t => first | exact PySem.IsiPair.int_list (fin _ (Nat.le_succ _)) | exact PySem.IsiPair.int_list (fin _ (Nat.le_refl _))
    | str x t => first | exact PySem.IsiPair.str_list (fin _ (Nat.le_succ _)) | exact PySem.IsiPair.str_list (fin _ (Nat.le_refl _))
    | list h1 h2 => first | exact PySem.IsiPair.list_list h1 h2 (fin _ (Nat.le_succ _)) | exact PySem.IsiPair.list_list h1 h2 (fin _ (Nat.le_refl _))
    | tuple h1 h2 => first | exact PySem.IsiPair.tuple_list h1 h2 (fin _ (Nat.le_succ _)) | exact PySem.IsiPair.tuple_list h1 h2 (fin _ (Nat.le_refl _))
    | dict h1 h2 => first | exact PySem.IsiPair.dict_list h1 h2 (fin _ (Nat.le_succ _)) | exact PySem.IsiPair.dict_list h1 h2 (fin _ (Nat.le_refl _))
  · cases top with
    | none => first | exact PySem.IsiPair.NoneType_dict (fin _ (Nat.le_succ _)) | exact PySem.IsiPair.NoneType_dict (fin _ (Nat.le_refl _))
    | bool b => first | exact PySem.IsiPair.bool_dict (fin _ (Nat.le_succ _)) | exact PySem.IsiPair.bool_dict (fin _ (Nat.le_refl _))
    | int i t => first | exact PySem.IsiPair.int_dict (fin _ (Nat.le_succ _)) | exact PySem.IsiPair.int_dict (fin _ (Nat.le_refl _))
    | str x t => first | exact PySem.IsiPair.str_dict (fin _ (Nat.le_succ _)) | exact PySem.IsiPair.str_dict (fin _ (Nat.le_refl _))
    | list h1 h2 => first | exact PySem.IsiPair.list_dict h1 h2 (fin _ (Nat.le_succ _)) | exact PySem.IsiPair.list_dict h1 h2 (fin _ (Nat.le_refl _))
    | tuple h1 h2 => first | exact PySem.IsiPair.tuple_dict h1 h2 (fin _ (Nat.le_succ _)) | exact PySem.IsiPair.tuple_dict h1 h2 (fin _ (Nat.le_refl _))
    | dict h1 h2 => first | exact PySem.IsiPair.dict_dict h1 h2 (fin _ (Nat.le_succ _)) | exact PySem.IsiPair.dict_dict h1 h2 (fin _ (Nat.le_refl _))
end
end PV
set_option Elab.async false
set_option linter.all false
set_option maxRecDepth 100000
set_option maxHeartbeats 2000000
/-! PV, part X: d.get(k, x). -/
namespace PV
open PySem PySem.Spec PyProof.Rows L2
variable [Wd]
def rGet2 (K : PySem.W.Frag) (x y z : V) (H : Hp) (Q : VK) : Prop := ∃ (P : Pa) (dx dy dz dr : D), RW K H P x dx ∧ RP K H P y dy ∧ RP K H P z dz ∧ getF dx dy dz = some dr ∧ ∀ v, RP K H P v dr → Q v H
def tGet2 (K : PySem.W.Frag) (i : Nat) (ty tx : TE) : TE := fun σ H Q => ∃ v, σ[i]? = some (some v) ∧ (∃ (P : Pa) (kvs : List (D × D)), RW K H P v (.dict kvs)) ∧ ty σ H fun y H2 => tx σ H2 fun z H3 => rGet2 K v y z H3 Q
section
variable {X : Cx} {P : Pa} {H : Hp} {pins : List (Addr × Obj)} {σ : L2.St} {s : Shared}
theorem RW.dict {K : PySem.W.Frag} {v : V} {kvs : List (D × D)} (hx : RW K H P v (.dict kvs)) : ∃ a ep xs, v = .ref a ∧ Rd H a (.ext (rawD a ep xs)) ∧ REs K H P xs kvs := by
  cases hx with
  | val r => cases r with
    | dct p s' r => exact ⟨_, _, _, rfl, s', r⟩
  | own r => cases r with
    | dct h r => exact ⟨_, _, _, rfl, .inl h, r⟩
theorem REs.findN {K : PySem.W.Frag} {k : NestedKey} {xs : List (NestedKey × Addr × Value)} {ds : List (D × D)} (r : REs K H P xs ds) (h : dGet ds k = none) : atKey xs k = none := by
  have e := r.isSome (k := k)
  rw [h] at e
  cases q : atKey xs k with
  | none => rfl
  | some p =>
    rw [q] at e
    cases e
theorem call_get2 {E : Value → Shared → Prop} {x y z : V} {u w : Value} {a : Addr} {Q : Value → Shared → Prop} {Qv : VK} (rm : RoomX X) (I : Inv X pins σ H s) (ex : x = .ref a) (ry : RelV y u) (rz : RelV z w) (h : rGet2 X.K x y z H Qv)
    (fin : ∀ v r s', Inv X pins σ H s' → RelV v r → Qv v H → Q r s') : wpAny (model X.prog X.w) X.A (call (.builtin "dict.get") [.ref a, u, w]) Q E s := by
  obtain ⟨P, dx, dy, dz, dr, hx, hy, hz, e, q⟩ := h
  unfold getF at e
  split at e
  · obtain ⟨k, e1, rfl⟩ := Option.map_eq_some_iff.mp e
    obtain ⟨rfl, hd, ks, ek⟩ := key_s e1
    obtain ⟨a', ep, xs, e2, ha, ra⟩ := hx.dict
    rw [ex] at e2
    cases e2
    obtain ⟨h1, h2, hm⟩ := dictOf I rm.pw ha ra
    obtain ⟨as, rd⟩ := Dp.reads I _ _ _ (hy.dp (noDict_data _)) ry
    have un := rm.un
    have nk := nested_reads _ rd
    obtain ⟨c, rfl⟩ : ∃ c, u = .ref c := by
      subst ek
      unfold NestedKey.data at hy
      cases hy with
      | tup s' r =>
        cases ry
        exact ⟨_, rfl⟩
    have room : (nestedKind X.prog X.w).room X.A.in1 := by
      show X.A.units + 1 + 8 < cLine
      omega
    refine call_meetsIn PySem.F.slot_dict_get hm.typeIs PySem.F.entry_dict_get (PySem.F.args_dict_get_3 _ _ _) (meetsH_dict_get_default (nestedKind X.prog X.w) a c h1 w) ⟨room, k, xs, ⟨nk, hd⟩, hm, ?_⟩
    cases eg : dGet _ k with
    | none =>
      rw [ra.findN eg]
      exact fin z _ _ (I.tok _) rz (q z (by rw [eg]; exact hz))
    | some d =>
      obtain ⟨b, w', v', f1, f2, f3⟩ := ra.find eg
      rw [f1]
      exact fin v' _ _ (I.tok _) f2 (q v' (by rw [eg]; exact f3))
  · cases e
theorem pe_get2 (rm : RoomX X) {i : Nat} {n : Str} {p1 ap p : Pos} {e f : Expr} {ty tx : TE} (hv : PE X (.Name n p1) (tVar i)) (he : PE X e ty) (hf : PE X f tx) (s1 : ∀ (xs : List Expr) (env : PySem.Env), starEach (e :: xs) env = (false, eval e env) :: starEach xs env)
    (s2 : ∀ (xs : List Expr) (env : PySem.Env), starEach (f :: xs) env = (false, eval f env) :: starEach xs env) (hl : (ap.endLine == p.line) = true) : PE X (.Call (.Attribute (.Name n p1) "get" ap) [e, f] [] p) (tGet2 X.K i ty tx) := by
  refine ⟨fun pins s σ H Q I h => ?_⟩
  obtain ⟨v, e1, ⟨P, kvs, rw0⟩, h⟩ := h
  have trees : backTo p (starEach [e, f] X.env) = [(false, eval e X.env), (false, eval f X.env)] := by
    rw [s1, s2]
    rfl
  refine wpAny_Call_method (by rfl) (by rw [trees]; rfl) hl PySem.F.plainAttrs_dict PySem.F.slot_dict_get PySem.F.type_dict_get (thn (hv.run pins s σ H (fun v' H' => v' = v ∧ H' = H) I ⟨v, e1, rfl, rfl⟩) fun u t1 ⟨x, H1, I1, rx, ex, eH⟩ => ?_)
  subst ex
  subst eH
  obtain ⟨a, ep, xs, ev, ha, ra⟩ := rw0.dict
  subst ev
  cases rx
  obtain ⟨h1, h2, hm⟩ := dictOf I1 rm.pw ha ra
  refine ⟨hm.typeIs, fun b q => ?_, ?_⟩
  · cases q
    obtain ⟨ob, _, _, h1, h2, _⟩ := hm
    exact ⟨ob, h1, h2.2.1⟩
  rw [trees]
  refine Calls.callWith_builtin rfl (Calls.evalArgs_plain (Calls.spliced_cons (thn (he.run pins t1 σ H1 _ I1 h) fun iv t2 ⟨y, H2, I2, ry, q2⟩ =>
    Calls.spliced_cons (thn (hf.run pins t2 σ H2 _ I2 q2) fun fv t3 ⟨z, H3, I3, rz, q3⟩ => Calls.spliced_nil ?_))))
  exact call_get2 rm I3 rfl ry rz q3 fun v r s' J rv qv => ⟨v, H3, J, rv, qv⟩
end
end PV
set_option Elab.async false
set_option linter.all false
set_option maxRecDepth 100000
set_option maxHeartbeats 2000000
/-! PV, part F: from what the evaluator says to the readings of the layer's rules. -/
namespace PV
open PySem PySem.Spec PyProof.Rows L2
variable [Wd]
section
variable {K : PySem.W.Frag} {W : WZ} {Ph : CallF} {σ : L2.St} {H : Hp} {Q : VK}
/-- an expression that makes a new list: more is known of its value -/
def Frs (K : PySem.W.Frag) (P0 : Pa) (env' : Fram) (σ : L2.St) (H H' : Hp) (v : V) (d : D) : Prop := isSeq d = true → ∃ b, v = .ref b ∧ H b = none ∧ RE K (fun a => P0 a ∧ a ≠ b) env' σ H' ∧ ROwn K H' (Stb (fun a => P0 a ∧ a ≠ b) env' σ) b d
def tG (Ph : CallF) (K : PySem.W.Frag) (W : WZ) (e : Exp) : TE := fun σ H Q => ∃ (P0 : Pa) (env : Fram), RE K P0 env σ H ∧
  Post (ev Ph e env) (fun p => ∀ v H', Aft K P0 env σ H p.2 H' → RP K H' (Stb P0 p.2 σ) v p.1 → Frs K P0 p.2 σ H H' v p.1 → Q v H') (XP K W P0 env σ H)
theorem tG_of {e : Exp} (h : tE Ph K W e σ H Q) : tG Ph K W e σ H Q := by
  obtain ⟨P0, env, r, h⟩ := h
  exact ⟨P0, env, r, h.imp (fun p q v H' a b _ => q v H' a b) fun _ _ x => x⟩
/-- behind an operation that lets the heap grow -/
theorem Aft.out {P0 : Pa} {env env1 : Fram} {H1 : Hp} (a : Aft K P0 env σ H env1 H1) {v : V} {d : D} {H2 : Hp} (o : Out K (Stb P0 env1 σ) H1 v d H2) : Aft K P0 env σ H env1 H2 := a.trans (Aft.grow a.re o.grow)
theorem Frs.out {P0 : Pa} {env env1 : Fram} {H1 : Hp} (r : RE K P0 env σ H) (a : Aft K P0 env σ H env1 H1) {v : V} {d : D} {H2 : Hp} (hd : ∀ kvs, d ≠ .dict kvs) (f : FreshL K (Stb P0 env1 σ) H1 v d H2) : Frs K P0 env1 σ H H2 v d := fun hs => by
  cases d with
  | list ds =>
    obtain ⟨p, vs, rfl, n, rfl, rp⟩ := f ds rfl
    have hn : H p = none := a.tr p n
    refine ⟨p, rfl, hn, a.re.fresh n, ?_⟩
    exact .lst upd_same ((((rp.avoid n).mono fun _ z => (⟨⟨z.1.1, z.2⟩, z.1.2⟩ : Stb (fun a => P0 a ∧ a ≠ p) env1 σ _))).keep (Keep.all (upd_all n)) fun _ z => z)
  | dict kvs => exact absurd rfl (hd kvs)
  | _ => cases hs
def isDct : D → Bool
  | .dict _ => true
  | _ => false
theorem nd_of {z : D} (h : isDct z = false) : ∀ kvs, z ≠ .dict kvs := fun kvs e => by
  subst e
  cases h
theorem binF_nd {o : Bop} {x y z : D} (h : binF o x y = some z) : isDct z = false := by
  unfold binF at h
  split at h <;> first | (cases h; done) | (cases h; rfl) | (split at h <;> first | (cases h; rfl) | cases h)
theorem sliceF_nd {x z : D} {lo hi : Option Int} (h : sliceF x lo hi = some z) : isDct z = false := by
  unfold sliceF at h
  split at h <;> first | (cases h; done) | (cases h; rfl)
theorem bltF_nd {b : Blt} {ds : List D} {z : D} (h : bltF b ds = some z) : isDct z = false := by
  cases b
  · replace h : blt_len ds = some z := h
    unfold blt_len at h
    split at h <;> first | (cases h; done) | (cases h; rfl)
  · replace h : blt_abs ds = some z := h
    unfold blt_abs at h
    split at h <;> first | (cases h; done) | (cases h; rfl)
  · replace h : blt_max2 ds = some z := h
    unfold blt_max2 at h
    split at h <;> first | (cases h; done) | (cases h; rfl)
  · replace h : blt_min2 ds = some z := h
    unfold blt_min2 at h
    split at h <;> first | (cases h; done) | (cases h; rfl)
  · replace h : blt_int1 ds = some z := h
    unfold blt_int1 at h
    split at h <;> first | (cases h; done) | (cases h; rfl)
  · replace h : blt_str1 ds = some z := h
    unfold blt_str1 at h
    split at h <;> first | (cases h; done) | (split at h <;> first | (cases h; rfl) | cases h)
  · replace h : blt_repr ds = some z := h
    unfold blt_repr at h
    split at h <;> first | (cases h; done) | (split at h <;> first | (cases h; rfl) | cases h)
  · replace h : blt_all ds = some z := h
    unfold blt_all at h
    split at h <;> first | (cases h; done) | (obtain ⟨_, _, rfl⟩ := Option.map_eq_some_iff.mp h; rfl)
  · replace h : blt_any ds = some z := h
    unfold blt_any at h
    split at h <;> first | (cases h; done) | (obtain ⟨_, _, rfl⟩ := Option.map_eq_some_iff.mp h; rfl)
  · replace h : blt_sum ds = some z := h
    unfold blt_sum at h
    split at h <;> first | (cases h; done) | (obtain ⟨_, _, rfl⟩ := Option.map_eq_some_iff.mp h; rfl)
  · replace h : blt_gcd ds = some z := h
    unfold blt_gcd at h
    split at h <;> first | (cases h; done) | (cases h; rfl)
  · replace h : blt_divmod ds = some z := h
    unfold blt_divmod at h
    split at h <;> first | (cases h; done) | (split at h <;> first | (cases h; rfl) | cases h)
  · replace h : blt_tuple ds = some z := h
    unfold blt_tuple at h
    split at h <;> first | (cases h; done) | (cases h; rfl)
  · replace h : blt_list ds = some z := h
    unfold blt_list at h
    split at h <;> first | (cases h; done) | (cases h; rfl)
  · replace h : blt_lenset ds = some z := h
    unfold blt_lenset at h
    split at h
    · obtain ⟨ks, _, h⟩ := Option.bind_eq_some_iff.mp h
      split at h <;> first | (cases h; rfl) | cases h
    · cases h
  · replace h : blt_sorted ds = some z := h
    unfold blt_sorted at h
    split at h
    · split at h <;> first | (cases h; rfl) | cases h
    · obtain ⟨ks, _, h⟩ := Option.bind_eq_some_iff.mp h
      split at h <;> first | (cases h; rfl) | cases h
    · cases h
  · replace h : blt_sortset ds = some z := h
    unfold blt_sortset at h
    split at h
    · obtain ⟨ks, _, h⟩ := Option.bind_eq_some_iff.mp h
      split at h <;> first | (cases h; rfl) | cases h
    · cases h
  · replace h : blt_rangel ds = some z := h
    unfold blt_rangel at h
    split at h <;> first | (cases h; done) | (split at h <;> first | (cases h; rfl) | cases h)
  · replace h : blt_ranget ds = some z := h
    unfold blt_ranget at h
    split at h <;> first | (cases h; done) | (split at h <;> first | (cases h; rfl) | cases h)
  · replace h : blt_sortrank ds = some z := h
    unfold blt_sortrank at h
    split at h <;> first | (cases h; done) | (split at h <;> first | (cases h; rfl) | cases h)
  · replace h : blt_maxl ds = some z := h
    unfold blt_maxl at h
    split at h
    · split at h <;> first | (cases h; rfl) | cases h
    · split at h
      · split at h <;> first | (cases h; rfl) | cases h
      · cases h
    · cases h
/-! entailments -/
variable {a b c i : Exp} {es : Exs}
def exsLen : Exs → Nat
  | .nil => 0
  | .cons _ es => exsLen es + 1
theorem evs_len : ∀ {es : Exs} {env : Fram} {p : List D × Fram}, evs Ph es env = .ok p → p.1.length = exsLen es
  | .nil, env, p, h => by
    unfold evs at h
    cases h
    rfl
  | .cons e es, env, p, h => by
    unfold evs at h
    cases h1 : ev Ph e env with
    | ok q =>
      rw [h1] at h
      cases h2 : evs Ph es q.2 with
      | ok q2 =>
        simp only [bind_ok, h2] at h
        cases h
        simp [exsLen, evs_len h2]
      | exc z e => simp [h2] at h
      | bad => simp [h2] at h
    | exc z e => simp [h1] at h
    | bad => simp [h1] at h
theorem post_ok {A : Type} {r : Res A} {k : A → Prop} {x : Exc → Fram → Prop} (h : Post r k x) : Post r (fun a => r = .ok a ∧ k a) x := by
  cases r with
  | ok a => exact ⟨rfl, h⟩
  | _ => exact h
theorem line_of {n : Nat} (h : n ≤ 1000) : n ≤ sizeLine := by
  rw [sizeLine_eq]
  omega
/-- a tuple of written items, its object known -/
def tTupP (t : TA) : TE := fun σ H Q => t σ H fun xs G => xs.length ≤ sizeLine ∧ ∀ p (o : Obj), G p = none → o.dict = none → Q (.ref p) (upd G p (.frz o (.tup xs)))
theorem pe_tupP {X : Cx} {es : List Expr} {t : TA} {k1} {pos : Pos} (h : PA X es t) : PE X (.Tuple es k1 pos) (tTupP t) :=
  ⟨fun pins s0 σ0 G q J hq => wpAny_Tuple_spliced (thn (h.run pos pins s0 σ0 G _ J hq) fun us s1 ⟨xs, G1, J1, rv, few, go⟩ => ⟨Nat.le_trans (Nat.le_of_eq rv.length.symm) few, laidT (h' := s1.heap) (tk := s1.toks) J1 (fun _ _ e => e) rv few go⟩)⟩
theorem ent_tup (hl : exsLen es ≤ 1000) (h : tE Ph K W (.tup es) σ H Q) : tTupP (tEs Ph K W es) σ H Q := by
  obtain ⟨P0, env, r, h⟩ := h
  unfold ev at h
  refine tEs_of r (post_ok (post_bind.mp h)) fun ds env1 ⟨e, q⟩ vs H1 a rs => ?_
  have l1 := rs.length
  have l2 : ds.length = exsLen es := evs_len e
  refine ⟨line_of (by omega), fun p ob n d => ?_⟩
  have o := out_tup (P := Stb P0 env1 σ) n d rs
  exact q _ _ (a.out o) o.rp
theorem ent_lst (hl : exsLen es ≤ 1000) (h : tG Ph K W (.lst es) σ H Q) : tLst (tEs Ph K W es) σ H Q := by
  obtain ⟨P0, env, r, h⟩ := h
  unfold ev at h
  refine tEs_of r (post_ok (post_bind.mp h)) fun ds env1 ⟨e, q⟩ vs H1 a rs => ?_
  have l1 := rs.length
  have l2 : ds.length = exsLen es := evs_len e
  refine ⟨line_of (by omega), fun p n => ?_⟩
  have o := out_lst (P := Stb P0 env1 σ) (fun p n => a.re.stbNew n) n rs
  exact q _ _ (a.out o) o.rp (Frs.out r a (fun kvs z => by cases z) (fresh_lst n rs))
/-- a new empty dict -/
def tDNewR : TE := fun _ H Q => ∀ p, H p = none → Q (.ref p) (upd H p (.ext (rawD p 0 [])))
theorem pe_dnewR {X : Cx} {pos : Pos} : PE X (.Dict [] [] pos) tDNewR := ⟨fun pins s σ H Q I h =>
  wpAny_Dict_empty ⟨.ref s.heap.objs.size, _, I.laid (a := s.heap.objs.size) (o := .ext (rawD s.heap.objs.size 0 [])) (t' := s.toks) (fun _ _ q => Heap.get?_push_of_some _ q) (Nat.le_refl _)
    ⟨⟨beq_eq_false_iff_ne.mpr (Ne.symm (Nat.ne_of_lt I.big)), Nat.zero_le _, _, #[], Heap.get?_push_size _ rfl, ⟨rfl, rfl, rfl⟩, rfl, rfl, List.nodup_nil⟩, ⟨_, Heap.get?_push_size _ rfl⟩, rawD_mono⟩, rfl, h _ (I.hok.fresh (Nat.le_refl _))⟩⟩
theorem ent_dict0 (h : tG Ph K W .dict0 σ H Q) : tDNewR σ H Q := by
  obtain ⟨P0, env, r, h⟩ := h
  unfold ev at h
  intro p n
  have o : Out K (Stb P0 env σ) H (.ref p) (.dict []) (upd H p (.ext (rawD p 0 []))) := ⟨upd_all n, .dct (r.stbNew n) (.inl upd_same) .nil⟩
  exact h _ _ ((Aft.refl r).out o) o.rp fun _ => ⟨p, rfl, n, r.fresh n, .dct upd_same .nil⟩
theorem ent_bin {o : Bop} (h : tG Ph K W (.bin o a b) σ H Q) : tOp (rBin K o) (tO Ph K W a) (tO Ph K W b) σ H Q := by
  obtain ⟨P0, env, r, h⟩ := h
  unfold ev at h
  refine tO_of r (post_bind.mp h) fun oa env1 q x H1 a1 ra => ?_
  refine tO_of a1.re ((post_bind.mp q).imp (fun _ z => z) fun _ _ z => z.after a1) fun ob env2 q y H2 a2 rb => ?_
  obtain ⟨dx, ex, q⟩ := post_opt.mp (post_bind.mp q)
  obtain ⟨dy, ey, q⟩ := post_opt.mp (post_bind.mp q)
  obtain ⟨dz, ez, q⟩ := post_opt.mp (post_bind.mp q)
  have a12 := a1.trans a2
  refine ⟨Stb P0 env2 σ, dx, dy, dz, fun p n => a2.re.stbNew n, a2.re.deref ex (a2.rop a1.re ra), a2.re.deref ey rb, ez, fun v H3 o f => q v H3 (a12.out o) o.rp (Frs.out r a12 (nd_of (binF_nd ez)) f)⟩
theorem ent_neg (h : tE Ph K W (.neg a) σ H Q) : tUn (rU fun i => .int (-i)) (tE Ph K W a) σ H Q := by
  obtain ⟨P0, env, r, h⟩ := h
  unfold ev at h
  refine tE_of r (post_bind.mp h) fun d env1 q v H1 a1 ra => ?_
  cases d with
  | int j =>
    cases ra
    exact ⟨_, rfl, q _ H1 a1 (.int _)⟩
  | _ => exact q.elim
theorem ent_nott (h : tE Ph K W (.nott a) σ H Q) : tNotV (tE Ph K W a) σ H Q := by
  obtain ⟨P0, env, r, h⟩ := h
  unfold ev at h
  refine tE_of r (post_bind.mp h) fun d env1 q v H1 a1 ra => ?_
  cases d with
  | bool j =>
    cases ra
    exact ⟨_, rfl, q _ H1 a1 (.bl _)⟩
  | _ => exact q.elim
theorem ent_nottT {Q : Bool → Hp → Prop} (h : tT Ph K W (.nott a) σ H Q) : tNot (tT Ph K W a) σ H Q := by
  obtain ⟨P0, env, r, h⟩ := h
  unfold ev at h
  refine tT_of r (post_bind.mp h) fun d env1 q => ?_
  cases d with
  | bool j =>
    obtain ⟨k, e, q⟩ := q
    cases e
    exact ⟨_, rfl, fun H1 a1 => q H1 a1⟩
  | _ => exact q.elim
theorem ent_cmp {o : Cop} (ho : o ≠ .isN ∧ o ≠ .notN) (h : tE Ph K W (.cmp o a b) σ H Q) : tOp (rCmp K o) (tO Ph K W a) (tO Ph K W b) σ H Q := by
  obtain ⟨P0, env, r, h⟩ := h
  have e : ev Ph (.cmp o a b) env = (opd a env (ev Ph a env)).bind fun p => (opd b p.2 (ev Ph b p.2)).bind fun q => (opt (deref q.2 p.1)).bind fun x => (opt (deref q.2 q.1)).bind fun y => (opt (cmpF o x y)).bind fun z => .ok (.bool z, q.2) := by
    cases o <;> first | exact absurd rfl ho.1 | exact absurd rfl ho.2 | (conv => lhs; unfold ev)
  rw [e] at h
  refine tO_of r (post_bind.mp h) fun oa env1 q x H1 a1 ra => ?_
  refine tO_of a1.re ((post_bind.mp q).imp (fun _ z => z) fun _ _ z => z.after a1) fun ob env2 q y H2 a2 rb => ?_
  obtain ⟨dx, ex, q⟩ := post_opt.mp (post_bind.mp q)
  obtain ⟨dy, ey, q⟩ := post_opt.mp (post_bind.mp q)
  obtain ⟨dz, ez, q⟩ := post_opt.mp (post_bind.mp q)
  exact ⟨Stb P0 env2 σ, dx, dy, dz, a2.re.deref ex (a2.rop a1.re ra), a2.re.deref ey rb, ez, q _ H2 (a1.trans a2) (.bl _)⟩
theorem ent_idx (h : tE Ph K W (.idx a i) σ H Q) : tOp (rIdx K) (tO Ph K W a) (tE Ph K W i) σ H Q := by
  obtain ⟨P0, env, r, h⟩ := h
  unfold ev at h
  refine tO_of r (post_bind.mp h) fun oa env1 q x H1 a1 ra => ?_
  refine tE_of a1.re ((post_bind.mp q).imp (fun _ z => z) fun _ _ z => z.after a1) fun ob env2 q y H2 a2 rb => ?_
  obtain ⟨dx, ex, q⟩ := post_opt.mp (post_bind.mp q)
  obtain ⟨dz, ez, q⟩ := post_opt.mp (post_bind.mp q)
  exact ⟨Stb P0 env2 σ, dx, ob, dz, a2.re.deref ex (a2.rop a1.re ra), rb, ez, fun v rv => q v H2 (a1.trans a2) rv⟩
theorem slotAt {P0 : Pa} {env : Fram} (r : RE K P0 env σ H) {i : Nat} {d : D} (h : look env i = some d) : ∃ v, σ[i]? = some (some v) := by
  unfold look at h
  split at h
  · rename_i e
    obtain ⟨v, h1, _⟩ := r.val i _ e
    exact ⟨v, h1⟩
  · rename_i e
    obtain ⟨v, h1, _⟩ := r.own i _ e
    exact ⟨_, h1⟩
  · cases h
theorem ent_get2 {j : Nat} (h : tE Ph K W (.get2 j a b) σ H Q) : tGet2 K j (tE Ph K W a) (tE Ph K W b) σ H Q := by
  obtain ⟨P0, env, r, h⟩ := h
  unfold ev at h
  split at h
  · rename_i kvs hl
    obtain ⟨v, hs⟩ := slotAt r hl
    refine ⟨v, hs, ⟨_, kvs, r.look hl hs⟩, ?_⟩
    refine tE_of r (post_bind.mp h) fun dy env1 q y H1 a1 ry => ?_
    refine tE_of a1.re ((post_bind.mp q).imp (fun _ z => z) fun _ _ z => z.after a1) fun dz env2 q z H2 a2 rz => ?_
    obtain ⟨dx, ex, q⟩ := post_opt.mp (post_bind.mp q)
    obtain ⟨dr, er, q⟩ := post_opt.mp (post_bind.mp q)
    exact ⟨Stb P0 env2 σ, dx, dy, dz, dr, a2.re.look ex hs, a2.rp a1.re ry, rz, er, fun v rv => q v H2 (a1.trans a2) rv⟩
  · exact h.elim
theorem ent_ite (h : tE Ph K W (.ite c a b) σ H Q) : tIf (tT Ph K W c) (tE Ph K W a) (tE Ph K W b) σ H Q := by
  obtain ⟨P0, env, r, h⟩ := h
  unfold ev at h
  refine tT_of r (post_bind.mp h) fun d env1 q => ?_
  cases d with
  | bool k =>
    cases k with
    | true =>
      refine ⟨_, rfl, fun H1 a1 => ?_⟩
      rw [if_pos rfl]
      exact tE_of a1.re (q.imp (fun _ z => z) fun _ _ z => z.after a1) fun d env2 q v H2 a2 rv => q v H2 (a1.trans a2) rv
    | false =>
      refine ⟨_, rfl, fun H1 a1 => ?_⟩
      rw [if_neg Bool.false_ne_true]
      exact tE_of a1.re (q.imp (fun _ z => z) fun _ _ z => z.after a1) fun d env2 q v H2 a2 rv => q v H2 (a1.trans a2) rv
  | _ => exact q.elim
theorem ent_blt {o : Blt} (h : tG Ph K W (.blt o es) σ H Q) : tCB (rBlt K o) (tOs Ph K W es) σ H Q := by
  obtain ⟨P0, env, r, h⟩ := h
  unfold ev at h
  refine tOs_of r (post_bind.mp h) fun os env1 q vs H1 a1 ra => ?_
  obtain ⟨ds, ed, q⟩ := post_opt.mp (post_bind.mp q)
  obtain ⟨dz, ez, q⟩ := post_opt.mp (post_bind.mp q)
  exact ⟨Stb P0 env1 σ, ds, dz, fun p n => a1.re.stbNew n, a1.re.derefs ed ra, ez, fun v H3 o f => q v H3 (a1.out o) o.rp (Frs.out r a1 (nd_of (bltF_nd ez)) f)⟩
/-! arguments -/
theorem ent_es_nil {Q : List V → Hp → Prop} (h : tEs Ph K W .nil σ H Q) : tNil σ H Q := by
  obtain ⟨P0, env, r, h⟩ := h
  exact h [] H (Aft.refl r) .nil
theorem ent_es_cons {Q : List V → Hp → Prop} (h : tEs Ph K W (.cons a es) σ H Q) : tCons (tE Ph K W a) (tEs Ph K W es) σ H Q := by
  obtain ⟨P0, env, r, h⟩ := h
  unfold evs at h
  refine tE_of r (post_bind.mp h) fun d env1 q x H1 a1 ra => ?_
  refine tEs_of a1.re ((post_bind.mp q).imp (fun _ z => z) fun _ _ z => z.after a1) fun ds env2 q xs H2 a2 rs => ?_
  exact q (x :: xs) H2 (a1.trans a2) (.cons (a2.rp a1.re ra) rs)
theorem Aft.rops {P0 : Pa} {env env1 : Fram} {H1 : Hp} (a : Aft K P0 env σ H env1 H1) (r : RE K P0 env σ H) : ∀ {vs : List V} {os : List Opd}, ROps K H (Stb P0 env σ) σ vs os → ROps K H1 (Stb P0 env1 σ) σ vs os
  | _, _, .nil => .nil
  | _, _, .cons h q => .cons (a.rop r h) (Aft.rops a r q)
theorem ent_os_nil {Q : List V → Hp → Prop} (h : tOs Ph K W .nil σ H Q) : tNil σ H Q := by
  obtain ⟨P0, env, r, h⟩ := h
  exact h [] H (Aft.refl r) .nil
theorem ent_os_cons {Q : List V → Hp → Prop} (h : tOs Ph K W (.cons a es) σ H Q) : tCons (tO Ph K W a) (tOs Ph K W es) σ H Q := by
  obtain ⟨P0, env, r, h⟩ := h
  unfold evp at h
  refine tO_of r (post_bind.mp h) fun d env1 q x H1 a1 ra => ?_
  refine tOs_of a1.re ((post_bind.mp q).imp (fun _ z => z) fun _ _ z => z.after a1) fun ds env2 q xs H2 a2 rs => ?_
  exact q (x :: xs) H2 (a1.trans a2) (.cons (a2.rop a1.re ra) rs)
/-! and, or -/
def tAndE (Ph : CallF) (K : PySem.W.Frag) (W : WZ) (es : Exs) : TE := fun σ H Q => ∃ (P0 : Pa) (env : Fram), RE K P0 env σ H ∧
  Post (evAnd Ph es env) (fun p => ∀ v H', Aft K P0 env σ H p.2 H' → RP K H' (Stb P0 p.2 σ) v p.1 → Q v H') (XP K W P0 env σ H)
def tOrE (Ph : CallF) (K : PySem.W.Frag) (W : WZ) (es : Exs) : TE := fun σ H Q => ∃ (P0 : Pa) (env : Fram), RE K P0 env σ H ∧
  Post (evOr Ph es env) (fun p => ∀ v H', Aft K P0 env σ H p.2 H' → RP K H' (Stb P0 p.2 σ) v p.1 → Q v H') (XP K W P0 env σ H)
def tAndB (Ph : CallF) (K : PySem.W.Frag) (W : WZ) (es : Exs) : TT := fun σ H Q => ∃ (P0 : Pa) (env : Fram), RE K P0 env σ H ∧
  Post (evAnd Ph es env) (fun p => ∃ b, p.1 = .bool b ∧ ∀ H', Aft K P0 env σ H p.2 H' → Q b H') (XP K W P0 env σ H)
def tOrB (Ph : CallF) (K : PySem.W.Frag) (W : WZ) (es : Exs) : TT := fun σ H Q => ∃ (P0 : Pa) (env : Fram), RE K P0 env σ H ∧
  Post (evOr Ph es env) (fun p => ∃ b, p.1 = .bool b ∧ ∀ H', Aft K P0 env σ H p.2 H' → Q b H') (XP K W P0 env σ H)
theorem ent_conj (h : tE Ph K W (.conj es) σ H Q) : tAndE Ph K W es σ H Q := by
  obtain ⟨P0, env, r, h⟩ := h
  unfold ev at h
  exact ⟨P0, env, r, h⟩
theorem ent_disj (h : tE Ph K W (.disj es) σ H Q) : tOrE Ph K W es σ H Q := by
  obtain ⟨P0, env, r, h⟩ := h
  unfold ev at h
  exact ⟨P0, env, r, h⟩
theorem ent_conjT {Q : Bool → Hp → Prop} (h : tT Ph K W (.conj es) σ H Q) : tAndB Ph K W es σ H Q := by
  obtain ⟨P0, env, r, h⟩ := h
  unfold ev at h
  exact ⟨P0, env, r, h⟩
theorem ent_disjT {Q : Bool → Hp → Prop} (h : tT Ph K W (.disj es) σ H Q) : tOrB Ph K W es σ H Q := by
  obtain ⟨P0, env, r, h⟩ := h
  unfold ev at h
  exact ⟨P0, env, r, h⟩
theorem ent_and1 (h : tAndE Ph K W (.cons a .nil) σ H Q) : tE Ph K W a σ H Q := by
  obtain ⟨P0, env, r, h⟩ := h
  unfold evAnd at h
  refine tE_of r (post_bind.mp h) fun d env1 q v H1 a1 ra => ?_
  cases d with
  | bool k => cases k with
    | true => exact q v H1 a1 ra
    | false => exact q v H1 a1 ra
  | _ => exact q.elim
theorem ent_or1 (h : tOrE Ph K W (.cons a .nil) σ H Q) : tE Ph K W a σ H Q := by
  obtain ⟨P0, env, r, h⟩ := h
  unfold evOr at h
  refine tE_of r (post_bind.mp h) fun d env1 q v H1 a1 ra => ?_
  cases d with
  | bool k => cases k with
    | true => exact q v H1 a1 ra
    | false => exact q v H1 a1 ra
  | _ => exact q.elim
theorem ent_and2 (h : tAndE Ph K W (.cons a (.cons b es)) σ H Q) : tAndV (tE Ph K W a) (tAndE Ph K W (.cons b es)) σ H Q := by
  obtain ⟨P0, env, r, h⟩ := h
  unfold evAnd at h
  refine tE_of r (post_bind.mp h) fun d env1 q v H1 a1 ra => ?_
  cases d with
  | bool k => cases k with
    | true =>
      cases ra
      refine ⟨true, rfl, ?_⟩
      rw [if_pos rfl]
      exact ⟨P0, env1, a1.re, Post.imp q (fun p z w H2 a2 rw' => z w H2 (a1.trans a2) rw') fun _ _ z => z.after a1⟩
    | false =>
      cases ra
      refine ⟨false, rfl, ?_⟩
      rw [if_neg Bool.false_ne_true]
      exact q _ H1 a1 (.bl _)
  | _ => exact q.elim
theorem ent_or2 (h : tOrE Ph K W (.cons a (.cons b es)) σ H Q) : tOrV (tE Ph K W a) (tOrE Ph K W (.cons b es)) σ H Q := by
  obtain ⟨P0, env, r, h⟩ := h
  unfold evOr at h
  refine tE_of r (post_bind.mp h) fun d env1 q v H1 a1 ra => ?_
  cases d with
  | bool k => cases k with
    | false =>
      cases ra
      refine ⟨false, rfl, ?_⟩
      rw [if_neg Bool.false_ne_true]
      exact ⟨P0, env1, a1.re, Post.imp q (fun p z w H2 a2 rw' => z w H2 (a1.trans a2) rw') fun _ _ z => z.after a1⟩
    | true =>
      cases ra
      refine ⟨true, rfl, ?_⟩
      rw [if_pos rfl]
      exact q _ H1 a1 (.bl _)
  | _ => exact q.elim
theorem ent_and1T {Q : Bool → Hp → Prop} (h : tAndB Ph K W (.cons a .nil) σ H Q) : tT Ph K W a σ H Q := by
  obtain ⟨P0, env, r, h⟩ := h
  unfold evAnd at h
  refine tT_of r (post_bind.mp h) fun d env1 q => ?_
  cases d with
  | bool k =>
    refine ⟨k, rfl, fun H1 a1 => ?_⟩
    cases k with
    | true =>
      obtain ⟨b, e, q⟩ := q
      cases e
      exact q H1 a1
    | false =>
      obtain ⟨b, e, q⟩ := q
      cases e
      exact q H1 a1
  | _ => exact q.elim
theorem ent_or1T {Q : Bool → Hp → Prop} (h : tOrB Ph K W (.cons a .nil) σ H Q) : tT Ph K W a σ H Q := by
  obtain ⟨P0, env, r, h⟩ := h
  unfold evOr at h
  refine tT_of r (post_bind.mp h) fun d env1 q => ?_
  cases d with
  | bool k =>
    refine ⟨k, rfl, fun H1 a1 => ?_⟩
    cases k with
    | true =>
      obtain ⟨b, e, q⟩ := q
      cases e
      exact q H1 a1
    | false =>
      obtain ⟨b, e, q⟩ := q
      cases e
      exact q H1 a1
  | _ => exact q.elim
theorem ent_and2T {Q : Bool → Hp → Prop} (h : tAndB Ph K W (.cons a (.cons b es)) σ H Q) : tAnd (tT Ph K W a) (tAndB Ph K W (.cons b es)) σ H Q := by
  obtain ⟨P0, env, r, h⟩ := h
  unfold evAnd at h
  refine tT_of r (post_bind.mp h) fun d env1 q => ?_
  cases d with
  | bool k =>
    refine ⟨k, rfl, fun H1 a1 => ?_⟩
    cases k with
    | true =>
      rw [if_pos rfl]
      refine ⟨P0, env1, a1.re, Post.imp q (fun p z => ?_) fun _ _ z => z.after a1⟩
      obtain ⟨b, e, z⟩ := z
      exact ⟨b, e, fun H2 a2 => z H2 (a1.trans a2)⟩
    | false =>
      rw [if_neg Bool.false_ne_true]
      obtain ⟨b, e, q⟩ := q
      cases e
      exact q H1 a1
  | _ => exact q.elim
theorem ent_or2T {Q : Bool → Hp → Prop} (h : tOrB Ph K W (.cons a (.cons b es)) σ H Q) : tOr (tT Ph K W a) (tOrB Ph K W (.cons b es)) σ H Q := by
  obtain ⟨P0, env, r, h⟩ := h
  unfold evOr at h
  refine tT_of r (post_bind.mp h) fun d env1 q => ?_
  cases d with
  | bool k =>
    refine ⟨k, rfl, fun H1 a1 => ?_⟩
    cases k with
    | false =>
      rw [if_neg Bool.false_ne_true]
      refine ⟨P0, env1, a1.re, Post.imp q (fun p z => ?_) fun _ _ z => z.after a1⟩
      obtain ⟨b, e, z⟩ := z
      exact ⟨b, e, fun H2 a2 => z H2 (a1.trans a2)⟩
    | true =>
      rw [if_pos rfl]
      obtain ⟨b, e, q⟩ := q
      cases e
      exact q H1 a1
  | _ => exact q.elim
/-- a test from a value -/
theorem ent_testE {Q : Bool → Hp → Prop} (h : tT Ph K W a σ H Q) : tB (tE Ph K W a) σ H Q := by
  obtain ⟨P0, env, r, h⟩ := h
  refine tE_of r h fun d env1 q v H1 a1 ra => ?_
  obtain ⟨b, e, q⟩ := q
  subst e
  cases ra
  exact ⟨b, rfl, q H1 a1⟩
theorem RW.isNone {P : Pa} {v : V} {d : D} (r : RW K H P v d) : decide (v = .non) = isNoneD d := by
  cases r with
  | val q => cases q <;> rfl
  | own q => cases q <;> rfl
theorem ent_isN (h : tE Ph K W (.cmp .isN a b) σ H Q) : tIsN (tO Ph K W a) σ H Q := by
  obtain ⟨P0, env, r, h⟩ := h
  unfold ev at h
  refine tO_of r (post_bind.mp h) fun oa env1 q x H1 a1 ra => ?_
  obtain ⟨dx, ex, q⟩ := post_opt.mp (post_bind.mp q)
  rw [(a1.re.deref ex ra).isNone]
  exact q _ H1 a1 (.bl _)
theorem ent_notN (h : tE Ph K W (.cmp .notN a b) σ H Q) : tNotN (tO Ph K W a) σ H Q := by
  obtain ⟨P0, env, r, h⟩ := h
  unfold ev at h
  refine tO_of r (post_bind.mp h) fun oa env1 q x H1 a1 ra => ?_
  obtain ⟨dx, ex, q⟩ := post_opt.mp (post_bind.mp q)
  rw [(a1.re.deref ex ra).isNone]
  exact q _ H1 a1 (.bl _)
theorem ent_cmp2 {o p : Cop} (h : tE Ph K W (.cmp2 o p a b c) σ H Q) : tChain (rCmp K o) (rCmp K p) (tE Ph K W a) (tE Ph K W b) (tE Ph K W c) σ H Q := by
  obtain ⟨P0, env, r, h⟩ := h
  unfold ev at h
  refine tE_of r (post_bind.mp h) fun oa env1 q x H1 a1 ra => ?_
  refine tE_of a1.re ((post_bind.mp q).imp (fun _ z => z) fun _ _ z => z.after a1) fun ob env2 q y H2 a2 rb => ?_
  have a12 := a1.trans a2
  obtain ⟨k, ek, q⟩ := post_opt.mp (post_bind.mp q)
  refine ⟨Stb P0 env2 σ, oa, ob, k, .val (a2.rp a1.re ra), .val rb, ek, k, rfl, ?_⟩
  cases k with
  | false =>
    rw [if_neg Bool.false_ne_true]
    exact q _ H2 a12 (.bl _)
  | true =>
    rw [if_pos rfl]
    refine tE_of a2.re ((post_bind.mp q).imp (fun _ z => z) fun _ _ z => z.after a12) fun oc env3 q z H3 a3 rc => ?_
    obtain ⟨k, ek, q⟩ := post_opt.mp (post_bind.mp q)
    exact ⟨Stb P0 env3 σ, ob, oc, k, .val (a3.rp a2.re rb), .val rc, ek, q _ H3 (a12.trans a3) (.bl _)⟩
def tOpt (Ph : CallF) (K : PySem.W.Frag) (W : WZ) (e : Exo) : TO := fun σ H Q => ∃ (P0 : Pa) (env : Fram), RE K P0 env σ H ∧
  Post (evo Ph e env) (fun p => ∀ H', Aft K P0 env σ H p.2 H' → Q p.1 H') (XP K W P0 env σ H)
theorem tOpt_of {P0 : Pa} {env : Fram} (r : RE K P0 env σ H) {e : Exo} {R : Option Int → Hp → Prop} {k : Option Int × Fram → Prop} (h : Post (evo Ph e env) k (XP K W P0 env σ H))
    (hk : ∀ d env1, k (d, env1) → ∀ H1, Aft K P0 env σ H env1 H1 → R d H1) : tOpt Ph K W e σ H R :=
  ⟨P0, env, r, h.imp (fun p q => fun H1 a => hk p.1 p.2 q H1 a) fun _ _ x => x⟩
theorem ent_onon {Q : Option Int → Hp → Prop} (h : tOpt Ph K W .non σ H Q) : tNoPart σ H Q := by
  obtain ⟨P0, env, r, h⟩ := h
  exact h H (Aft.refl r)
theorem ent_osom {Q : Option Int → Hp → Prop} (h : tOpt Ph K W (.som a) σ H Q) : tPart (tE Ph K W a) σ H Q := by
  obtain ⟨P0, env, r, h⟩ := h
  unfold evo at h
  refine tE_of r (post_bind.mp h) fun d env1 q v H1 a1 ra => ?_
  cases d with
  | int j =>
    cases ra
    exact ⟨j, rfl, q H1 a1⟩
  | _ => exact q.elim
theorem ent_slice {lo hi : Exo} (h : tG Ph K W (.slice a lo hi) σ H Q) : tSl (rSli K) (tO Ph K W a) (tOpt Ph K W lo) (tOpt Ph K W hi) σ H Q := by
  obtain ⟨P0, env, r, h⟩ := h
  unfold ev at h
  refine tO_of r (post_bind.mp h) fun oa env1 q x H1 a1 ra => ?_
  refine tOpt_of a1.re ((post_bind.mp q).imp (fun _ z => z) fun _ _ z => z.after a1) fun l env2 q H2 a2 => ?_
  refine tOpt_of a2.re ((post_bind.mp q).imp (fun _ z => z) fun _ _ z => z.after (a1.trans a2)) fun u env3 q H3 a3 => ?_
  have a13 := (a1.trans a2).trans a3
  obtain ⟨dx, ex, q⟩ := post_opt.mp (post_bind.mp q)
  obtain ⟨dz, ez, q⟩ := post_opt.mp (post_bind.mp q)
  exact ⟨Stb P0 env3 σ, dx, dz, fun p n => a3.re.stbNew n, a3.re.deref ex (a3.rop a2.re (a2.rop a1.re ra)), ez, fun v H4 o f => q v H4 (a13.out o) o.rp (Frs.out r a13 (nd_of (sliceF_nd ez)) f)⟩
theorem ent_rev (h : tG Ph K W (.rev a) σ H Q) : tRevA K (tO Ph K W a) σ H Q := by
  obtain ⟨P0, env, r, h⟩ := h
  unfold ev at h
  refine tO_of r (post_bind.mp h) fun oa env1 q x H1 a1 ra => ?_
  obtain ⟨dx, ex, q⟩ := post_opt.mp (post_bind.mp q)
  have rx := a1.re.deref ex ra
  cases dx with
  | list ds =>
    obtain ⟨l, xs, rfl, hl, rs⟩ := rx.list
    refine ⟨l, xs, rfl, .inl ⟨hl, fun p n => ?_⟩⟩
    have o := out_lst (P := Stb P0 env1 σ) (fun p n => a1.re.stbNew n) n rs.reverse
    exact q _ _ (a1.out o) o.rp (Frs.out r a1 (fun kvs z => by cases z) (fresh_lst n rs.reverse))
  | tuple ds =>
    obtain ⟨l, xs, rfl, hl, rs⟩ := rx.tuple
    refine ⟨l, xs, rfl, .inr ⟨hl, fun p ob n d => ?_⟩⟩
    have o := out_tup (P := Stb P0 env1 σ) n d rs.reverse
    exact q _ _ (a1.out o) o.rp (Frs.out r a1 (fun kvs z => by cases z) (fun _ e => by cases e))
  | _ => exact q.elim
theorem ent_isi {t : Ty} (h : tE Ph K W (.isi a t) σ H Q) : tO Ph K W a σ H fun x H1 => ∃ (P : Pa) (d : D), RW K H1 P x d ∧ Q (.bl (isF t d)) H1 := by
  obtain ⟨P0, env, r, h⟩ := h
  unfold ev at h
  refine tO_of r (post_bind.mp h) fun oa env1 q x H1 a1 ra => ?_
  obtain ⟨dx, ex, q⟩ := post_opt.mp (post_bind.mp q)
  exact ⟨Stb P0 env1 σ, dx, a1.re.deref ex ra, q _ H1 a1 (.bl _)⟩
end
end PV
set_option Elab.async false
set_option linter.all false
set_option maxRecDepth 100000
set_option maxHeartbeats 2000000
/-! PV, part G: calls of defs. -/
namespace PV
open PySem PySem.Spec PyProof.Rows L2
variable [Wd]
section
variable {K : PySem.W.Frag} {H H' : Hp} {P0 : Pa} {env : Fram} {σ : L2.St}
/-- the own list of slot i has been changed, all else stands -/
theorem RE.change2 (r : RE K P0 env σ H) {i : Nat} {d d' : D} {a : Addr} (hi : env[i]? = some (.own d)) (hs : σ[i]? = some (some (.ref a))) (k : ∀ b o, b ≠ a → H b = some o → H' b = some o) (tr : ∀ b, H' b = none → H b = none)
    (q : ROwn K H' (Stb P0 env σ) a d') : Aft K P0 env σ H (env.set i (.own d')) H' := by
  have hl : i < env.length := (List.getElem?_eq_some_iff.mp hi).1
  have own : ∀ b, OwnA (env.set i (.own d')) σ b ↔ OwnA env σ b := fun b => by
    constructor
    · rintro ⟨j, e, h1, h2⟩
      by_cases hj : i = j
      · subst hj
        exact ⟨i, d, hi, h2⟩
      · rw [List.getElem?_set_ne hj] at h1
        exact ⟨j, e, h1, h2⟩
    · rintro ⟨j, e, h1, h2⟩
      by_cases hj : i = j
      · subst hj
        exact ⟨i, _, List.getElem?_set_self hl, h2⟩
      · exact ⟨j, e, by rw [List.getElem?_set_ne hj]; exact h1, h2⟩
  have m : ∀ b, Stb P0 env σ b → Stb P0 (env.set i (.own d')) σ b := fun b z => ⟨z.1, fun w => z.2 ((own b).mp w)⟩
  have ko : KeepO env σ H H' := fun b o e n => k b o (by
    rintro rfl
    exact n ⟨i, d, hi, hs⟩) e
  have kp := ko.keep r
  refine ⟨⟨by simp [r.len], fun j e h => ?_, fun j e h => ?_, fun j k e f b h1 h2 h3 h4 => ?_, fun b h => r.new b (tr b h), fun j e b h0 h1 h2 => ?_⟩, ko, fun b => (own b).mp, tr⟩
  · by_cases hj : i = j
    · subst hj
      rw [List.getElem?_set_self hl] at h
      cases h
    · rw [List.getElem?_set_ne hj] at h
      obtain ⟨w, h1, h2⟩ := r.val j e h
      exact ⟨w, h1, h2.keep kp m⟩
  · by_cases hj : i = j
    · subst hj
      rw [List.getElem?_set_self hl] at h
      cases h
      exact ⟨a, hs, q.mono m⟩
    · rw [List.getElem?_set_ne hj] at h
      obtain ⟨b, h1, h2⟩ := r.own j e h
      have hb : b ≠ a := by
        rintro rfl
        exact hj (r.inj i j d e b hi h hs h1)
      exact ⟨b, h1, h2.keep (fun xs z _ => k b _ hb z) kp m⟩
  · have old : ∀ {j : Nat} {e : D}, (env.set i (.own d'))[j]? = some (.own e) → ∃ e', env[j]? = some (.own e') := fun {j e} h => by
      by_cases hj : i = j
      · subst hj
        exact ⟨d, hi⟩
      · rw [List.getElem?_set_ne hj] at h
        exact ⟨e, h⟩
    obtain ⟨e', q1⟩ := old h1
    obtain ⟨f', q2⟩ := old h2
    exact r.inj j k e' f' b q1 q2 h3 h4
  · by_cases hj : i = j
    · subst hj
      exact r.pos i d b h0 hi h2
    · rw [List.getElem?_set_ne hj] at h1
      exact r.pos j e b h0 h1 h2
end
/-! ### promises -/
/-- the arguments: values; or the first one a list that the def may change -/
inductive ArgOk (K : PySem.W.Frag) (H : Hp) (P : Pa) : Bool → List V → List D → Prop
  | val {vs : List V} {ds : List D} : RPs K H P vs ds → ArgOk K H P false vs ds
  | own {a : Addr} {vs : List V} {d : D} {ds : List D} : ¬ P a → ROwn K H P a d → RPs K H P vs ds → ArgOk K H P true (.ref a :: vs) (d :: ds)
/-- what a call hands back: its value, a new list where it is told so, the first argument as it stands -/
structure RetOk (K : PySem.W.Frag) (P : Pa) (br fresh : Bool) (vs : List V) (H : Hp) (v : V) (H' : Hp) (p : D × D) : Prop where
  keep : ∀ a o, H a = some o → (br = true → vs.head? ≠ some (.ref a)) → H' a = some o
  tr : ∀ a, H' a = none → H a = none
  val : fresh = false → RP K H' P v p.1
  new : fresh = true → ∃ b, v = .ref b ∧ H b = none ∧ ROwn K H' (fun a => P a ∧ a ≠ b) b p.1
  own : br = true → ∀ a, vs.head? = some (.ref a) → ROwn K H' P a p.2
/-- a def's promise: it does what the evaluator says -/
def spF (Ph : CallF) (K : PySem.W.Frag) (fn : Def) : Sp := fun vs H Q _ => ∃ (P : Pa) (ds : List D), vs.length = fn.params ∧ (∀ b, H b = none → P b) ∧ ArgOk K H P fn.br vs ds ∧
  Post (Ph fn.name ds) (fun p => ∀ v H', RetOk K P fn.br fn.fresh vs H v H' p → Q v H') fun _ _ => False
structure FnG (P : Program) (w : World) (K : PySem.W.Frag) (mg : Str → Option Value) (base : Heap) (k : Nat) (f : Addr) (fd : FuncData) (ps : List Str) (sp : Sp) : Prop where
  len : ∀ vs H Q E, sp vs H Q E → vs.length = ps.length
  run : ∀ (A : Around) (outer : List PySem.Env) (s : Shared) (H : Hp) (args : Args) (us : List Value) (vs : List V) (Q : VK) (E : XK), Room k A → A.guards = some [] → Env0 P w K mg base A outer s H →
    BindsTo s fd args (ps.zip us) → Vals vs us → sp vs H Q E → codeAny (model P w) A (.call (.ref f) args) (CR CX0 outer P w H s Q E) s
section
variable {X : Cx} {k : Nat} {f : Addr} {fd : FuncData} {ps : List Str} {sp : Sp} {E : XK} {x : Str} {p pos : Pos} {e : Expr} {es : List Expr} {t : TA}
theorem runG {pins : List (Addr × Obj)} {σ : L2.St} {H : Hp} {s : Shared} {Q : VK} {us : List Value} {vs : List V} (F : FnG X.prog X.w X.K X.mg X.base k f fd ps sp) (hr : Room k X.A) (hg : X.A.guards = some []) (hb : Binds X.K fd ps [])
    (I : Inv X pins σ H s) (r : Vals vs us) (h : sp vs H Q E) : wpAny (model X.prog X.w) X.A (call (.ref f) us) (EP X pins σ Q) X.xe s := by
  have hl : (us ++ []).length = ps.length := by
    rw [List.append_nil, ← r.length]
    exact F.len _ _ _ _ h
  have b := hb s us I.kIn hl
  rw [List.append_nil] at b
  refine wpAny_call (codeAny_mono (F.run X.A X.stack s H ⟨us, []⟩ us vs Q E hr hg I.env0 b r h) fun r s' hq => ?_)
  cases r with
  | error e => exact False.elim hq
  | ok fl => cases fl with
    | ret u => exact I.after hq
    | _ => exact False.elim hq
theorem pe_callG (F : FnG X.prog X.w X.K X.mg X.base k f fd ps sp) (hr : Room k X.A) (hgd : X.A.guards = some []) (hg : Gl X x) (hm : X.mg x = some (.ref f)) (hk : PySem.W.keepIn X.K (.ref f) = true) (hb : Binds X.K fd ps [])
    (ha : PA X (e :: es) t) (hdb : (x == ("__debug__" : Str)) = false) (he : starEach (e :: es) X.env = (false, eval e X.env) :: starEach es X.env) (hpl : (backTo pos (starEach es X.env)).any (·.1) = false) :
    PE X (.Call (.Name x p) (e :: es) [] pos) (tCall sp [] E t) := by
  refine ⟨fun pins s σ H Q I h => wpAny_Call_Name_kw (ld_glob I hg hm ?_ hdb)⟩
  refine PySem.W.callWith_K (h₀ := X.base) I.ok.mod.kin hk (thn (ha.run pos pins s σ H _ I h) fun us s1 ⟨vs, H1, I1, r, q⟩ => ⟨I1.kIn, ?_⟩) he hpl
  have q2 : sp (vs ++ []) H1 Q E := q
  rw [List.append_nil] at q2
  exact runG F hr hgd hb I1 r q2
end
/-- a def's body keeps its promise -/
theorem fnG_of {P : Program} {w : World} {K : PySem.W.Frag} {mg : Str → Option Value} {base : Heap} {k : Nat} {f : Addr} {name qual : Str} {params : Arguments} {body : List Stmt} {scope : Scope} {dV kV doc pm cdv ct oc : Value} {an od : Option Addr}
    {osl : Array (Option Value)} {N ps : List Str} {sp : Sp} (lk : K.lookup f = some ⟨oc, od, .func (PySem.W.fnOf name qual params body scope dV kV doc pm an cdv ct), osl⟩) (hcd : PySem.W.codeIn K cdv qual = true) (S : FnScope N ps scope)
    (len : ∀ vs H Q E, sp vs H Q E → vs.length = ps.length)
    (hbody : ∀ (A : Around) (outer : List PySem.Env) (s : Shared) (H : Hp) (vs : List V) (Q : VK) (E : XK), Room k (A.deeper (envOfC qual scope s.heap.objs.size f cdv)) → (A.deeper (envOfC qual scope s.heap.objs.size f cdv)).guards = some [] → sp vs H Q E →
      ∃ t, PSs (cxOf CX0 P w K mg base N qual scope f cdv A outer s H E) body t ∧ t { nx := fun _ H' => Q .non H', rt := Q } (start N vs) H) :
    FnG P w K mg base (k + 1) f (PySem.W.fnOf name qual params body scope dV kV doc pm an cdv ct) ps sp := by
  constructor
  · exact len
  intro A outer s H args us vs Q E room guards e0 bnd vals wish
  have count := len _ _ _ _ wish
  have inK : K.In s.heap := e0.mod.kin.keeps (fun b o z => (e0.bs b o z).1)
  have free : s.heap.NoLimit := e0.mod.nolimit.keeps (fun b o z => (e0.bs b o z).1)
  have kinds : ∀ y ∈ ps.zip us, scope.names.lookup y.1 = some .local ∨ (scope.names.lookup y.1 = some .cell ∧ ((cellsFrom (s.heap.objs.size + 1) scope.names []).lookup y.1).isSome = true) := by
    rintro ⟨n, v⟩ hy
    have hn := S.par n (List.of_mem_zip hy).1
    exact hn.imp_right fun q => ⟨q, PySem.W.cellsFrom_some _ _ _ (.inl q)⟩
  refine codeAny_call_function room.depth (inK _ _ lk) rfl S.co S.gen rfl (PySem.W.codeRec_of inK hcd) (bnd _ _ _ _ ?_)
  refine wpAny_newFunctionEnv_cells S.kind kinds (fun env ee s1 made => ?_)
  subst ee
  refine ⟨free.keeps made.toInCall.keep, codeAny_func ?_⟩
  obtain ⟨t, body_ok, holds⟩ := hbody A outer s H vs Q E (room.deeper _) guards wish
  have I0 : Inv (cxOf CX0 P w K mg base N qual scope f cdv A outer s H E) [] (start N vs) H s1 := inv_start S room.hd e0 count vals made
  refine wpAny_mono (body_ok.run [] s1 (start N vs) H _ I0 holds) (fun fl s' done => ?_) (fun e s' z => z)
  cases fl with
  | ret u =>
    obtain ⟨v, σ', H', J, rv, q⟩ := done
    exact ⟨v, H', J.os, J.bare, J.base, J.hok, rv, q⟩
  | next =>
    obtain ⟨σ', H', J, q⟩ := done
    exact ⟨V.non, H', J.os, J.bare, J.base, J.hok, rfl, q⟩
  | brk =>
    obtain ⟨_, _, _, q⟩ := done
    exact q.elim
  | cont =>
    obtain ⟨_, _, _, q⟩ := done
    exact q.elim
/-! ### what a call asks -/
section
variable {K : PySem.W.Frag} {W : WZ} {Ph : CallF} {σ : L2.St} {H : Hp} {Q : VK} {es : Exs} {E : XK}
theorem RWs.loose {P : Pa} {H : Hp} {P' : Pa} (h1 : ∀ a, P a → P' a) (h2 : ∀ a o, H a = some o → tupO o = false → P' a) : ∀ {vs : List V} {ds : List D}, RWs K H P vs ds → RPs K H P' vs ds
  | _, _, .nil => .nil
  | _, _, .cons (.val q) r => .cons (q.mono h1) (RWs.loose h1 h2 r)
  | _, _, .cons (.own (.lst h q)) r => .cons (.lst (h2 _ _ h rfl) (.inl h) (q.mono h1)) (RWs.loose h1 h2 r)
  | _, _, .cons (.own (.dct h q)) r => .cons (.dct (h2 _ _ h rfl) (.inl h) (q.mono h1)) (RWs.loose h1 h2 r)
theorem ROps.vals {P : Pa} {H : Hp} {env : Fram} : ∀ {vs : List V} {os : List Opd} {ds : List D}, anySlot os = false → derefs env os = some ds → ROps K H P σ vs os → RPs K H P vs ds
  | _, [], ds, _, h, .nil => by
    cases h
    exact .nil
  | _, .val d :: os, ds, n, h, .cons q r => by
    unfold derefs at h
    have h' : ((derefs env os).map (d :: ·)) = some ds := h
    obtain ⟨es, e1, rfl⟩ := Option.map_eq_some_iff.mp h'
    exact .cons q (ROps.vals (show anySlot os = false from n) e1 r)
  | _, .slot i :: os, ds, n, h, .cons q r => by cases n
theorem tCall_nil {sp : Sp} {t : TA} (h : t σ H fun vs H1 => sp vs H1 Q E) : tCall sp [] E t σ H Q := by
  unfold tCall
  have e : (fun vs H1 => sp (vs ++ []) H1 Q E) = fun vs H1 => sp vs H1 Q E := by
    funext vs H1
    rw [List.append_nil]
  rw [e]
  exact h
theorem evp_len : ∀ {es : Exs} {env : Fram} {p : List Opd × Fram}, evp Ph es env = .ok p → p.1.length = exsLen es
  | .nil, env, p, h => by
    unfold evp at h
    cases h
    rfl
  | .cons e es, env, p, h => by
    unfold evp at h
    cases h1 : opd e env (ev Ph e env) with
    | ok q =>
      rw [h1] at h
      cases h2 : evp Ph es q.2 with
      | ok q2 =>
        simp only [bind_ok, h2] at h
        cases h
        simp [exsLen, evp_len h2]
      | exc z e => simp [h2] at h
      | bad => simp [h2] at h
    | exc z e => simp [h1] at h
    | bad => simp [h1] at h
theorem ROps.length {P : Pa} {H : Hp} : ∀ {vs : List V} {os : List Opd}, ROps K H P σ vs os → vs.length = os.length
  | _, _, .nil => rfl
  | _, _, .cons _ r => by simp [ROps.length r]
/-- behind a call that may change the def's own first list, or none -/
theorem RetOk.aft {P : Pa} {P0 : Pa} {env : Fram} {fresh : Bool} {vs : List V} {v : V} {H' : Hp} {p : D × D} (r : RE K P0 env σ H) (o : RetOk K P false fresh vs H v H' p) : Aft K P0 env σ H env H' :=
  Aft.grow r fun a u e => o.keep a u e (fun z => by cases z)
/-- what is handed to a def that changes none of its arguments -/
theorem callE_sp {fn : Def} (hW : ∀ z P e σ H, ¬ W z P e σ H) (hb : fn.br = false) (hf : fn.fresh = false) {P0 : Pa} {env env1 : Fram} {H1 : Hp} {os : List Opd} {vs : List V} (hl : vs.length = fn.params) (a1 : Aft K P0 env σ H env1 H1) (ra : ROps K H1 (Stb P0 env1 σ) σ vs os)
    (q : Post (callE Ph fn.name false os env1) (fun p => ∀ v H', Aft K P0 env σ H p.2 H' → RP K H' (Stb P0 p.2 σ) v p.1 → Q v H') (XP K W P0 env σ H)) : spF Ph K fn vs H1 Q E := by
  unfold callE at q
  obtain ⟨ds, ed, q⟩ := post_opt.mp (post_bind.mp q)
  have q : Post (match Ph fn.name ds with
    | .ok (d, _) => if (anySlot os && !flat d) = true then .bad else .ok (d, env1)
    | .exc x _ => .exc x env1
    | .bad => .bad) (fun p => ∀ v H', Aft K P0 env σ H p.2 H' → RP K H' (Stb P0 p.2 σ) v p.1 → Q v H') (XP K W P0 env σ H) := q
  have done : ∀ (P : Pa), (∀ b, H1 b = none → P b) → RPs K H1 P vs ds → (∀ (v : V) (H' : Hp) (d : D), (anySlot os = true → flat d = true) → RP K H' P v d → RP K H' (Stb P0 env1 σ) v d) → spF Ph K fn vs H1 Q E := fun P new rs back => by
    refine ⟨P, ds, hl, new, ?_, ?_⟩
    · rw [hb]
      exact .val rs
    · cases e : Ph fn.name ds with
      | ok p =>
        rw [e] at q
        obtain ⟨d, d0⟩ := p
        intro v H' o
        rw [hb, hf] at o
        have q : Post (if (anySlot os && !flat d) = true then .bad else .ok (d, env1)) _ _ := q
        split at q
        · exact q.elim
        · rename_i hc
          exact q v H' (a1.trans (o.aft a1.re)) (back v H' d (fun z => by
            rw [z, Bool.true_and] at hc
            simpa using hc) (o.val rfl))
      | exc z e' =>
        rw [e] at q
        exact (hW _ _ _ _ _ (q H1 a1)).elim
      | bad =>
        rw [e] at q
        exact q.elim
  cases hs : anySlot os with
  | false => exact done _ (fun p n => a1.re.stbNew n) (ra.vals hs ed) fun v H' d _ z => z
  | true =>
    refine done (fun a => Stb P0 env1 σ a ∨ ∃ o, H1 a = some o ∧ tupO o = false) (fun p n => .inl (a1.re.stbNew n)) ((a1.re.derefs ed ra).loose (fun _ z => .inl z) fun _ o z t => .inr ⟨o, z, t⟩) fun v H' d hd z => z.flat (hd hs)
/-- a call that changes none of its arguments -/
theorem ent_call {fn : Def} (hW : ∀ z P e σ H, ¬ W z P e σ H) (hb : fn.br = false) (hf : fn.fresh = false) (hn : exsLen es = fn.params) (h : tE Ph K W (.call fn.name false es) σ H Q) : tCall (spF Ph K fn) [] E (tOs Ph K W es) σ H Q := by
  obtain ⟨P0, env, r, h⟩ := h
  unfold ev at h
  refine tCall_nil (tOs_of r (post_ok (post_bind.mp h)) fun os env1 ⟨eo, q⟩ vs H1 a1 ra => ?_)
  have hl : vs.length = fn.params := by
    rw [ra.length, ← hn]
    exact evp_len eo
  exact callE_sp hW hb hf hl a1 ra q
/-- how a call with keywords binds -/
def KwB (K : PySem.W.Frag) (fd : FuncData) (ps : List Str) (n : Nat) (ks : List Str) (perm : List Nat) : Prop :=
  ∀ (s : Shared) (us ws : List Value), K.In s.heap → us.length = n → ws.length = ks.length → BindsTo s fd ⟨us, ks.zip ws⟩ (ps.zip (us ++ permV perm ws))
def tCallX (sp : Sp) (n m : Nat) (perm : List Nat) (E : XK) (t tk : TA) : TE := fun σ H Q => t σ H fun vs H1 => tk σ H1 fun zs H2 => vs.length = n ∧ zs.length = m ∧ sp (vs ++ permV perm zs) H2 Q E
theorem ROps.get {P : Pa} {H : Hp} : ∀ {vs : List V} {os : List Opd}, ROps K H P σ vs os → ∀ i : Nat, (vs[i]? = none ∧ os[i]? = none) ∨ ∃ v o, vs[i]? = some v ∧ os[i]? = some o ∧ ROp K H P σ v o
  | _, _, .nil, i => .inl ⟨by simp, by simp⟩
  | _, _, .cons q r, 0 => .inr ⟨_, _, rfl, rfl, q⟩
  | _, _, .cons q r, i + 1 => by
    rcases ROps.get r i with h | ⟨v, o, h1, h2, h3⟩
    · exact .inl (by simpa using h)
    · exact .inr ⟨v, o, by simpa using h1, by simpa using h2, h3⟩
theorem ROps.perm {P : Pa} {H : Hp} {vs : List V} {os : List Opd} (r : ROps K H P σ vs os) : ∀ perm : List Nat, ROps K H P σ (permV perm vs) (permV perm os)
  | [] => .nil
  | i :: is => by
    unfold permV
    rw [List.filterMap_cons, List.filterMap_cons]
    rcases r.get i with ⟨h1, h2⟩ | ⟨v, o, h1, h2, h3⟩
    · rw [h1, h2]
      exact r.perm is
    · rw [h1, h2]
      exact .cons h3 (r.perm is)
theorem ROps.append {P : Pa} {H : Hp} : ∀ {vs ws : List V} {os ps : List Opd}, ROps K H P σ vs os → ROps K H P σ ws ps → ROps K H P σ (vs ++ ws) (os ++ ps)
  | _, _, _, _, .nil, s => s
  | _, _, _, _, .cons q r, s => .cons q (r.append s)
theorem vals_get : ∀ {vs : List V} {us : List Value}, Vals vs us → ∀ i : Nat, (vs[i]? = none ∧ us[i]? = none) ∨ ∃ v u, vs[i]? = some v ∧ us[i]? = some u ∧ RelV v u
  | _, _, .nil, i => .inl ⟨by simp, by simp⟩
  | _, _, .cons q r, 0 => .inr ⟨_, _, rfl, rfl, q⟩
  | _, _, .cons q r, i + 1 => by
    rcases vals_get r i with h | ⟨v, o, h1, h2, h3⟩
    · exact .inl (by simpa using h)
    · exact .inr ⟨v, o, by simpa using h1, by simpa using h2, h3⟩
theorem vals_perm {vs : List V} {us : List Value} (r : Vals vs us) : ∀ perm : List Nat, Vals (permV perm vs) (permV perm us)
  | [] => .nil
  | i :: is => by
    unfold permV
    rw [List.filterMap_cons, List.filterMap_cons]
    rcases vals_get r i with ⟨h1, h2⟩ | ⟨v, o, h1, h2, h3⟩
    · rw [h1, h2]
      exact vals_perm r is
    · rw [h1, h2]
      exact .cons h3 (vals_perm r is)
/-- a call with keywords -/
theorem ent_callK {fn : Def} {kes : Exs} {ks : List Str} {perm : List Nat} {br : Bool} {n : Nat} (hW : ∀ z P e σ H, ¬ W z P e σ H) (hb : fn.br = false) (hf : fn.fresh = false) (hn : exsLen es = n) (hk : exsLen kes = ks.length) (hp : n + perm.length = fn.params) (hi : ∀ i ∈ perm, i < ks.length)
    (h : tE Ph K W (.callK fn.name br es kes ks perm) σ H Q) : tCallX (spF Ph K fn) n ks.length perm E (tOs Ph K W es) (tOs Ph K W kes) σ H Q := by
  obtain ⟨P0, env, r, h⟩ := h
  unfold ev at h
  refine tOs_of r (post_ok (post_bind.mp h)) fun os env1 ⟨eo, q⟩ vs H1 a1 ra => ?_
  refine tOs_of a1.re (post_ok ((post_bind.mp q).imp (fun _ z => z) fun _ _ z => z.after a1)) fun os2 env2 ⟨eo2, q⟩ zs H2 a2 rb => ?_
  have l1 : vs.length = n := by
    rw [ra.length, ← hn]
    exact evp_len eo
  have l2 : zs.length = ks.length := by
    rw [rb.length, ← hk]
    exact evp_len eo2
  have l3 : ∀ is : List Nat, (∀ i ∈ is, i < ks.length) → (permV is zs).length = is.length := fun is => by
    induction is with
    | nil => exact fun _ => rfl
    | cons i is ih =>
      intro h
      have hi : i < zs.length := by
        rw [l2]
        exact h i (by simp)
      unfold permV
      rw [List.filterMap_cons, List.getElem?_eq_getElem hi]
      have := ih fun j hj => h j (by simp [hj])
      unfold permV at this
      simp [this]
  refine ⟨l1, l2, callE_sp hW hb hf (by rw [List.length_append, l1, l3 perm hi, hp]) (a1.trans a2) ((a2.rops a1.re ra).append (rb.perm perm)) q⟩
/-- a call that hands out a new list -/
theorem ent_callF {fn : Def} (hW : ∀ z P e σ H, ¬ W z P e σ H) (hb : fn.br = false) (hf : fn.fresh = true) (hn : exsLen es = fn.params) {R : V → Hp → Prop} {P0 : Pa} {env : Fram} (r : RE K P0 env σ H) {k : D × Fram → Prop}
    (h : Post ((evs Ph es env).bind fun p => match Ph fn.name p.1 with
      | .ok (j, _) => .ok (j, p.2)
      | _ => .bad) k (XP K W P0 env σ H))
    (hk : ∀ j env1, k (j, env1) → ∀ H1 b H2, Aft K P0 env σ H env1 H1 → H1 b = none → (∀ a o, H1 a = some o → H2 a = some o) → ROwn K H2 (fun a => Stb P0 env1 σ a ∧ a ≠ b) b j → R (.ref b) H2) :
    tCall (spF Ph K fn) [] E (tEs Ph K W es) σ H R := by
  refine tCall_nil (tEs_of r (post_ok (post_bind.mp h)) fun ds env1 ⟨eo, q⟩ vs H1 a1 ra => ?_)
  have hl : vs.length = fn.params := by
    rw [ra.length, ← hn]
    exact evs_len eo
  have q : Post (match Ph fn.name ds with
      | .ok (j, _) => .ok (j, env1)
      | _ => .bad) k (XP K W P0 env σ H) := q
  refine ⟨Stb P0 env1 σ, ds, hl, fun p n => a1.re.stbNew n, ?_, ?_⟩
  · rw [hb]
    exact .val ra
  · cases e : Ph fn.name ds with
    | ok p =>
      rw [e] at q
      obtain ⟨d, d0⟩ := p
      intro v H' o
      rw [hb, hf] at o
      obtain ⟨b, rfl, n, rb⟩ := o.new rfl
      exact hk d env1 q H1 b H' a1 n (fun a u z => o.keep a u z (fun z => by cases z)) rb
    | exc z e' =>
      rw [e] at q
      exact q.elim
    | bad =>
      rw [e] at q
      exact q.elim
/-- f(g(..)): g hands out a new list, that f changes -/
theorem ent_callJ {f g : Def} (hW : ∀ z P e σ H, ¬ W z P e σ H) (hgb : g.br = false) (hgf : g.fresh = true) (hgn : exsLen es = g.params) (hfb : f.br = true) (hff : f.fresh = false) (hfn : f.params = 1)
    (h : tE Ph K W (.callJ f.name g.name es) σ H Q) : tCall (spF Ph K f) [] E (tCons (tCall (spF Ph K g) [] E (tEs Ph K W es)) tNil) σ H Q := by
  obtain ⟨P0, env, r, h⟩ := h
  unfold ev at h
  refine tCall_nil ?_
  have h2 : Post ((evs Ph es env).bind fun p => match Ph g.name p.1 with
      | .ok (j, _) => .ok (j, p.2)
      | _ => .bad) (fun p => ∃ d d0, Ph f.name [p.1] = .ok (d, d0) ∧ ∀ v H', Aft K P0 env σ H p.2 H' → RP K H' (Stb P0 p.2 σ) v d → Q v H') (XP K W P0 env σ H) := by
    refine post_bind.mpr ((post_bind.mp h).imp (fun p z => ?_) fun _ _ z => z)
    cases e : Ph g.name p.1 with
    | ok j =>
      rw [e] at z
      obtain ⟨j, j0⟩ := j
      have z : Post (match Ph f.name [j] with
        | .ok (d, _) => .ok (d, p.2)
        | _ => .bad) _ _ := z
      cases e2 : Ph f.name [j] with
      | ok d =>
        rw [e2] at z
        obtain ⟨d, d0⟩ := d
        exact ⟨d, d0, e2, z⟩
      | exc _ _ =>
        rw [e2] at z
        exact z.elim
      | bad =>
        rw [e2] at z
        exact z.elim
    | exc _ _ =>
      rw [e] at z
      exact z.elim
    | bad =>
      rw [e] at z
      exact z.elim
  refine ent_callF (E := E) hW hgb hgf hgn r h2 fun j env1 q H1 b H2 a1 n grow rb => ?_
  obtain ⟨d, d0, e, q⟩ := q
  obtain ⟨xs, there, _⟩ := rb.there
  refine ⟨fun a => Stb P0 env1 σ a ∧ a ≠ b, [j], by rw [hfn]; rfl, fun c nc => ?_, ?_, ?_⟩
  · have nc1 : H1 c = none := none_grow grow c nc
    refine ⟨a1.re.stbNew nc1, ?_⟩
    rintro rfl
    rw [there] at nc
    cases nc
  · rw [hfb]
    exact .own (fun z => z.2 rfl) rb .nil
  · rw [e]
    intro v H3 o
    rw [hfb, hff] at o
    have g3 : ∀ a u, H1 a = some u → H3 a = some u := fun a u z => o.keep a u (grow a u z) fun _ w => by
      cases w
      rw [n] at z
      cases z
    exact q v H3 (a1.trans (Aft.grow a1.re g3)) ((o.val rfl).mono fun _ z => z.1)
/-- f(jar, ..): the def's own first list is changed -/
theorem ent_callB {fn : Def} (hW : ∀ z P e σ H, ¬ W z P e σ H) (hb : fn.br = true) (hf : fn.fresh = false) (hn : exsLen es = fn.params) (h : tE Ph K W (.call fn.name true es) σ H Q) : tCall (spF Ph K fn) [] E (tOs Ph K W es) σ H Q := by
  obtain ⟨P0, env, r, h⟩ := h
  unfold ev at h
  refine tCall_nil (tOs_of r (post_ok (post_bind.mp h)) fun os env1 ⟨eo, q⟩ vs H1 a1 ra => ?_)
  have hl : vs.length = fn.params := by
    rw [ra.length, ← hn]
    exact evp_len eo
  unfold callE at q
  obtain ⟨ds, ed, q⟩ := post_opt.mp (post_bind.mp q)
  cases os with
  | nil => exact q.elim
  | cons o0 orr =>
    obtain ⟨v0, vr, rfl, r0, rr⟩ : ∃ v0 vr, vs = v0 :: vr ∧ ROp K H1 (Stb P0 env1 σ) σ v0 o0 ∧ ROps K H1 (Stb P0 env1 σ) σ vr orr := by
      cases ra with
      | cons r0 rr => exact ⟨_, _, rfl, r0, rr⟩
    cases o0 with
    | val d => exact q.elim
    | slot i =>
      have q2 : Post (if (decide (i = 0) && isOwn env1 0 && !anySlot orr) = true then (match Ph fn.name ds with
          | .ok (d, d0) => .ok (d, env1.set 0 (.own d0))
          | _ => .bad) else .bad) (fun p => ∀ v H', Aft K P0 env σ H p.2 H' → RP K H' (Stb P0 p.2 σ) v p.1 → Q v H') (XP K W P0 env σ H) := q
      by_cases hc : (decide (i = 0) && isOwn env1 0 && !anySlot orr) = true
      · rw [if_pos hc] at q2
        simp only [Bool.and_eq_true, decide_eq_true_eq, Bool.not_eq_true'] at hc
        obtain ⟨⟨rfl, ho⟩, hr⟩ := hc
        have rs : σ[0]? = some (some v0) := r0
        obtain ⟨d1, e1⟩ : ∃ d, env1[0]? = some (.own d) := by
          unfold isOwn at ho
          split at ho
          · rename_i d e
            exact ⟨d, e⟩
          · cases ho
        obtain ⟨a0, e2, ro⟩ := a1.re.own 0 d1 e1
        rw [rs] at e2
        cases e2
        -- the operands
        unfold derefs at ed
        have el : deref env1 (.slot 0) = some d1 := by
          show look env1 0 = some d1
          unfold look
          rw [e1]
        rw [el] at ed
        have ed' : ((derefs env1 orr).map (d1 :: ·)) = some ds := ed
        obtain ⟨dr, e3, rfl⟩ := Option.map_eq_some_iff.mp ed'
        have rest := rr.vals hr e3
        have na : ¬ Stb P0 env1 σ a0 := fun z => z.2 ⟨0, d1, e1, rs⟩
        refine ⟨Stb P0 env1 σ, d1 :: dr, hl, fun p n => a1.re.stbNew n, ?_, ?_⟩
        · rw [hb]
          exact .own na ro rest
        · cases e : Ph fn.name (d1 :: dr) with
          | ok p =>
            rw [e] at q2
            obtain ⟨d, d0⟩ := p
            intro v H' o
            rw [hb, hf] at o
            have q : ∀ v H', Aft K P0 env σ H (env1.set 0 (.own d0)) H' → RP K H' (Stb P0 (env1.set 0 (.own d0)) σ) v d → Q v H' := q2
            have a2 := a1.re.change2 (d' := d0) e1 rs (fun b u hb' z => o.keep b u z fun _ w => hb' (by
              cases w
              rfl)) o.tr (o.own rfl a0 rfl)
            exact q v H' (a1.trans a2) ((o.val rfl).mono a2.stb)
          | exc z e' =>
            rw [e] at q2
            exact q2.elim
          | bad =>
            rw [e] at q2
            exact q2.elim
      · rw [if_neg hc] at q2
        exact q2.elim
end
end PV
set_option Elab.async false
set_option linter.all false
set_option maxRecDepth 100000
set_option maxHeartbeats 2000000
/-! PV, part Y: sorted(xs, key=rank, reverse=True), the rank of a tuple of numbers its sum and the tuple. -/
namespace PV
open PySem PySem.Spec PyProof.Rows L2
variable [Wd]
/-- a def at f that tells the rank -/
def RankOk (prog : Program) (w : World) (K : PySem.W.Frag) (mg : Str → Option Value) (base : Heap) (f : Addr) : Prop :=
  ∀ (A : Around) (outer : List PySem.Env) (s : Shared) (H : Hp) (P : Pa) (a : Addr) (xs : List V) (ds : List D) (ns : List Int), A.handled = none → A.depth < recursionLimit → Env0 prog w K mg base A outer s H → SqT K H a xs → RPs K H P xs ds → ints? ds = some ns →
    wpAny (model prog w) A (call (.ref f) [.ref a]) (PySem.W.KeyPure (rkey (.tuple ds)) s) (fun _ _ => False) s
theorem intsY : ∀ {ds : List D} {ns : List Int}, ints? ds = some ns → ds = ns.map .int
  | [], ns, h => by
    cases h
    rfl
  | .int i :: r, ns, h => by
    unfold ints? at h
    obtain ⟨ms, e, rfl⟩ := Option.map_eq_some_iff.mp h
    rw [intsY e]
    rfl
  | .none :: r, ns, h => by cases h
  | .bool _ :: r, ns, h => by cases h
  | .str _ :: r, ns, h => by cases h
  | .list _ :: r, ns, h => by cases h
  | .tuple _ :: r, ns, h => by cases h
  | .dict _ :: r, ns, h => by cases h
theorem reads_ints {h : Heap} : ∀ {its : List Value} {ns : List Int}, Vals (ns.map V.int) its → ReadsAll h its (ns.map .int) []
  | _, [], .nil => .nil
  | _, n :: ns, .cons r rs => by
    obtain ⟨t, rfl⟩ := r
    exact ReadsAll.cons (as := []) (bs := []) (.int _ _) (reads_ints rs)
section
variable {X : Cx} {pins : List (Addr × Obj)} {σ : L2.St} {H : Hp} {s : Shared}
/-- a name of the def, the state as it was -/
theorem ld_var {E Q : Value → Shared → Prop} {i : Nat} {x : Str} {pos : Pos} {v : V} (I : Inv X pins σ H s) (hN : X.N[i]? = some x) (hv : Vis X.env.scope x) (e : σ[i]? = some (some v)) (h : ∀ u, RelV v u → Q u s)
    (hd : (x == ("__debug__" : Str)) = false) (hcd : (x == ("__classdict__" : Str)) = false) : wpAny (model X.prog X.w) X.A (eval (.Name x pos) X.env) Q E s := by
  obtain ⟨m, hn, hl⟩ := I.loc
  obtain ⟨u, r, l⟩ := hl i x v hN e hv
  rcases l with ⟨hk, hm⟩ | ⟨hk, c, hc, hcell⟩
  · exact wpAny_Name (wpAny_loadName_local I.ok.kind hk hn hm (h u r)) hd
  · rcases hk with hk | hk
    · exact wpAny_Name (wpAny_loadName_cell I.ok.kind hk hc hcell (h u r)) hd
    · exact wpAny_Name (wpAny_loadName_free I.ok.kind hk hc hcell (h u r) hcd) hd
end
/-- the text of such a def -/
def rankT (x : Str) (sc : Scope) : List Stmt → Bool
  | [.Return (some (.Tuple [.Call (.Name f _) [.Name y _] [] _, .Name z _] _ _)) _] => decide (f = "sum") && decide (y = x) && decide (z = x) && (match sc.names.lookup f with
    | some .globalImplicit => true
    | _ => false) && (match sc.names.lookup x with
    | some .local => true
    | _ => false) && !(x == ("__debug__" : Str)) && !(x == ("__classdict__" : Str))
  | _ => false
theorem rankT_s {x : Str} {sc : Scope} {b : List Stmt} (h : rankT x sc b = true) : ∃ p1 p2 p3 p4 c p5 p6, b = [.Return (some (.Tuple [.Call (.Name "sum" p1) [.Name x p2] [] p3, .Name x p4] c p5)) p6] ∧ sc.names.lookup ("sum" : Str) = some .globalImplicit ∧ sc.names.lookup x = some .local ∧
    (x == ("__debug__" : Str)) = false ∧ (x == ("__classdict__" : Str)) = false := by
  unfold rankT at h
  split at h
  · simp only [Bool.and_eq_true, decide_eq_true_eq, Bool.not_eq_true'] at h
    obtain ⟨⟨⟨⟨⟨⟨rfl, rfl⟩, rfl⟩, h1⟩, h2⟩, h3⟩, h4⟩ := h
    split at h1
    · rename_i e1
      split at h2
      · rename_i e2
        exact ⟨_, _, _, _, _, _, _, rfl, e1, e2, h3, h4⟩
      · cases h2
    · cases h1
  · cases h
theorem rankOk_of {P : Program} {w : World} {K : PySem.W.Frag} {mg : Str → Option Value} {base : Heap} {f : Addr} {name qual : Str} {params : Arguments} {body : List Stmt} {scope : Scope} {dV kV doc pm cdv ct oc : Value} {an od : Option Addr}
    {osl : Array (Option Value)} {N : List Str} {x : Str} (lk : K.lookup f = some ⟨oc, od, .func (PySem.W.fnOf name qual params body scope dV kV doc pm an cdv ct), osl⟩) (hcd : PySem.W.codeIn K cdv qual = true) (S : FnScope N [x] scope)
    (ht : rankT x scope body = true) (hb : ∀ (s : Shared) (us : List Value), K.In s.heap → us.length = 1 → BindsTo s (PySem.W.fnOf name qual params body scope dV kV doc pm an cdv ct) ⟨us, []⟩ ([x].zip us)) (hm : mg "sum" = none) : RankOk P w K mg base f := by
  intro A outer s H Pp a xs ds ns hd0 dp0 e0 hs rs hi
  obtain ⟨p1, p2, p3, p4, c, p5, p6, rfl, g1, g2, d1, d2⟩ := rankT_s ht
  have inK : K.In s.heap := e0.mod.kin.keeps (fun b o z => (e0.bs b o z).1)
  have free : s.heap.NoLimit := e0.mod.nolimit.keeps (fun b o z => (e0.bs b o z).1)
  have kinds : ∀ y ∈ [x].zip [Value.ref a], scope.names.lookup y.1 = some .local ∨ (scope.names.lookup y.1 = some .cell ∧ ((cellsFrom (s.heap.objs.size + 1) scope.names []).lookup y.1).isSome = true) := by
    rintro ⟨n, v⟩ hy
    have hn := S.par n (List.of_mem_zip hy).1
    exact hn.imp_right fun q => ⟨q, PySem.W.cellsFrom_some _ _ _ (.inl q)⟩
  refine wpAny_call (codeAny_call_function dp0 (inK _ _ lk) rfl S.co S.gen rfl (PySem.W.codeRec_of inK hcd) (hb s [.ref a] inK rfl _ _ _ _ ?_))
  refine wpAny_newFunctionEnv_cells S.kind kinds (fun env ee s1 made => ?_)
  subst ee
  refine ⟨free.keeps made.toInCall.keep, codeAny_func ?_⟩
  have I0 : Inv (cxOf CX0 P w K mg base N qual scope f cdv A outer s H (fun _ _ _ => False)) [] (start N [.ref a]) H s1 := inv_start S hd0 e0 (by rfl) (.cons rfl .nil) made
  obtain ⟨h1, tk1, e1, hk1⟩ := made.done
  have e0N : N[0]? = some x := by
    have := congrArg List.length S.pre
    have h2 := S.pre
    cases N with
    | nil => cases h2
    | cons y ys =>
      simp at h2
      simp [h2]
  have eσ : (start N [V.ref a])[0]? = some (some (.ref a)) := rfl
  have vis : Vis scope x := .inl g2
  have E0 : PySem.Env := envOfC qual scope s.heap.objs.size f cdv
  refine wpAny_execs_cons (wpAny_Return_some (wpAny_Tuple_spliced ?_))
  show wpAny _ _ (spliced ((false, eval (.Call (.Name "sum" p1) [.Name x p2] [] p3) _) :: backTo p5 (starEach [.Name x p4] _))) _ _ _
  refine Calls.spliced_cons (wpAny_Call_Name_kw (ld_blt I0 g1 hm (by rfl) ?_))
  refine PyProof.Rows.callWith_builtin1 ?_ (by rfl) (by rfl)
  refine Calls.spliced_cons (ld_var I0 e0N vis eσ (fun u ru => ?_) d1 d2)
  cases ru
  refine Calls.spliced_nil ?_
  have en := intsY hi
  have ev := rs.ints hi
  subst ev
  obtain ⟨its, rv, tup, _⟩ := I0.tuple hs
  have tup' : s1.heap.IsTuple a its.toArray := tup
  refine sumT hd0 tup' rv.ints fun h' tk t' hk => ?_
  have I1 := I0.kept (t' := tk) hk
  show wpAny _ _ (spliced ((false, eval (.Name x p4) _) :: backTo p5 (starEach [] _))) _ _ _
  refine Calls.spliced_cons (ld_var I1 e0N vis eσ (fun u ru => ?_) d1 d2)
  cases ru
  refine Calls.spliced_nil ⟨by show 2 ≤ sizeLine; rw [sizeLine_eq]; omega, ?_⟩
  subst e1
  refine ⟨h'.push { cls := .type "tuple", data := .seq #[.int ns.sum t', .ref a] }, tk, rfl, fun b o z => Heap.get?_push_of_some _ (hk b o (hk1 b o z)), ?_⟩
  have er : rkey (.tuple ds) = .tuple [.int ns.sum, .tuple ds] := by
    show PyData.tuple [.int ((ints? ds).getD []).sum, .tuple ds] = _
    rw [hi]
    rfl
  rw [er]
  obtain ⟨o, ho, hc, n, hd⟩ := tup'
  refine Reads.tuple (Heap.get?_push_size _ rfl) rfl rfl ?_
  refine ReadsAll.cons (as := []) (bs := []) (.int _ _) (ReadsAll.cons (as := []) (bs := []) ?_ .nil)
  rw [en]
  exact Reads.tuple (Heap.get?_push_of_some _ (hk a o ho)) hc hd (by simpa using reads_ints rv)
/-! the call -/
section
variable {X : Cx} {K : PySem.W.Frag} {P : Pa} {H : Hp}
def rRank (K : PySem.W.Frag) (f : Addr) : List V → List V → Hp → VK → Prop := fun vs zs H Q => zs = [.ref f, .bl true] ∧ rBlt K .sortrank vs H Q
theorem rank_each {K : PySem.W.Frag} {ks : List D} (h : sortOk ks = true) : PySem.W.AllAlike ks ∧ PySem.W.Sortable ks ∧ (∀ d ∈ ks, d.depth ≤ 64) ∧ ks.length ≤ LINE := by
  unfold sortOk at h
  simp only [Bool.and_eq_true, Bool.or_eq_true, List.all_eq_true, decide_eq_true_eq] at h
  obtain ⟨⟨⟨al, dp⟩, ln⟩, so⟩ := h
  refine ⟨al, ?_, fun d hd => (dp d hd).1, ln⟩
  rcases so with so | so
  · left
    intro d hd
    have := so d hd
    split at this
    · exact ⟨_, _, rfl⟩
    · cases this
  · right
    intro d hd
    have := so d hd
    refine ⟨?_, ?_⟩
    · rintro rfl
      cases this
    · rintro ys rfl
      cases this
theorem cb_sortrank (rm : RoomX X) (hd0 : X.A.handled = none) (dp0 : X.A.depth < recursionLimit) {f : Addr} (F : RankOk X.prog X.w X.K X.mg X.base f) : CallRK X (.builtin "sorted") [Str.ofString "key", Str.ofString "reverse"] (rRank X.K f) := by
  intro pins s σ H vs zs us ws Q I r rz h
  obtain ⟨rfl, P, ds, dz, new, hx, e, q⟩ := h
  replace e : blt_sortrank ds = some dz := e
  unfold blt_sortrank at e
  split at e <;> try cases e
  rename_i xs
  split at e <;> try cases e
  rename_i hc
  simp only [Bool.and_eq_true, List.all_eq_true] at hc
  obtain ⟨hint, hso⟩ := hc
  obtain ⟨al, so, dp, ln⟩ := rank_each (K := X.K) hso
  obtain ⟨v, rfl, hv⟩ := hx.one
  obtain ⟨a, ws', rfl, ha, ra⟩ := hv.list
  obtain ⟨its, rv, hl, hz⟩ := I.list ha
  rw [Vals.ref1 r]
  obtain ⟨w1, w2, rfl, e1, e2⟩ := vals2 rz
  obtain rfl : w1 = Value.ref f := e1
  obtain rfl : w2 = Value.bool true := e2
  have un := rm.un
  have len := ra.length
  rw [List.length_map] at ln
  have e2 : (ws'.zip xs).map Prod.snd = xs := List.map_snd_zip (by omega)
  have e3 : (ws'.zip xs).map (fun p => rkey p.2) = xs.map rkey := by
    rw [← e2, List.map_map]
    conv => lhs; rw [e2]
    rfl
  have each := each_of ra rv
  show wpAny _ _ (call (.builtin "sorted") [.ref a] [(Str.ofString "key", .ref f), (Str.ofString "reverse", .bool true)]) _ _ _
  refine PySem.W.sorted_key_data (b := true) (fun p : V × D => rkey p.2) (bs := ws'.zip xs) hl.isList (PySem.W.each_mem each) (by rw [e3]; exact al) (by rw [e3]; exact so) ?_ (fun p hp => ?_) (PyProof.Rows.ksk_s2 _ _ _) (fun _ => PyProof.Rows.ksk_l2 _ _ _) (fun _ => PyProof.Rows.ksk_t2 _ _ _) (fun v p hR hp h tk kp => ?_) fun out c h' tk kp hn hD hlen eo => ?_
  · rw [List.length_zip, sizeLine_eq]
    have : LINE = 16777216 := rfl
    omega
  · have : rkey p.2 ∈ xs.map rkey := by
      rw [← e3]
      exact List.mem_map_of_mem hp
    have := dp _ this
    omega
  · obtain ⟨⟨rv', rp⟩, _⟩ := hR
    have hx : p.2 ∈ xs := by
      rw [← e2]
      exact List.mem_map_of_mem hp
    have ii := hint _ hx
    obtain ⟨pv, pd⟩ := p
    cases pd with
    | tuple dd =>
      obtain ⟨ns, hns⟩ := Option.isSome_iff_exists.mp (show (ints? dd).isSome = true from ii)
      obtain ⟨b, ys, rfl, hb, rb⟩ := (RP.tuple rp)
      cases rv'
      have J := I.kept (t' := tk) kp
      have e0 := J.env0
      exact F X.A.in1.in1 X.stack _ H P b ys dd ns hd0 dp0 ⟨e0.frames, e0.mod, e0.bs, e0.bsz, e0.funs, e0.frf, e0.hok, e0.bare⟩ hb rb hns
    | _ => cases ii
  · obtain ⟨v1, r1⟩ := of_each (eo.mono fun _ _ z => z.1)
    have e4 : ((ws'.zip xs).mergeSort (PySem.W.dataLe true fun p : V × D => rkey p.2)).map Prod.snd = xs.mergeSort (PySem.W.dataLe true rkey) := by
      have z := List.map_mergeSort (r := PySem.W.dataLe (β := V × PyData) true fun p => rkey p.2) (s := PySem.W.dataLe (β := PyData) true rkey) (f := Prod.snd) (l := ws'.zip xs) (fun _ _ _ _ => rfl)
      rw [z, e2]
    rw [e4] at r1
    have fresh : H (s.heap.objs.size + 1) = none := I.hok.fresh (Nat.le_succ _)
    have o := out_lst (P := P) new fresh r1
    have hlen' : (((ws'.zip xs).mergeSort (PySem.W.dataLe true fun p : V × D => rkey p.2)).map (·.1)).length ≤ sizeLine := by
      rw [List.length_map, List.length_mergeSort, List.length_zip, sizeLine_eq]
      have : LINE = 16777216 := rfl
      omega
    refine ⟨.ref _, _, I.laid (t' := tk) kp (Nat.le_succ _) (show ObjOk X.prog X.w _ _ _ (.lst _) from ⟨hlen', out, c, v1, hD⟩), rfl, q _ _ o (fresh_lst fresh r1)⟩
end
end PV
set_option Elab.async false
set_option linter.all false
set_option maxRecDepth 100000
set_option maxHeartbeats 2000000
/-! PV, part H: targets, what is walked, comprehensions. -/
namespace PV
open PySem PySem.Spec PyProof.Rows L2
variable [Wd]
mutual
def tgSlots : Tg → List Nat
  | .name i => [i]
  | .tup ts => tgsSlots ts
def tgsSlots : List Tg → List Nat
  | [] => []
  | t :: ts => tgSlots t ++ tgsSlots ts
end
/-- a store of values: the frame behind it -/
structure Sto (K : PySem.W.Frag) (P0 : Pa) (env : Fram) (σ : L2.St) (H : Hp) (is : List Nat) (env' : Fram) (σ' : L2.St) : Prop where
  re : RE K P0 env' σ' H
  own : ∀ a, OwnA env' σ' a ↔ OwnA env σ a
  same : ∀ i, i ∉ is → σ'[i]? = σ[i]?
  len : σ'.length = σ.length
section
variable {K : PySem.W.Frag} {H H' : Hp} {P0 P : Pa} {env env1 env2 : Fram} {σ σ1 σ2 : L2.St} {is js : List Nat}
theorem Sto.refl (r : RE K P0 env σ H) : Sto K P0 env σ H [] env σ := ⟨r, fun _ => Iff.rfl, fun _ _ => rfl, rfl⟩
theorem Sto.trans (a : Sto K P0 env σ H is env1 σ1) (b : Sto K P0 env1 σ1 H js env2 σ2) : Sto K P0 env σ H (is ++ js) env2 σ2 :=
  ⟨b.re, fun c => (b.own c).trans (a.own c), fun i h => (b.same i fun z => h (List.mem_append_right _ z)).trans (a.same i fun z => h (List.mem_append_left _ z)), b.len.trans a.len⟩
theorem Sto.stb (a : Sto K P0 env σ H is env1 σ1) : ∀ c, Stb P0 env σ c → Stb P0 env1 σ1 c := fun c h => ⟨h.1, fun w => h.2 ((a.own c).mp w)⟩
theorem isOwn_iff {env : Fram} {i : Nat} : isOwn env i = true ↔ ∃ d, env[i]? = some (.own d) := by
  unfold isOwn
  constructor
  · intro h
    split at h
    · rename_i d e
      exact ⟨d, e⟩
    · cases h
  · rintro ⟨d, e⟩
    rw [e]
theorem Sto.name (r : RE K P0 env σ H) {i : Nat} {v : V} {d : D} (hi : i < env.length) (ho : isOwn env i = false) (q : RP K H (Stb P0 env σ) v d) : Sto K P0 env σ H [i] (env.set i (.val d)) (σ.set i (some v)) := by
  refine ⟨r.setVal q, fun a => ⟨fun w => w.val, ?_⟩, fun j h => ?_, by simp⟩
  · rintro ⟨j, e, h1, h2⟩
    have hj : i ≠ j := by
      rintro rfl
      rw [isOwn_iff.mpr ⟨e, h1⟩] at ho
      cases ho
    exact ⟨j, e, by rw [List.getElem?_set_ne hj]; exact h1, by rw [List.getElem?_set_ne hj]; exact h2⟩
  · exact List.getElem?_set_ne fun z => h (by simp [z])
end
/-- a pair that a walk has laid -/
def RPw (K : PySem.W.Frag) (H : Hp) (P : Pa) (v : V) (d : D) : Prop := ∃ a xs ds, v = .ref a ∧ SqT K H a xs ∧ RPs K H P xs ds ∧ d = .tuple ds
abbrev RPb (K : PySem.W.Frag) (H : Hp) (P : Pa) (b : Bool) (v : V) (d : D) : Prop := (b = false → RP K H P v d) ∧ (b = true → RPw K H P v d)
def isTg : Tg → Bool
  | .tup _ => true
  | .name _ => false
/-- what a target may be given -/
def RPg (K : PySem.W.Frag) (H : Hp) (P : Pa) (tg : Tg) (v : V) (d : D) : Prop := RP K H P v d ∨ isTg tg = true ∧ RPw K H P v d
theorem RPb.g {K : PySem.W.Frag} {H : Hp} {P P' : Pa} {b : Bool} {tg : Tg} {v : V} {d : D} (r : RPb K H P b v d) (h : b = true → isTg tg = true) (m : ∀ a, P a → P' a) : RPg K H P' tg v d := by
  cases b with
  | false => exact .inl ((r.1 rfl).mono m)
  | true =>
    obtain ⟨a, xs, ds, e, s, q, e2⟩ := r.2 rfl
    exact .inr ⟨h rfl, a, xs, ds, e, s, q.mono m, e2⟩
/-- does the walk lay pairs -/
def pairs : Itx → Bool
  | .zip _ _ => true
  | .enum _ => true
  | _ => false
def tTg (K : PySem.W.Frag) (tg : Tg) : TG := fun v σ H Q => ∃ (P0 : Pa) (env : Fram) (d : D) (env1 : Fram), RE K P0 env σ H ∧ RPg K H (Stb P0 env σ) tg v d ∧ store tg d env = some env1 ∧
  ∀ σ', Sto K P0 env σ H (tgSlots tg) env1 σ' → Q σ' H
def tTgs (K : PySem.W.Frag) (ts : List Tg) : TGs := fun vs σ H Q => ∃ (P0 : Pa) (env : Fram) (ds : List D) (env1 : Fram), RE K P0 env σ H ∧ RPs K H (Stb P0 env σ) vs ds ∧ stores ts ds env = some env1 ∧
  ∀ σ', Sto K P0 env σ H (tgsSlots ts) env1 σ' → Q σ' H
section
variable {K : PySem.W.Frag} {H : Hp} {σ : L2.St} {v : V} {vs : List V} {Q : L2.St → Hp → Prop}
theorem ent_gname {i : Nat} (h : tTg K (.name i) v σ H Q) : gName i v σ H Q := by
  obtain ⟨P0, env, d, env1, r, q, e, k⟩ := h
  have q := q.elim id fun z => by cases z.1
  unfold store at e
  split at e
  · rename_i hc
    cases e
    simp only [Bool.and_eq_true, decide_eq_true_eq, Bool.not_eq_true'] at hc
    exact k _ (Sto.name r hc.1 hc.2 q)
  · cases e
theorem ent_gnil (h : tTgs K [] vs σ H Q) : gNil vs σ H Q := by
  obtain ⟨P0, env, ds, env1, r, q, e, k⟩ := h
  cases q with
  | nil =>
    unfold stores at e
    cases e
    exact ⟨rfl, k _ (Sto.refl r)⟩
  | cons _ _ => simp [stores] at e
theorem ent_gcons {t : Tg} {ts : List Tg} (h : tTgs K (t :: ts) vs σ H Q) : gCons (tTg K t) (tTgs K ts) vs σ H Q := by
  obtain ⟨P0, env, ds, env1, r, q, e, k⟩ := h
  cases q with
  | nil => simp [stores] at e
  | cons q1 q2 =>
    unfold stores at e
    obtain ⟨e1, s1, s2⟩ := Option.bind_eq_some_iff.mp e
    refine ⟨_, _, rfl, P0, env, _, e1, r, .inl q1, s1, fun σ' a => ?_⟩
    exact ⟨P0, e1, _, env1, a.re, q2.mono a.stb, s2, fun σ2 b => k σ2 (by
      have c := a.trans b
      unfold tgsSlots
      exact c)⟩
theorem stores_len : ∀ {ts : List Tg} {ds : List D} {env env1 : Fram}, stores ts ds env = some env1 → ds.length = ts.length
  | [], [], _, _, _ => rfl
  | [], _ :: _, _, _, h => by simp [stores] at h
  | _ :: _, [], _, _, h => by simp [stores] at h
  | t :: ts, d :: ds, env, env1, h => by
    unfold stores at h
    obtain ⟨e1, _, s2⟩ := Option.bind_eq_some_iff.mp h
    simp [stores_len s2]
theorem ent_gtup {ts : List Tg} {n : Nat} (hn : ts.length = n) (h : tTg K (.tup ts) v σ H Q) : gTup K n (tTgs K ts) v σ H Q := by
  obtain ⟨P0, env, d, env1, r, q, e, k⟩ := h
  have go : ∀ a xs ds, v = .ref a → SqT K H a xs → RPs K H (Stb P0 env σ) xs ds → d = .tuple ds → gTup K n (tTgs K ts) v σ H Q := fun a xs ds ev s q2 ed => by
    subst ev ed
    unfold store at e
    refine ⟨_, _, rfl, s, ?_, P0, env, _, env1, r, q2, e, fun σ' a => k σ' (by
      unfold tgSlots
      exact a)⟩
    rw [q2.length, stores_len e, hn]
  rcases q with q | ⟨_, a, xs, ds, ev, s, q, ed⟩
  · cases q with
    | tup s q => exact go _ _ _ rfl s.sq q rfl
    | _ => simp [store] at e
  · exact go a xs ds ev s q ed
end
theorem PG.imp {X : Cx} {e : Expr} {t t' : TG} (h : PG X e t) (m : ∀ v σ H Q, t' v σ H Q → t v σ H Q) : PG X e t' := ⟨fun pins s σ H v u Q I r q => h.run pins s σ H v u Q I r (m v σ H Q q)⟩
theorem PGs.imp {X : Cx} {e : List Expr} {t t' : TGs} (h : PGs X e t) (m : ∀ v σ H Q, t' v σ H Q → t v σ H Q) : PGs X e t' := ⟨fun pins s σ H v u Q I r q => h.run pins s σ H v u Q I r (m v σ H Q q)⟩
theorem PI.imp {X : Cx} {tg e : Expr} {t t' : TI} (h : PI X tg e t) (m : ∀ σ H Q, t' σ H Q → t σ H Q) : PI X tg e t' := ⟨fun pins s σ H Q I q => h.run pins s σ H Q I (m σ H Q q)⟩
/-! ### what is walked -/
mutual
/-- the lists in a value are old -/
theorem RP.old {K : PySem.W.Frag} {H : Hp} {P : Pa} : ∀ {v : V} {d : D}, RP K H P v d → RP K H (fun a => P a ∧ H a ≠ none) v d
  | _, _, .non => .non
  | _, _, .bl b => .bl b
  | _, _, .int i => .int i
  | _, _, .str x => .str x
  | _, _, .lst q s r => .lst ⟨q, fun n => by
      rcases s with h | ⟨o, h⟩ <;> (rw [n] at h; cases h)⟩ s (RPs.old r)
  | _, _, .lit s r => .lit s (RPs.old r)
  | _, _, .tup s r => .tup s (RPs.old r)
  | _, _, .dct q s r => .dct ⟨q, fun n => by
      rcases s with h | ⟨o, h⟩ <;> (rw [n] at h; cases h)⟩ s (REs.old r)
theorem REs.old {K : PySem.W.Frag} {H : Hp} {P : Pa} : ∀ {xs : List (NestedKey × Addr × Value)} {ds : List (D × D)}, REs K H P xs ds → REs K H (fun a => P a ∧ H a ≠ none) xs ds
  | _, _, .nil => .nil
  | _, _, .cons m h1 h2 h3 r => .cons m (RP.old h1) h2 (RP.old h3) (REs.old r)
theorem RPs.old {K : PySem.W.Frag} {H : Hp} {P : Pa} : ∀ {vs : List V} {ds : List D}, RPs K H P vs ds → RPs K H (fun a => P a ∧ H a ≠ none) vs ds
  | _, _, .nil => .nil
  | _, _, .cons h r => .cons (RP.old h) (RPs.old r)
end
/-- the walk yields these, while what may not be changed stands -/
structure ItOk (K : PySem.W.Frag) (P : Pa) (H : Hp) (b : Bool) (J : L2.It) (ds : List D) : Prop where
  go : ∀ i H1, Keep P H H1 → i < ds.length → J.go i H1
  yld : ∀ i H1 x H2 d, Keep P H H1 → ds[i]? = some d → J.yld i H1 x H2 → (∀ a o, H1 a = some o → H2 a = some o) ∧ RPb K H2 (fun a => P a ∧ H a ≠ none) b x d
  stop : ∀ H1, Keep P H H1 → J.stop ds.length H1
/-- a list (true) or a tuple -/
def SqK (K : PySem.W.Frag) (k : Bool) (H : Hp) (a : Addr) (xs : List V) : Prop := match k with
  | true => SqL K H a xs
  | false => SqT K H a xs
def seqAt (k : Bool) (h : Heap) (a : Addr) (its : Array Value) : Prop := match k with
  | true => h.IsList a its
  | false => h.IsTuple a its
def itrAt (k : Bool) (h : Heap) (it a : Addr) (i : Nat) : Prop := match k with
  | true => h.IsListIter it a i
  | false => h.IsTupleIter it a i
def itrO (k : Bool) (a : Addr) : Obj := match k with
  | true => { cls := .type "list_iterator", data := .fields #[.ref a, .int 0 0] }
  | false => { cls := .type "tuple_iterator", data := .fields #[.ref a, .int 0 0] }
theorem begK (k : Bool) (a : Addr) (its : Array Value) : Begins (.ref a) (itrO k a) fun h => seqAt k h a its := by
  cases k with
  | true => exact begins_list a its
  | false => exact begins_tuple a its
theorem itrAt_new {k : Bool} {h : Heap} {it a : Addr} (e : h.get? it = some (itrO k a)) : itrAt k h it a 0 := by
  cases k with
  | true => exact ⟨_, e, rfl, rfl⟩
  | false => exact ⟨_, e, rfl, rfl⟩
theorem drawK {prog : Program} {w : World} {A : Around} (hh : A.handled = none) (k : Bool) (it a : Addr) (hne : a ≠ it) (its : Array Value) :
    Draws prog w A it [it, a] its.size (fun i v => its[i]? = some v) (fun i h => itrAt k h it a i ∧ seqAt k h a its) := by
  cases k with
  | true => exact Draws.list hh it a hne its
  | false => exact Draws.tuple hh it a hne its
theorem itrAt.obj {k : Bool} {h : Heap} {it a : Addr} {i : Nat} (st : itrAt k h it a i) : ∃ o, h.get? it = some o ∧ ∀ v, o.data ≠ .cell v := by
  cases k with
  | true =>
    obtain ⟨o, e, _, d⟩ := st
    exact ⟨o, e, fun v z => by rw [d] at z; cases z⟩
  | false =>
    obtain ⟨o, e, _, d⟩ := st
    exact ⟨o, e, fun v z => by rw [d] at z; cases z⟩
theorem itrAt.at {k : Bool} {h h' : Heap} {it a : Addr} {i : Nat} (st : itrAt k h it a i) (q : ∀ o, h.get? it = some o → h'.get? it = some o) : itrAt k h' it a i := by
  cases k with
  | true => exact Heap.IsListIter.at st q
  | false => exact Heap.IsTupleIter.at st q
section
variable {X : Cx} {pins : List (Addr × Obj)} {σ : L2.St} {H : Hp} {s : Shared}
theorem inv_sqK (I : Inv X pins σ H s) {k : Bool} {a : Addr} {xs : List V} (q : SqK X.K k H a xs) : ∃ its : List Value, Vals xs its ∧ seqAt k s.heap a its.toArray ∧ a < s.heap.objs.size := by
  cases k with
  | true =>
    obtain ⟨its, rv, p, _⟩ := I.list q
    exact ⟨its, rv, p.isList, p.lt⟩
  | false =>
    obtain ⟨its, rv, p, _⟩ := I.tuple q
    have p' : s.heap.IsTuple a its.toArray := p
    obtain ⟨o, e, _⟩ := id p'
    exact ⟨its, rv, p', Heap.lt_size e⟩
theorem inv_injK (I : Inv X pins σ H s) {k : Bool} {a : Addr} {xs ys : List V} (q : SqK X.K k H a xs) (q' : SqK X.K k H a ys) : xs = ys := by
  cases k with
  | true => exact I.list_inj q q'
  | false => exact I.tuple_inj q q'
end
/-- what stands at a in turn i -/
def ItK (K : PySem.W.Frag) (k : Bool) (a : Addr) : L2.It :=
  ⟨fun i H => ∃ (xs : List V) (x : V), SqK K k H a xs ∧ xs[i]? = some x, fun i H v H' => ∃ T x, v = .ref T ∧ H T = none ∧ H' = upd H T (.tup [.int (i : Nat), x]) ∧ ∀ xs, SqK K k H a xs → xs[i]? = some x, fun i H => ∃ xs : List V, SqK K k H a xs ∧ xs.length = i⟩
def ItZ (K : PySem.W.Frag) (k l : Bool) (a b : Addr) : L2.It :=
  ⟨fun i H => ∃ (xs ys : List V) (x y : V), SqK K k H a xs ∧ SqK K l H b ys ∧ xs[i]? = some x ∧ ys[i]? = some y,
    fun i H v H' => ∃ T x y, v = .ref T ∧ H T = none ∧ H' = upd H T (.tup [x, y]) ∧ (∀ xs, SqK K k H a xs → xs[i]? = some x) ∧ ∀ ys, SqK K l H b ys → ys[i]? = some y,
    fun i H => ∃ xs ys : List V, SqK K k H a xs ∧ SqK K l H b ys ∧ min xs.length ys.length = i⟩
theorem turnK {P : Program} {w : World} {K : PySem.W.Frag} {elts : List Expr} {kk : Nat} {tpos : Pos} (k : Bool) (a e it : Addr) :
    Turn P w K (.Tuple elts kk tpos) (ItK K k a) [e, it] e (fun i h => (∃ old, IsEnum h e it ((i : Nat) : Int) old) ∧ itrAt k h it a i ∧ e ≠ it ∧ a ≠ e ∧ a ≠ it) where
  mem := by simp
  obj := fun i h st b hb => by
    obtain ⟨⟨old, he⟩, hi, _⟩ := st
    rcases (by simpa using hb : b = e ∨ b = it) with rfl | rfl
    · exact ⟨_, he, fun v q => nomatch q⟩
    · exact hi.obj
  keep := fun i h h' st q => let ⟨⟨old, he⟩, hi, hne⟩ := st; ⟨⟨old, q e (by simp) _ he⟩, hi.at fun o z => q it (by simp) o z, hne⟩
  item := by
    intro X hP hw hK hc i pins s σ H E I hf st hg
    subst hP hw hK
    obtain ⟨⟨old, he⟩, hit, hne, hae, hai⟩ := st
    obtain ⟨xs, x, hq, hx⟩ := hg
    obtain ⟨its, rv, p, hz⟩ := inv_sqK I hq
    obtain ⟨u, hu, ru⟩ := rv.get hx
    have lt : i < its.toArray.size := by
      have := (List.getElem?_eq_some_iff.mp hu).1
      simpa using this
    have G := GoesN.enumFrom (prog := X.prog) (w := X.w) (A := X.A) (elts := elts) (x1 := kk) (pos := tpos) 0 (drawK (A := X.A.in1) (I.ok.hd hc) k it a hai its.toArray) e hne (by simp only [List.mem_cons, List.not_mem_nil, or_false, not_or]; exact ⟨hne, fun z => hae z.symm⟩) (by simp)
    refine G.goes i s _ E lt ⟨⟨old, by simpa using he⟩, hit, p⟩ fun v h' tk hy st' kp htk => ?_
    obtain ⟨T, t, y, rfl, hT, hy, ht⟩ := hy
    have hyu : y = u := by
      have : its[i]? = some y := by simpa using hy
      rw [hu] at this
      cases this
      rfl
    subst hyu
    obtain ⟨⟨old', he'⟩, hit', _⟩ := st'
    have new : ObjOk X.prog X.w (upd H T (.tup [.int (i : Nat), x])) h' T (.tup [.int (i : Nat), x]) :=
      ⟨by show 2 ≤ sizeLine; decide, [.int i t, y], .cons ⟨_, rfl⟩ (.cons ru .nil), by
        have w : h'.IsTuple T #[.int (i : Nat) t, y] := by simpa using ht
        exact w⟩
    have I1 : Inv X pins σ (upd H T (.tup [.int (i : Nat), x])) { s with heap := h', toks := tk } :=
      I.turnedNew (ch := [e, it]) (fun b ob hb q => kp b ob hb q) hf hT new
    refine ⟨.ref T, _, I1, rfl, ⟨T, x, rfl, I.hok.fresh hT, rfl, fun ys hy => by rw [inv_injK I hy hq]; exact hx⟩, ⟨⟨old', by simpa using he'⟩, hit', hne, hae, hai⟩, fun b hb => ?_⟩
    have hb' : b < s.heap.objs.size := by
      rcases (by simpa using hb : b = e ∨ b = it) with rfl | rfl
      · exact Heap.lt_size he
      · obtain ⟨_, z, _⟩ := hit.obj
        exact Heap.lt_size z
    rw [upd_ne (Nat.ne_of_lt (Nat.lt_of_lt_of_le hb' hT))]
    exact (hf b hb).1
  done := by
    intro X hP hw hK hc i pins s σ H E I hf st hg
    subst hP hw hK
    obtain ⟨⟨old, he⟩, hit, hne, hae, hai⟩ := st
    obtain ⟨xs, hq, hx⟩ := hg
    obtain ⟨its, rv, p, hz⟩ := inv_sqK I hq
    have l1 := rv.length
    have G := GoesN.enumFrom (prog := X.prog) (w := X.w) (A := X.A) (elts := elts) (x1 := kk) (pos := tpos) 0 (drawK (A := X.A.in1) (I.ok.hd hc) k it a hai its.toArray) e hne (by simp only [List.mem_cons, List.not_mem_nil, or_false, not_or]; exact ⟨hne, fun z => hae z.symm⟩) (by simp)
    have e2 : i = its.toArray.size := by simp; omega
    subst e2
    exact G.stops s _ E ⟨⟨old, by simpa using he⟩, hit, p⟩ fun h' tk kp htk => I.turnedL (ch := [e, it]) (fun c o hb q => kp c o hb q) hf
  self := fun A i s Q E st h => let ⟨⟨_, he⟩, _⟩ := st; wpAny_pyIter_enum he h
theorem sep_of {z TI TO i1 i2 a b : Addr} (D : ZipApart z TI TO i1 i2 a b) : ZipSep2 z TI TO i1 i2 [i1, a] [i2, b] where
  TIz := D.TIz
  TOz := D.TOz
  TITO := D.TITO
  TIi1 := D.TIi1
  mem1 := by simp
  zf1 := by simp only [List.mem_cons, List.not_mem_nil, or_false, not_or]; exact ⟨D.i1z.symm, D.l1z.symm⟩
  Tf1 := by simp only [List.mem_cons, List.not_mem_nil, or_false, not_or]; exact ⟨D.TOi1, D.l1TO.symm⟩
  TIi2 := D.TIi2
  mem2 := by simp
  zf2 := by simp only [List.mem_cons, List.not_mem_nil, or_false, not_or]; exact ⟨D.i2z.symm, D.l2z.symm⟩
  Tf2 := by simp only [List.mem_cons, List.not_mem_nil, or_false, not_or]; exact ⟨D.TOi2, D.l2TO.symm⟩
  sep1_2 := by simp only [List.mem_cons, List.not_mem_nil, or_false, not_or]; exact ⟨D.i12, D.l2i1.symm⟩
  sep2_1 := by simp only [List.mem_cons, List.not_mem_nil, or_false, not_or]; exact ⟨D.i12.symm, D.l1i2.symm⟩
theorem turnZ {P : Program} {w : World} {K : PySem.W.Frag} {elts : List Expr} {kk : Nat} {tpos : Pos} (k l : Bool) {a b z TI TO i1 i2 : Addr} (D : ZipApart z TI TO i1 i2 a b) :
    Turn P w K (.Tuple elts kk tpos) (ItZ K k l a b) [z, TI, TO, i1, i2] z (fun i h => IsZip h z TI TO .none ∧ IsTupOf2 h TI (.ref i1) (.ref i2) ∧ (∃ x y, IsTupOf2 h TO x y) ∧ itrAt k h i1 a i ∧ itrAt l h i2 b i) where
  mem := by simp
  obj := fun i h st c hm => by
    obtain ⟨hz, hTI, ⟨x, y, hTO⟩, h1, h2⟩ := st
    rcases (by simpa using hm : c = z ∨ c = TI ∨ c = TO ∨ c = i1 ∨ c = i2) with rfl | rfl | rfl | rfl | rfl
    · exact ⟨_, hz, fun v q => nomatch q⟩
    · exact ⟨_, hTI, fun v q => nomatch q⟩
    · exact ⟨_, hTO, fun v q => nomatch q⟩
    · exact h1.obj
    · exact h2.obj
  keep := fun i h h' st q => by
    obtain ⟨hz, hTI, ⟨x, y, hTO⟩, h1, h2⟩ := st
    exact ⟨q z (by simp) _ hz, q TI (by simp) _ hTI, ⟨x, y, q TO (by simp) _ hTO⟩, h1.at fun o r => q i1 (by simp) o r, h2.at fun o r => q i2 (by simp) o r⟩
  item := by
    intro X hP hw hK hc i pins s σ H E I hf st hg
    subst hP hw hK
    obtain ⟨hz, hTI, hTO, h1, h2⟩ := st
    obtain ⟨xs, ys, x, y, qx, qy, ex, ey⟩ := hg
    obtain ⟨is, rx, px, _⟩ := inv_sqK I qx
    obtain ⟨js, ry, py, _⟩ := inv_sqK I qy
    obtain ⟨u, hu, ru⟩ := rx.get ex
    obtain ⟨v, hv, rv⟩ := ry.get ey
    have lt1 := (List.getElem?_eq_some_iff.mp hu).1
    have lt2 := (List.getElem?_eq_some_iff.mp hv).1
    have G := GoesN.zip2 (prog := X.prog) (w := X.w) (A := X.A) (elts := elts) (x1 := kk) (pos := tpos) (sep_of D) (drawK (A := X.A.in1) (I.ok.hd hc) k i1 a D.l1i1 is.toArray) (drawK (A := X.A.in1) (I.ok.hd hc) l i2 b D.l2i2 js.toArray)
    refine G.goes i s _ E (by simp; omega) ⟨hz, hTI, hTO, ⟨h1, px⟩, ⟨h2, py⟩⟩ fun r h' tk hy st' kp htk => ?_
    obtain ⟨T, m, n, rfl, hT, h3, h4, ht⟩ := hy
    have e3 : m = u := by
      have : is[i]? = some m := by simpa using h3
      rw [hu] at this
      cases this
      rfl
    have e4 : n = v := by
      have : js[i]? = some n := by simpa using h4
      rw [hv] at this
      cases this
      rfl
    subst e3 e4
    obtain ⟨s1, s2, s3, ⟨s4, _⟩, s5, _⟩ := st'
    have new : ObjOk X.prog X.w (upd H T (.tup [x, y])) h' T (.tup [x, y]) :=
      ⟨by show 2 ≤ sizeLine; decide, [m, n], .cons ru (.cons rv .nil), by
        have w : h'.IsTuple T #[m, n] := by simpa using ht
        exact w⟩
    have I1 : Inv X pins σ (upd H T (.tup [x, y])) { s with heap := h', toks := tk } :=
      I.turnedNew (ch := [z, TI, TO, i1, i2]) (fun c ob hb q => kp c ob (fun w => hb (by
        rcases (by simpa using w : c = z ∨ c = TO ∨ c = i1 ∨ c = i2) with rfl | rfl | rfl | rfl <;> simp)) q) hf hT new
    refine ⟨.ref T, _, I1, rfl, ⟨T, x, y, rfl, I.hok.fresh hT, rfl, fun zs hy => by rw [inv_injK I hy qx]; exact ex, fun zs hy => by rw [inv_injK I hy qy]; exact ey⟩, ⟨s1, s2, s3, s4, s5⟩, fun c hm => ?_⟩
    have lt : c < s.heap.objs.size := by
      obtain ⟨_, _, hTO⟩ := hTO
      rcases (by simpa using hm : c = z ∨ c = TI ∨ c = TO ∨ c = i1 ∨ c = i2) with rfl | rfl | rfl | rfl | rfl
      · exact Heap.lt_size hz
      · exact Heap.lt_size hTI
      · exact Heap.lt_size hTO
      · obtain ⟨_, q, _⟩ := h1.obj
        exact Heap.lt_size q
      · obtain ⟨_, q, _⟩ := h2.obj
        exact Heap.lt_size q
    rw [upd_ne (Nat.ne_of_lt (Nat.lt_of_lt_of_le lt hT))]
    exact (hf c hm).1
  done := by
    intro X hP hw hK hc i pins s σ H E I hf st hg
    subst hP hw hK
    obtain ⟨hz, hTI, hTO, h1, h2⟩ := st
    obtain ⟨xs, ys, qx, qy, en⟩ := hg
    obtain ⟨is, rx, px, _⟩ := inv_sqK I qx
    obtain ⟨js, ry, py, _⟩ := inv_sqK I qy
    have l1 := rx.length
    have l2 := ry.length
    have G := GoesN.zip2 (prog := X.prog) (w := X.w) (A := X.A) (elts := elts) (x1 := kk) (pos := tpos) (sep_of D) (drawK (A := X.A.in1) (I.ok.hd hc) k i1 a D.l1i1 is.toArray) (drawK (A := X.A.in1) (I.ok.hd hc) l i2 b D.l2i2 js.toArray)
    have e2 : i = min is.toArray.size js.toArray.size := by simp; omega
    subst e2
    exact G.stops s _ E ⟨hz, hTI, hTO, ⟨h1, px⟩, ⟨h2, py⟩⟩ fun h' tk kp htk => I.turnedL (ch := [z, TI, TO, i1, i2]) (fun c o hb q => kp c o (fun w => hb (by
        rcases (by simpa using w : c = z ∨ c = TO ∨ c = i1 ∨ c = i2) with rfl | rfl | rfl | rfl <;> simp)) q) hf
  self := fun A i s Q E st h => wpAny_pyIter_zip st.1 h
/-- enumerate's own object -/
abbrev enumO (it : Addr) : Obj := { cls := .type "enumerate", data := .fields #[.none, .bool false, .ref it, rawInt 0, .none, .none] }
theorem meetsEnum {v : Value} {o : Obj} {G : Heap → Prop} (B : Begins v o G) :
    Meets (Builtin.«enumerate.__new__» ⟨[.type "enumerate", v], []⟩) (fun _ R s => G s.heap ∧
      R (.ok (.ret (.ref (s.heap.push o).objs.size))) { s with heap := (s.heap.push o).push (enumO s.heap.objs.size) }) :=
  .of_wp fun prog w A R s h => by
    obtain ⟨hp, gl, dd, tk, os⟩ := s
    obtain ⟨g1, h⟩ := h
    have hsub := sub_enumerate
    have q1 : ∀ {B' : Around} {E Q : Value → Shared → Prop}, Q (.ref hp.objs.size) ⟨hp.push o, gl, dd, tk, os⟩ → wpAny (model prog w) B' (pyIter v) Q E ⟨hp, gl, dd, tk, os⟩ :=
      fun q => B.iter prog w _ _ ⟨hp, gl, dd, tk, os⟩ _ g1 q
    wp_walk using q1
    refine wpAny_stack_any fun st => wpAny_pure ?_
    split
    · rename_i c _ _ _ _ _
      cases (c == Value.type "enumerate")
      · wp_walk using q1
        exact ⟨_, rfl, h⟩
      · wp_walk using q1
        exact ⟨_, rfl, h⟩
    · wp_walk using q1
      exact ⟨_, rfl, h⟩
theorem callEnum {prog : Program} {w : World} {A : Around} {E : Value → Shared → Prop} {s : Shared} {v : Value} {o : Obj} {G : Heap → Prop} {Q : Value → Shared → Prop} (B : Begins v o G) (g : G s.heap)
    (h : ∀ h', IsEnum h' (s.heap.objs.size + 1) s.heap.objs.size 0 .none → h'.get? s.heap.objs.size = some o → h'.objs.size = s.heap.objs.size + 2 →
      (∀ b u, s.heap.get? b = some u → h'.get? b = some u) → Q (.ref (s.heap.objs.size + 1)) { s with heap := h' }) :
    wpAny (model prog w) A (call (.type "enumerate") [v]) Q E s := by
  refine callType_new F.called_enumerate (by decide) (F.typeCall_enumerate_1 _) (F.newCall_enumerate_1 _) (fun ob => F.args_object_init_2 ob _) F.entry_enumerate_new (meetsEnum B) ⟨g, ?_⟩
  have sz : (s.heap.push o).objs.size = s.heap.objs.size + 1 := Heap.size_push ..
  show _ ∧ _
  rw [sz]
  have en : IsEnum ((s.heap.push o).push (enumO s.heap.objs.size)) (s.heap.objs.size + 1) s.heap.objs.size 0 .none := by
    have z := Heap.get?_push_size (s.heap.push o) (o := enumO s.heap.objs.size) rfl
    rw [sz] at z
    exact z
  exact ⟨⟨_, en, rfl⟩, h _ en (Heap.get?_push_of_some _ (Heap.get?_push_size _ B.free)) (by rw [Heap.size_push, sz]) fun b u x => Heap.get?_push_of_some _ (Heap.get?_push_of_some _ x)⟩
/-- the keys of a dict -/
def ItD (d : Addr) (ep : Nat) (xs : List (NestedKey × Addr × Value)) : L2.It :=
  ⟨fun i H => Rd H d (.ext (rawD d ep xs)) ∧ i < xs.length, fun i H x H' => H' = H ∧ ∃ (k : NestedKey) (b : Addr) (u : Value), xs[i]? = some (k, b, u) ∧ x = .ref b, fun i H => Rd H d (.ext (rawD d ep xs)) ∧ xs.length ≤ i⟩
theorem turnD {P : Program} {w : World} {K : PySem.W.Frag} {tg : Expr} {d : Addr} {ep : Nat} {xs : List (NestedKey × Addr × Value)} (it : Addr) : Turn P w K tg (ItD d ep xs) [it] it (fun i h => h.IsKeyIter it d i xs.length ep) where
  mem := by simp
  obj := fun i h st b hb => by
    have e : b = it := by simpa using hb
    subst e
    obtain ⟨oi, e, c, dd⟩ := st
    exact ⟨oi, e, fun v z => by rw [dd] at z; cases z⟩
  keep := fun i h h' st k => st.at fun oi e => k it (by simp) oi e
  item := by
    intro X hP hw hK hc i pins s σ H E I hf st hg
    subst hP hw hK
    obtain ⟨hd, hi⟩ := hg
    obtain ⟨f0, f1, f2, f3, f4, f5⟩ := hf it (by simp)
    obtain ⟨⟨h1, h2, o, es, e1, e2, e3, e4, e5⟩, _⟩ := Rd.ok hd I.hok
    obtain ⟨⟨k, b, u⟩, hx⟩ : ∃ p, xs[i]? = some p := ⟨xs[i], List.getElem?_eq_getElem hi⟩
    refine next_key_item st e1 e3 (size_of_entries e4) ((entry_at e4 i).trans (by rw [hx]; rfl)) fun h' st' sb => ?_
    have I1 : Inv X pins σ H { s with heap := h' } := I.turned (t' := s.toks) (fun b ob hb e => (sb.2 b hb).trans e) f0 f1 f3 f4 f5
    obtain ⟨oi, e, c, dd⟩ := id st'
    exact ⟨.ref b, rfl, go_of (s := { s with heap := h' }) e c dd (by decide) ⟨.ref b, H, I1, rfl, ⟨rfl, k, b, u, hx, rfl⟩, st', fun b hb => (hf b hb).1⟩⟩
  done := by
    intro X hP hw hK hc i pins s σ H E I hf st hg
    subst hP hw hK
    obtain ⟨hd, hi⟩ := hg
    obtain ⟨f0, f1, f2, f3, f4, f5⟩ := hf it (by simp)
    obtain ⟨⟨h1, h2, o, es, e1, e2, e3, e4, e5⟩, _⟩ := Rd.ok hd I.hok
    exact next_key_end (I.ok.hd hc) st e1 e3 (size_of_entries e4) hi fun h' eb => ⟨rfl, I.turned (t' := s.toks) (fun b ob hb e => eb b ob hb e) f0 f1 f3 f4 f5⟩
  self := fun A i s Q E st h => by
    refine wpAny_pyIter_slot st.typeIs PySem.F.slot_dict_keyiterator_iter (wpAny_call_entry PySem.F.slot_dict_keyiterator_iter st.typeIs PySem.F.entry_dict_keyiterator_iter ?_ (PySem.F.args_dict_keyiterator_iter_1 _))
    show wpAny _ _ (ret (.ref it)) _ _ s
    exact wpAny_pure ⟨_, rfl, "dict_keyiterator", _, st.typeIs, PySem.F.slot_dict_keyiterator_next.lookup, h⟩
def iSeqK (K : PySem.W.Frag) (te : TE) : TI := fun σ H R => te σ H fun x H1 => ∃ a, x = .ref a ∧ ((∃ xs, SqL K H1 a xs) ∧ R (Itl K a) H1 ∨ (∃ xs, SqT K H1 a xs) ∧ R (Itt K a) H1 ∨ ∃ ep xs, Rd H1 a (.ext (rawD a ep xs)) ∧ R (ItD a ep xs) H1)
def iEnumK (K : PySem.W.Frag) (ta : TA) : TI := fun σ H R => ta σ H fun vs H1 => ∃ a xs k, vs = [.ref a] ∧ SqK K k H1 a xs ∧ R (ItK K k a) H1
def iZipK (K : PySem.W.Frag) (ta : TA) : TI := fun σ H R => ta σ H fun vs H1 => ∃ a b xs ys k l, vs = [.ref a, .ref b] ∧ SqK K k H1 a xs ∧ SqK K l H1 b ys ∧ R (ItZ K k l a b) H1
section
variable {X : Cx} {tg : Expr}
theorem pi_seqK {e : Expr} {te : TE} (he : PE X e te) : PI X tg e (iSeqK X.K te) := by
  refine ⟨fun pins s σ H R I h => thn (he.run pins s σ H _ I h) fun v s1 ⟨x, H1, I1, r1, a, e, q⟩ => ?_⟩
  subst e
  cases r1
  have ok : FpOk X pins H1 s1.heap.objs.size := I1.fpOk (Nat.le_refl _) (I1.hok.fresh (Nat.le_refl _))
  rcases q with ⟨⟨xs, hq⟩, q⟩ | ⟨⟨xs, hq⟩, q⟩ | ⟨ep, xs, hq, q⟩
  · obtain ⟨its, rv, p, _⟩ := I1.list hq
    refine wpAny_pyIter_list p.isList ⟨_, [s1.heap.objs.size], _, _, H1, rfl, ?_, turn_list a _, ⟨_, Heap.get?_push_size _ rfl, rfl, rfl⟩, fun b hb => ?_, q⟩
    · exact I1.kept (t' := s1.toks) fun b u z => Heap.get?_push_of_some _ z
    · rw [List.mem_singleton.mp hb]
      exact ok
  · obtain ⟨its, rv, p, _⟩ := I1.tuple hq
    have p' : s1.heap.IsTuple a its.toArray := p
    refine wpAny_pyIter_tuple p' ⟨_, [s1.heap.objs.size], _, _, H1, rfl, ?_, turn_tuple a _, ⟨_, Heap.get?_push_size _ rfl, rfl, rfl⟩, fun b hb => ?_, q⟩
    · exact I1.kept (t' := s1.toks) fun b u z => Heap.get?_push_of_some _ z
    · rw [List.mem_singleton.mp hb]
      exact ok
  · obtain ⟨⟨h1, h2, o, es, e1, e2, e3, e4, e5⟩, _⟩ := Rd.ok hq I1.hok
    refine iter_keys h1 e1 e2 e3 (pi_one (tk := s1.toks) I1 _ (turnD _) ⟨_, Heap.get?_push_size _ rfl, rfl, ?_⟩ q)
    rw [size_of_entries e4] <;> rfl
theorem pi_enumK {e : Expr} {ta : TA} {p pos tpos : Pos} {elts : List Expr} {kk : Nat} (hg : Gl X "enumerate") (hm : X.mg "enumerate" = none) (ha : PA X [e] ta) (hs : starEach [e] X.env = [(false, eval e X.env)]) :
    PI X (.Tuple elts kk tpos) (.Call (.Name "enumerate" p) [e] [] pos) (iEnumK X.K ta) := by
  refine ⟨fun pins s σ H R I h => Call_ (ld_blt I hg hm boot_enumerate (PyProof.Rows.callWith_type1 (thn (ha.run pos pins s σ H _ I h) fun us s1 ⟨vs, H1, I1, r1, a, xs, k, ex, hq, q⟩ => ?_) hs rfl))⟩
  subst ex
  cases r1 with
  | cons r rr =>
    cases rr
    cases r
    obtain ⟨its, rv, p', la⟩ := inv_sqK I1 hq
    refine callEnum (begK k a its.toArray) p' fun h' he hit hsz hk => wpAny_pyIter_enum he ?_
    have I2 : Inv X pins σ H1 { s1 with heap := h' } := I1.kept (t' := s1.toks) hk
    refine ⟨s1.heap.objs.size + 1, [s1.heap.objs.size + 1, s1.heap.objs.size], _, _, H1, rfl, I2, turnK k a (s1.heap.objs.size + 1) s1.heap.objs.size, ⟨⟨.none, he⟩, itrAt_new hit, Nat.succ_ne_self _, Nat.ne_of_lt (Nat.lt_succ_of_lt la), Nat.ne_of_lt la⟩, fun b hb => ?_, q⟩
    have hle : s1.heap.objs.size ≤ b := by
      rcases (by simpa using hb : b = s1.heap.objs.size + 1 ∨ b = s1.heap.objs.size) with z | z <;> (rw [z]; simp)
    exact I1.fpOk hle (I1.hok.fresh hle)
theorem pi_zipK {e e2 : Expr} {ta : TA} {p pos tpos : Pos} {elts : List Expr} {kk : Nat} (hg : Gl X "zip") (hm : X.mg "zip" = none) (ha : PA X [e, e2] ta)
    (hs : starEach [e, e2] X.env = (false, eval e X.env) :: starEach [e2] X.env) (hpl : (backTo pos (starEach [e2] X.env)).any (·.1) = false) :
    PI X (.Tuple elts kk tpos) (.Call (.Name "zip" p) [e, e2] [] pos) (iZipK X.K ta) := by
  refine ⟨fun pins s σ H R I h => Call_ (ld_blt I hg hm PyProof.Rows.boot_zip (PyProof.Rows.callWith_type1 (thn (ha.run pos pins s σ H _ I h) fun us s1 ⟨vs, H1, I1, r1, a, b, xs, ys, k, l, ex, hq, hq2, q⟩ => ?_) hs hpl))⟩
  subst ex
  cases r1 with
  | cons r rr =>
    cases rr with
    | cons r' rr =>
      cases rr
      cases r
      cases r'
      obtain ⟨its, rv, p1, la⟩ := inv_sqK I1 hq
      obtain ⟨jts, rv2, p2, lb⟩ := inv_sqK I1 hq2
      refine zip_begins2 (begK k a its.toArray) (begK l b jts.toArray) p1 p2 fun h' hz hTI hTO h1 h2 hsz hk => wpAny_pyIter_zip hz ?_
      have I2 : Inv X pins σ H1 { s1 with heap := h' } := I1.kept (t' := s1.toks) hk
      refine ⟨s1.heap.objs.size + 4, [s1.heap.objs.size + 4, s1.heap.objs.size + 2, s1.heap.objs.size + 3, s1.heap.objs.size, s1.heap.objs.size + 1], _, _, H1, rfl, I2, turnZ k l (PySem.W.ktu_apart s1.heap.objs.size a b la lb), ⟨hz, hTI, ⟨_, _, hTO⟩, itrAt_new h1, itrAt_new h2⟩, fun c hm => ?_, q⟩
      have hle : s1.heap.objs.size ≤ c := by
        rcases (by simpa using hm : c = s1.heap.objs.size + 4 ∨ c = s1.heap.objs.size + 2 ∨ c = s1.heap.objs.size + 3 ∨ c = s1.heap.objs.size ∨ c = s1.heap.objs.size + 1) with z | z | z | z | z <;> (rw [z]; simp)
      exact I1.fpOk hle (I1.hok.fresh hle)
end
end PV
set_option Elab.async false
set_option linter.all false
set_option maxRecDepth 100000
set_option maxHeartbeats 2000000
/-! PV, part I: what walks yield. -/
namespace PV
open PySem PySem.Spec PyProof.Rows L2
variable [Wd]
/-! ### what the walks yield -/
section
variable {K : PySem.W.Frag} {P : Pa} {H : Hp}
theorem SqL.keepP {H1 : Hp} {a : Addr} {xs : List V} (hp : P a ∨ SqL K (fun _ => none) a xs) (s : SqL K H a xs) (k : Keep P H H1) : SqL K H1 a xs := by
  rcases hp with hp | hp
  · rcases s with h | h
    · rcases h with h | ⟨o, h⟩
      · exact .inl (.inl (k _ _ h (.inl hp)))
      · exact .inl (.inr ⟨o, k _ _ h (.inl hp)⟩)
    · exact .inr h
  · exact none_lit hp
theorem SqT.keepP {H1 : Hp} {a : Addr} {xs : List V} (s : SqT K H a xs) (k : Keep P H H1) : SqT K H1 a xs := by
  rcases s with h | h
  · rcases h with h | ⟨o, h⟩
    · exact .inl (.inl (k _ _ h (.inr rfl)))
    · exact .inl (.inr ⟨o, k _ _ h (.inr rfl)⟩)
  · exact .inr h
/-- a value that can be walked: a list that stands, or a tuple -/
structure Wk (K : PySem.W.Frag) (P : Pa) (H : Hp) (k : Bool) (a : Addr) (xs : List V) (ds : List D) : Prop where
  sq : SqK K k H a xs
  rp : RPs K H P xs ds
  kp : ∀ H1, Keep P H H1 → SqK K k H1 a xs
theorem RP.walk {v : V} {d : D} {ds : List D} (r : RP K H P v d) (h : items? d = some ds) : ∃ k a xs, v = .ref a ∧ Wk K P H k a xs ds := by
  cases r with
  | lst p s r =>
    cases h
    exact ⟨true, _, _, rfl, .inl s, r, fun H1 k => SqL.keepP (K := K) (.inl p) (.inl s) k⟩
  | lit s r =>
    cases h
    exact ⟨true, _, _, rfl, none_lit s, r, fun H1 k => none_lit s⟩
  | tup s r =>
    cases h
    exact ⟨false, _, _, rfl, s.sq, r, fun H1 k => SqT.keepP s.sq k⟩
  | _ => cases h
theorem Wk.keep {P' : Pa} {H1 : Hp} {k : Bool} {a : Addr} {xs : List V} {ds : List D} (w : Wk K P H k a xs ds) (q : Keep P H H1) (m : ∀ b, P b → P' b) (m2 : ∀ H2, Keep P' H1 H2 → Keep P H H2) : Wk K P' H1 k a xs ds :=
  ⟨w.kp _ q, w.rp.keep q m, fun H2 r => w.kp _ (m2 H2 r)⟩
theorem itOk_seq {k : Bool} {a : Addr} {xs : List V} {ds : List D} (w : Wk K P H k a xs ds) : ItOk K P H false (match k with
    | true => Itl K a
    | false => Itt K a) ds := by
  have l := w.rp.length
  cases k with
  | true =>
    refine ⟨fun i H1 q hi => ⟨xs, xs[i]'(by omega), w.kp H1 q, by simp⟩, fun i H1 x H2 d q hd hy => ?_, fun H1 q => ⟨xs, w.kp H1 q, by omega⟩⟩
    obtain ⟨rfl, hx⟩ := hy
    obtain ⟨v, e1, e2⟩ := w.rp.old.get hd
    have e3 := hx xs (w.kp _ q)
    rw [e1] at e3
    cases e3
    exact ⟨fun _ _ e => e, fun _ => e2.keep (q.mono fun _ z => z.1) fun _ z => z, fun z => by cases z⟩
  | false =>
    refine ⟨fun i H1 q hi => ⟨xs, xs[i]'(by omega), w.kp H1 q, by simp⟩, fun i H1 x H2 d q hd hy => ?_, fun H1 q => ⟨xs, w.kp H1 q, by omega⟩⟩
    obtain ⟨rfl, hx⟩ := hy
    obtain ⟨v, e1, e2⟩ := w.rp.old.get hd
    have e3 := hx xs (w.kp _ q)
    rw [e1] at e3
    cases e3
    exact ⟨fun _ _ e => e, fun _ => e2.keep (q.mono fun _ z => z.1) fun _ z => z, fun z => by cases z⟩
theorem rangeD_len (i j : Int) : (rangeD i j).length = (j - i).toNat := by simp [rangeD]
theorem itOk_range {i j : Int} : ItOk K P H false (Itr i (j - i).toNat) (rangeD i j) := by
  refine ⟨fun k H1 _ hk => by rw [rangeD_len] at hk; exact hk, fun k H1 x H2 d _ hd hy => ?_, fun H1 _ => by
    rw [rangeD_len]
    exact Nat.le_refl _⟩
  obtain ⟨rfl, rfl⟩ := hy
  refine ⟨fun _ _ e => e, fun _ => ?_, (fun z => by cases z)⟩
  unfold rangeD at hd
  rw [List.getElem?_map] at hd
  obtain ⟨m, e1, rfl⟩ := Option.map_eq_some_iff.mp hd
  have hm : m = k := by
    have := List.getElem?_eq_some_iff.mp e1
    obtain ⟨h1, h2⟩ := this
    simpa using h2.symm
  subst hm
  exact .int _
theorem enumD_get : ∀ (ds : List D) (k i : Nat) (d : D), (enumD k ds)[i]? = some d → ∃ x, ds[i]? = some x ∧ d = .tuple [.int ((k + i : Nat) : Int), x]
  | [], _, _, _, h => by simp [enumD] at h
  | x :: xs, k, 0, d, h => by
    simp [enumD] at h
    exact ⟨x, rfl, by simpa using h.symm⟩
  | x :: xs, k, i + 1, d, h => by
    obtain ⟨y, h1, h2⟩ := enumD_get xs (k + 1) i d (by simpa [enumD] using h)
    refine ⟨y, by simpa using h1, ?_⟩
    rw [h2]
    congr 3
    omega
theorem enumD_len : ∀ (ds : List D) (k : Nat), (enumD k ds).length = ds.length
  | [], _ => rfl
  | x :: xs, k => by simp [enumD, enumD_len xs (k + 1)]
theorem zipD_get : ∀ (as bs : List D) (i : Nat) (d : D), (zipD as bs)[i]? = some d → ∃ x y, as[i]? = some x ∧ bs[i]? = some y ∧ d = .tuple [x, y]
  | [], bs, _, _, h => by simp [zipD] at h
  | x :: xs, [], _, _, h => by simp [zipD] at h
  | x :: xs, y :: ys, 0, d, h => by
    simp [zipD] at h
    exact ⟨x, y, rfl, rfl, h.symm⟩
  | x :: xs, y :: ys, i + 1, d, h => by
    obtain ⟨a, b, h1, h2, h3⟩ := zipD_get xs ys i d (by simpa [zipD] using h)
    exact ⟨a, b, by simpa using h1, by simpa using h2, h3⟩
theorem zipD_len : ∀ (as bs : List D), (zipD as bs).length = min as.length bs.length
  | [], bs => by simp [zipD]
  | x :: xs, [] => by simp [zipD]
  | x :: xs, y :: ys => by simp [zipD, zipD_len xs ys]
theorem itOk_enum {k : Bool} {a : Addr} {xs : List V} {ds : List D} (w : Wk K P H k a xs ds) : ItOk K P H true (ItK K k a) (enumD 0 ds) := by
  have l := w.rp.length
  refine ⟨fun i H1 q hi => ?_, fun i H1 x H2 d q hd hy => ?_, fun H1 q => ⟨xs, w.kp H1 q, by rw [enumD_len]; omega⟩⟩
  · rw [enumD_len] at hi
    exact ⟨xs, xs[i]'(by omega), w.kp H1 q, by simp⟩
  · obtain ⟨T, y, rfl, n, rfl, hx⟩ := hy
    obtain ⟨dx, e1, rfl⟩ := enumD_get _ _ _ _ hd
    obtain ⟨v, e3, e2⟩ := w.rp.old.get e1
    have e4 := hx xs (w.kp _ q)
    rw [e3] at e4
    cases e4
    refine ⟨upd_all n, (fun z => by cases z), fun _ => ⟨_, _, _, rfl, .inl (.inl upd_same), ?_, rfl⟩⟩
    rw [Nat.zero_add]
    exact .cons (.int _) (.cons ((e2.keep (q.mono fun _ z => z.1) fun _ z => z).keep (Keep.all (upd_all n)) fun _ z => z) .nil)
theorem itOk_zip {k l : Bool} {a b : Addr} {xs ys : List V} {ds es : List D} (w : Wk K P H k a xs ds) (w' : Wk K P H l b ys es) : ItOk K P H true (ItZ K k l a b) (zipD ds es) := by
  have l1 := w.rp.length
  have l2 := w'.rp.length
  refine ⟨fun i H1 q hi => ?_, fun i H1 x H2 d q hd hy => ?_, fun H1 q => ⟨xs, ys, w.kp H1 q, w'.kp H1 q, by rw [zipD_len]; omega⟩⟩
  · rw [zipD_len] at hi
    exact ⟨xs, ys, xs[i]'(by omega), ys[i]'(by omega), w.kp H1 q, w'.kp H1 q, by simp, by simp⟩
  · obtain ⟨T, y, z, rfl, n, rfl, hx, hz⟩ := hy
    obtain ⟨dx, dy, e1, e1', rfl⟩ := zipD_get _ _ _ _ hd
    obtain ⟨v, e3, e2⟩ := w.rp.old.get e1
    obtain ⟨v', e3', e2'⟩ := w'.rp.old.get e1'
    have e4 := hx xs (w.kp _ q)
    have e5 := hz ys (w'.kp _ q)
    rw [e3] at e4
    rw [e3'] at e5
    cases e4
    cases e5
    exact ⟨upd_all n, (fun z => by cases z), fun _ => ⟨_, _, _, rfl, .inl (.inl upd_same), .cons ((e2.keep (q.mono fun _ z => z.1) fun _ z => z).keep (Keep.all (upd_all n)) fun _ z => z) (.cons ((e2'.keep (q.mono fun _ z => z.1) fun _ z => z).keep (Keep.all (upd_all n)) fun _ z => z) .nil), rfl⟩⟩
end
def tI (Ph : CallF) (K : PySem.W.Frag) (W : WZ) (it : Itx) : TI := fun σ H R => ∃ (P0 : Pa) (env : Fram), RE K P0 env σ H ∧
  Post (evIt Ph it env) (fun p => ∀ J H', Aft K P0 env σ H p.2 H' → ItOk K (Stb P0 p.2 σ) H' (pairs it) J p.1 → R J H') (XP K W P0 env σ H)
section
variable {K : PySem.W.Frag} {W : WZ} {Ph : CallF} {σ : L2.St} {H : Hp} {R : L2.It → Hp → Prop} {a b : Exp}
theorem REs.keys {K : PySem.W.Frag} {P : Pa} {H : Hp} : ∀ {xs : List (NestedKey × Addr × Value)} {ds : List (D × D)}, REs K H P xs ds → RPs K H P (xs.map fun x => .ref x.2.1) (ds.map (·.1))
  | _, _, .nil => .nil
  | _, _, .cons n k1 k2 k3 r => .cons k1 (REs.keys r)
theorem itOk_dict {P : Pa} {a : Addr} {ep : Nat} {xs : List (NestedKey × Addr × Value)} {ds : List (D × D)} (p : P a) (h : Rd H a (.ext (rawD a ep xs))) (r : REs K H P xs ds) : ItOk K P H false (ItD a ep xs) (ds.map (·.1)) := by
  have l : xs.length = ds.length := r.length
  have kp : ∀ H1, Keep P H H1 → Rd H1 a (.ext (rawD a ep xs)) := fun H1 k => by
    rcases h with h | ⟨o, h⟩
    · exact .inl (k _ _ h (.inl p))
    · exact .inr ⟨o, k _ _ h (.inl p)⟩
  refine ⟨fun i H1 q hi => ⟨kp H1 q, by simpa [l] using hi⟩, fun i H1 x H2 d q hd hy => ?_, fun H1 q => ⟨kp H1 q, by simp [l]⟩⟩
  obtain ⟨rfl, k, b, u, hx, rfl⟩ := hy
  obtain ⟨v, e1, e2⟩ := r.keys.old.get hd
  rw [List.getElem?_map, hx] at e1
  cases e1
  exact ⟨fun _ _ e => e, fun _ => e2.keep (q.mono fun _ z => z.1) fun _ z => z, fun z => by cases z⟩
theorem ent_seq (h : tI Ph K W (.seq a) σ H R) : iSeqK K (tE Ph K W a) σ H R := by
  obtain ⟨P0, env, r, h⟩ := h
  unfold evIt at h
  refine tE_of r (post_bind.mp h) fun d env1 q v H1 a1 ra => ?_
  obtain ⟨ds, e, q⟩ := post_opt.mp (post_bind.mp q)
  have seq : items? d = some ds → (∃ a, v = .ref a ∧ ((∃ xs, SqL K H1 a xs) ∧ R (Itl K a) H1 ∨ (∃ xs, SqT K H1 a xs) ∧ R (Itt K a) H1 ∨ ∃ ep xs, Rd H1 a (.ext (rawD a ep xs)) ∧ R (ItD a ep xs) H1)) := fun e => by
    obtain ⟨k, c, xs, rfl, w⟩ := ra.walk e
    have z := q _ H1 a1 (itOk_seq w)
    cases k with
    | true => exact ⟨c, rfl, .inl ⟨⟨xs, w.sq⟩, z⟩⟩
    | false => exact ⟨c, rfl, .inr (.inl ⟨⟨xs, w.sq⟩, z⟩)⟩
  have e : walk? d = some ds := e
  cases ra with
  | dct p s r =>
    cases e
    exact ⟨_, rfl, .inr (.inr ⟨_, _, s, q _ H1 a1 (itOk_dict p s r)⟩)⟩
  | _ => exact seq e
theorem evs1 {p : Exp} {env : Fram} : evs Ph (.cons p .nil) env = (ev Ph p env).bind fun q => .ok ([q.1], q.2) := by
  unfold evs
  cases ev Ph p env with
  | ok q =>
    simp only [bind_ok]
    unfold evs
    rfl
  | _ => rfl
theorem evs2 {p p' : Exp} {env : Fram} : evs Ph (.cons p (.cons p' .nil)) env = (ev Ph p env).bind fun q => (ev Ph p' q.2).bind fun q' => .ok ([q.1, q'.1], q'.2) := by
  unfold evs
  cases ev Ph p env with
  | ok q =>
    simp only [bind_ok]
    rw [evs1]
    cases ev Ph p' q.2 with
    | ok q' => rfl
    | _ => rfl
  | _ => rfl
theorem post_evs1 {p : Exp} {env : Fram} {k : D × Fram → Prop} {x : Exc → Fram → Prop} (h : Post (ev Ph p env) k x) : Post (evs Ph (.cons p .nil) env) (fun q => ∃ d, q.1 = [d] ∧ k (d, q.2)) x := by
  rw [evs1]
  exact post_bind.mpr (h.imp (fun q z => (⟨q.1, rfl, z⟩ : ∃ d, [q.1] = [d] ∧ k (d, q.2))) fun _ _ z => z)
theorem post_evs2 {p p' : Exp} {env : Fram} {j : D → D × Fram → Prop} {x : Exc → Fram → Prop} (h : Post (ev Ph p env) (fun q => Post (ev Ph p' q.2) (j q.1) x) x) :
    Post (evs Ph (.cons p (.cons p' .nil)) env) (fun q => ∃ d e, q.1 = [d, e] ∧ j d (e, q.2)) x := by
  rw [evs2]
  refine post_bind.mpr (h.imp (fun q z => post_bind.mpr (z.imp (fun q' w => ?_) fun _ _ w => w)) fun _ _ z => z)
  exact (⟨q.1, q'.1, rfl, w⟩ : ∃ d e, [q.1, q'.1] = [d, e] ∧ j d (e, q'.2))
theorem ent_range1 (h : tI Ph K W (.range1 a) σ H R) : iRng1 (tEs Ph K W (.cons a .nil)) σ H R := by
  obtain ⟨P0, env, r, h⟩ := h
  unfold evIt at h
  refine tEs_of r (post_evs1 (post_bind.mp h)) fun ds env1 q vs H1 a1 rs => ?_
  obtain ⟨d, e, q⟩ := q
  have e : ds = [d] := e
  subst e
  cases rs with
  | cons r1 r2 =>
    cases r2
    cases r1 with
    | int j =>
      have q : Post (if -(2 ^ 62) ≤ j ∧ j ≤ LINE then Res.ok (rangeD 0 j, env1) else .bad) (fun p => ∀ J H', Aft K P0 env σ H p.2 H' → ItOk K (Stb P0 p.2 σ) H' false J p.1 → R J H') (XP K W P0 env σ H) := q
      split at q
      · rename_i hj
        have q : ∀ J H', Aft K P0 env σ H env1 H' → ItOk K (Stb P0 env1 σ) H' false J (rangeD 0 j) → R J H' := q
        obtain ⟨hn, hj⟩ := hj
        have hj' : j ≤ 16777216 := hj
        refine ⟨j, rfl, hn, by omega, q _ H1 a1 ?_⟩
        have := itOk_range (K := K) (P := Stb P0 env1 σ) (H := H1) (i := 0) (j := j)
        simpa using this
      · exact q.elim
    | _ => exact q.elim
theorem ent_range2 (h : tI Ph K W (.range2 a b) σ H R) : iRng2 (tEs Ph K W (.cons a (.cons b .nil))) σ H R := by
  obtain ⟨P0, env, r, h⟩ := h
  unfold evIt at h
  refine tEs_of r (post_evs2 (j := fun d p => Post (match d, p.1 with
    | .int i, .int j => if (-(2 ^ 62) ≤ i ∧ i < 2 ^ 62 ∧ -(2 ^ 62) ≤ j ∧ j < 2 ^ 62) ∧ j - i ≤ LINE then Res.ok (rangeD i j, p.2) else .bad
    | _, _ => .bad) (fun p => ∀ J H', Aft K P0 env σ H p.2 H' → ItOk K (Stb P0 p.2 σ) H' false J p.1 → R J H') (XP K W P0 env σ H)) ((post_bind.mp h).imp (fun p z => post_bind.mp z) fun _ _ z => z)) fun ds env1 q vs H1 a1 rs => ?_
  obtain ⟨d, e, ee, q⟩ := q
  have ee : ds = [d, e] := ee
  subst ee
  cases rs with
  | cons r1 r2 =>
    cases r2 with
    | cons r2 r3 =>
      cases r3
      cases r1 with
      | int i =>
        cases r2 with
        | int j =>
          have q : Post (if (-(2 ^ 62) ≤ i ∧ i < 2 ^ 62 ∧ -(2 ^ 62) ≤ j ∧ j < 2 ^ 62) ∧ j - i ≤ LINE then Res.ok (rangeD i j, env1) else .bad) (fun p => ∀ J H', Aft K P0 env σ H p.2 H' → ItOk K (Stb P0 p.2 σ) H' false J p.1 → R J H') (XP K W P0 env σ H) := q
          split at q
          · rename_i hj
            have q : ∀ J H', Aft K P0 env σ H env1 H' → ItOk K (Stb P0 env1 σ) H' false J (rangeD i j) → R J H' := q
            exact ⟨i, j, rfl, hj.1, q _ H1 a1 itOk_range⟩
          · exact q.elim
        | _ => exact q.elim
      | _ => exact q.elim
theorem ent_enum (h : tI Ph K W (.enum a) σ H R) : iEnumK K (tEs Ph K W (.cons a .nil)) σ H R := by
  obtain ⟨P0, env, r, h⟩ := h
  unfold evIt at h
  refine tEs_of r (post_evs1 (post_bind.mp h)) fun ds env1 q vs H1 a1 rs => ?_
  obtain ⟨d, e, q⟩ := q
  have e : ds = [d] := e
  subst e
  cases rs with
  | cons r1 r2 =>
    cases r2
    obtain ⟨xs, e, q⟩ := post_opt.mp (post_bind.mp q)
    obtain ⟨k, c, xs, rfl, w⟩ := r1.walk e
    exact ⟨c, xs, k, rfl, w.sq, q _ H1 a1 (itOk_enum w)⟩
theorem ent_zip (h : tI Ph K W (.zip a b) σ H R) : iZipK K (tEs Ph K W (.cons a (.cons b .nil))) σ H R := by
  obtain ⟨P0, env, r, h⟩ := h
  unfold evIt at h
  refine tEs_of r (post_evs2 (j := fun d p => Post ((opt (items? d)).bind fun xs => (opt (items? p.1)).bind fun ys => Res.ok (zipD xs ys, p.2)) (fun p => ∀ J H', Aft K P0 env σ H p.2 H' → ItOk K (Stb P0 p.2 σ) H' true J p.1 → R J H') (XP K W P0 env σ H)) ((post_bind.mp h).imp (fun p z => post_bind.mp z) fun _ _ z => z)) fun ds env1 q vs H1 a1 rs => ?_
  obtain ⟨d, e, ee, q⟩ := q
  have ee : ds = [d, e] := ee
  subst ee
  cases rs with
  | cons r1 r2 =>
    cases r2 with
    | cons r2 r3 =>
      cases r3
      obtain ⟨xs, e, q⟩ := post_opt.mp (post_bind.mp q)
      obtain ⟨ys, e', q⟩ := post_opt.mp (post_bind.mp q)
      obtain ⟨k, c, xs, rfl, w⟩ := r1.walk e
      obtain ⟨l, c', ys, rfl, w'⟩ := r2.walk e'
      exact ⟨c, c', xs, ys, k, l, rfl, w.sq, w'.sq, q _ H1 a1 (itOk_zip w w')⟩
end
end PV
set_option Elab.async false
set_option linter.all false
set_option maxRecDepth 100000
set_option maxHeartbeats 2000000
/-! PV, part J: comprehensions. -/
namespace PV
open PySem PySem.Spec PyProof.Rows L2
variable [Wd]
section
theorem wipeF_len (env : Fram) : ∀ vs : List Nat, (wipeF env vs).length = env.length
  | [] => rfl
  | v :: vs => by unfold wipeF; rw [List.length_set, wipeF_len env vs]
theorem wipeF_get (env : Fram) (i : Nat) : ∀ vs : List Nat, (wipeF env vs)[i]? = if i ∈ vs ∧ i < env.length then some .non else env[i]?
  | [] => by simp [wipeF]
  | v :: vs => by
    unfold wipeF
    by_cases h : v = i
    · subst h
      by_cases hl : v < env.length
      · rw [List.getElem?_set_self (by rw [wipeF_len]; exact hl), if_pos ⟨List.mem_cons_self, hl⟩]
      · rw [List.getElem?_eq_none (by rw [List.length_set, wipeF_len]; omega), if_neg (fun z => hl z.2), List.getElem?_eq_none (by omega)]
    · rw [List.getElem?_set_ne h, wipeF_get env i vs]
      by_cases q : i ∈ vs ∧ i < env.length
      · rw [if_pos q, if_pos ⟨List.mem_cons_of_mem _ q.1, q.2⟩]
      · rw [if_neg q, if_neg (fun z => q ⟨(List.mem_cons.mp z.1).resolve_left (fun e => h e.symm), z.2⟩)]
theorem wipe_get (σ : L2.St) (i : Nat) : ∀ vs : List Nat, (wipe σ vs)[i]? = if i ∈ vs ∧ i < σ.length then some none else σ[i]?
  | [] => by simp [wipe]
  | v :: vs => by
    unfold wipe
    by_cases h : v = i
    · subst h
      by_cases hl : v < σ.length
      · rw [List.getElem?_set_self (by rw [wipe_length]; exact hl), if_pos ⟨List.mem_cons_self, hl⟩]
      · rw [List.getElem?_eq_none (by rw [List.length_set, wipe_length]; omega), if_neg (fun z => hl z.2), List.getElem?_eq_none (by omega)]
    · rw [List.getElem?_set_ne h, wipe_get σ i vs]
      by_cases q : i ∈ vs ∧ i < σ.length
      · rw [if_pos q, if_pos ⟨List.mem_cons_of_mem _ q.1, q.2⟩]
      · rw [if_neg q, if_neg (fun z => q ⟨(List.mem_cons.mp z.1).resolve_left (fun e => h e.symm), z.2⟩)]
theorem restore_len (env old : Fram) : ∀ vs : List Nat, (restore env old vs).length = env.length
  | [] => rfl
  | v :: vs => by unfold restore; rw [List.length_set, restore_len env old vs]
theorem restore_get (env old : Fram) (i : Nat) : ∀ vs : List Nat, (restore env old vs)[i]? = if i ∈ vs ∧ i < env.length then some (old[i]?.getD .non) else env[i]?
  | [] => by simp [restore]
  | v :: vs => by
    unfold restore
    by_cases h : v = i
    · subst h
      by_cases hl : v < env.length
      · rw [List.getElem?_set_self (by rw [restore_len]; exact hl), if_pos ⟨List.mem_cons_self, hl⟩]
      · rw [List.getElem?_eq_none (by rw [List.length_set, restore_len]; omega), if_neg (fun z => hl z.2), List.getElem?_eq_none (by omega)]
    · rw [List.getElem?_set_ne h, restore_get env old i vs]
      by_cases q : i ∈ vs ∧ i < env.length
      · rw [if_pos q, if_pos ⟨List.mem_cons_of_mem _ q.1, q.2⟩]
      · rw [if_neg q, if_neg (fun z => q ⟨(List.mem_cons.mp z.1).resolve_left (fun e => h e.symm), z.2⟩)]
theorem wipe_same {σ σ2 : L2.St} {vs is : List Nat} (hl : σ2.length = σ.length) (h : ∀ i, i ∉ is → σ2[i]? = (wipe σ vs)[i]?) (hs : ∀ i ∈ is, i ∈ vs) : wipe σ2 vs = wipe σ vs := by
  refine List.ext_getElem? fun i => ?_
  rw [wipe_get, wipe_get]
  by_cases q : i ∈ vs
  · rw [hl]
    by_cases ql : i < σ.length
    · rw [if_pos ⟨q, ql⟩, if_pos ⟨q, ql⟩]
    · rw [if_neg (fun z => ql z.2), if_neg (fun z => ql z.2), List.getElem?_eq_none (by omega), List.getElem?_eq_none (by omega)]
  · rw [if_neg (fun z => q z.1), if_neg (fun z => q z.1), h i (fun z => q (hs i z)), wipe_get, if_neg (fun z => q z.1)]
variable {K : PySem.W.Frag} {H H' H1 : Hp} {P0 P1 P : Pa} {env env' env1 envi : Fram} {σ : L2.St} {vs : List Nat}
theorem OwnA.wiped {a : Addr} (h : OwnA (wipeF env vs) (wipe σ vs) a) : OwnA env σ a := by
  obtain ⟨i, d, h1, h2⟩ := h
  rw [wipeF_get] at h1
  rw [wipe_get] at h2
  by_cases q : i ∈ vs
  · by_cases ql : i < env.length
    · rw [if_pos ⟨q, ql⟩] at h1
      cases h1
    · rw [if_neg (fun z => ql z.2), List.getElem?_eq_none (by omega)] at h1
      cases h1
  · rw [if_neg (fun z => q z.1)] at h1 h2
    exact ⟨i, d, h1, h2⟩
theorem RE.wipe (r : RE K P0 env σ H) (vs : List Nat) : RE K P0 (wipeF env vs) (L2.wipe σ vs) H := by
  have m : ∀ a, Stb P0 env σ a → Stb P0 (wipeF env vs) (L2.wipe σ vs) a := fun a z => ⟨z.1, fun w => z.2 w.wiped⟩
  have at_ : ∀ {i : Nat} {s : Slot}, s ≠ .non → (wipeF env vs)[i]? = some s → env[i]? = some s ∧ (L2.wipe σ vs)[i]? = σ[i]? := fun {i s} hs h => by
    rw [wipeF_get] at h
    by_cases q : i ∈ vs
    · by_cases ql : i < env.length
      · rw [if_pos ⟨q, ql⟩] at h
        cases h
        exact absurd rfl hs
      · rw [if_neg (fun z => ql z.2), List.getElem?_eq_none (by omega)] at h
        cases h
    · rw [if_neg (fun z => q z.1)] at h
      refine ⟨h, ?_⟩
      rw [wipe_get, if_neg (fun z => q z.1)]
  refine ⟨by rw [wipe_length, wipeF_len, r.len], fun i d h => ?_, fun i d h => ?_, fun i j d e a h1 h2 h3 h4 => ?_, r.new, fun i d a h0 h1 h2 => ?_⟩
  · obtain ⟨h1, h2⟩ := at_ (by intro z; cases z) h
    obtain ⟨v, h3, h4⟩ := r.val i d h1
    exact ⟨v, by rw [h2]; exact h3, h4.mono m⟩
  · obtain ⟨h1, h2⟩ := at_ (by intro z; cases z) h
    obtain ⟨v, h3, h4⟩ := r.own i d h1
    exact ⟨v, by rw [h2]; exact h3, h4.mono m⟩
  · obtain ⟨h1, e1⟩ := at_ (by intro z; cases z) h1
    obtain ⟨h2, e2⟩ := at_ (by intro z; cases z) h2
    rw [e1] at h3
    rw [e2] at h4
    exact r.inj i j d e a h1 h2 h3 h4
  · obtain ⟨h1, e1⟩ := at_ (by intro z; cases z) h1
    rw [e1] at h2
    exact r.pos i d a h0 h1 h2
theorem wipeF_not (env : Fram) (vs : List Nat) : ∀ v ∈ vs, isOwn (wipeF env vs) v = false := fun v hv => by
  unfold isOwn
  rw [wipeF_get]
  by_cases hl : v < env.length
  · rw [if_pos ⟨hv, hl⟩]
  · rw [if_neg (fun z => hl z.2), List.getElem?_eq_none (by omega)]
/-- P1 is less -/
theorem RE.weaken (r : RE K P1 env σ H) (m : ∀ a, P1 a → P0 a) : RE K P0 env σ H :=
  have m' : ∀ a, Stb P1 env σ a → Stb P0 env σ a := fun a z => ⟨m a z.1, z.2⟩
  ⟨r.len, fun i d h => let ⟨v, h1, h2⟩ := r.val i d h; ⟨v, h1, h2.mono m'⟩, fun i d h => let ⟨v, h1, h2⟩ := r.own i d h; ⟨v, h1, h2.mono m'⟩, r.inj, fun b h => m b (r.new b h), fun i d a h0 h1 h2 => m a (r.pos i d a h0 h1 h2)⟩
/-- a list that is not the frame's is changed -/
theorem RE.touch {b : Addr} {o o' : HO} (r : RE K P0 env σ H) (hp : ¬ P0 b) (hb : H b = some o) (ht : tupO o = false) (ho : ¬ OwnA env σ b) : RE K P0 env σ (upd H b o') := by
  have k : Keep (Stb P0 env σ) H (upd H b o') := fun a u e h => by
    rw [upd_ne]
    · exact e
    · rintro rfl
      rcases h with h | h
      · exact hp h.1
      · rw [hb] at e
        cases e
        rw [ht] at h
        cases h
  refine ⟨r.len, fun i d h => let ⟨v, h1, h2⟩ := r.val i d h; ⟨v, h1, h2.keep k fun _ z => z⟩, fun i d h => ?_, r.inj, fun c h => ?_, r.pos⟩
  · obtain ⟨a, h1, h2⟩ := r.own i d h
    refine ⟨a, h1, h2.keep (fun xs z _ => ?_) k fun _ z => z⟩
    rw [upd_ne]
    · exact z
    · rintro rfl
      exact ho ⟨i, d, h, h1⟩
  · by_cases e : c = b
    · subst e
      rw [upd_same] at h
      cases h
    · rw [upd_ne e] at h
      exact r.new c h
theorem own_restore (hv : ∀ v ∈ vs, isOwn env1 v = false) {a : Addr} (h : OwnA (restore envi env1 vs) σ a) : OwnA envi (L2.wipe σ vs) a := by
  obtain ⟨i, d, h1, h2⟩ := h
  rw [restore_get] at h1
  by_cases q : i ∈ vs
  · by_cases ql : i < envi.length
    · rw [if_pos ⟨q, ql⟩] at h1
      exfalso
      have := hv i q
      unfold isOwn at this
      cases e : env1[i]? with
      | none =>
        rw [e] at h1
        cases h1
      | some s =>
        rw [e] at h1 this
        cases s with
        | own d' => cases this
        | _ => cases h1
    · rw [if_neg (fun z => ql z.2), List.getElem?_eq_none (by omega)] at h1
      cases h1
  · rw [if_neg (fun z => q z.1)] at h1
    exact ⟨i, d, h1, by rw [wipe_get, if_neg (fun z => q z.1)]; exact h2⟩
/-- the slots as they were -/
theorem RE.restore (ri : RE K P0 envi (L2.wipe σ vs) H) (hv : ∀ v ∈ vs, isOwn env1 v = false) (hw : ∀ v ∈ vs, isOwn envi v = false) (hl : σ.length = env1.length)
    (old : ∀ (i : Nat) (d : D), env1[i]? = some (.val d) → ∃ v, σ[i]? = some (some v) ∧ RP K H (Stb P0 (PV.restore envi env1 vs) σ) v d) : RE K P0 (PV.restore envi env1 vs) σ H := by
  have lenI : envi.length = σ.length := by rw [← ri.len, wipe_length]
  have m : ∀ a, Stb P0 envi (L2.wipe σ vs) a → Stb P0 (PV.restore envi env1 vs) σ a := fun a z => ⟨z.1, fun w => z.2 (own_restore hv w)⟩
  have notv : ∀ {i : Nat} {d : D}, (PV.restore envi env1 vs)[i]? = some (.own d) → envi[i]? = some (.own d) ∧ (L2.wipe σ vs)[i]? = σ[i]? := fun {i d} h => by
    rw [restore_get] at h
    by_cases q : i ∈ vs
    · by_cases ql : i < envi.length
      · rw [if_pos ⟨q, ql⟩] at h
        exfalso
        have := hv i q
        unfold isOwn at this
        cases e : env1[i]? with
        | none =>
          rw [e] at h
          cases h
        | some s =>
          rw [e] at h this
          cases s with
          | own d' => cases this
          | _ => cases h
      · rw [if_neg (fun z => ql z.2), List.getElem?_eq_none (by omega)] at h
        cases h
    · rw [if_neg (fun z => q z.1)] at h
      exact ⟨h, by rw [wipe_get, if_neg (fun z => q z.1)]⟩
  refine ⟨by rw [restore_len, lenI], fun i d h => ?_, fun i d h => ?_, fun i j d e a h1 h2 h3 h4 => ?_, ri.new, fun i d a h0 h1 h2 => ?_⟩
  · rw [restore_get] at h
    by_cases q : i ∈ vs
    · by_cases ql : i < envi.length
      · rw [if_pos ⟨q, ql⟩] at h
        cases e : env1[i]? with
        | none =>
          rw [e] at h
          cases h
        | some s =>
          rw [e] at h
          cases h
          exact old i d e
      · rw [if_neg (fun z => ql z.2), List.getElem?_eq_none (by omega)] at h
        cases h
    · rw [if_neg (fun z => q z.1)] at h
      obtain ⟨v, h1, h2⟩ := ri.val i d h
      rw [wipe_get, if_neg (fun z => q z.1)] at h1
      exact ⟨v, h1, h2.mono m⟩
  · obtain ⟨h1, e1⟩ := notv h
    obtain ⟨a, h2, h3⟩ := ri.own i d h1
    exact ⟨a, by rw [← e1]; exact h2, h3.mono m⟩
  · obtain ⟨h1, e1⟩ := notv h1
    obtain ⟨h2, e2⟩ := notv h2
    rw [← e1] at h3
    rw [← e2] at h4
    exact ri.inj i j d e a h1 h2 h3 h4
  · obtain ⟨h1, e1⟩ := notv h1
    rw [← e1] at h2
    exact ri.pos i d a h0 h1 h2
theorem post_noExc {A : Type} {r : Res A} {k : A → Prop} {x x' : Exc → Fram → Prop} (h : Post (noExc r) k x) : Post r k x' := by
  cases r with
  | ok a => exact h
  | _ => exact h.elim
end
def tTs (Ph : CallF) (K : PySem.W.Frag) (W : WZ) (cs : Exs) : TT := fun σ H Q => ∃ (P0 : Pa) (env : Fram), RE K P0 env σ H ∧
  Post (evTests Ph cs env) (fun p => ∀ H', Aft K P0 env σ H p.2 H' → Q p.1 H') (XP K W P0 env σ H)
section
variable {K : PySem.W.Frag} {W : WZ} {Ph : CallF} {σ : L2.St} {H : Hp} {Q : VK}
theorem ent_tests0 {Q : Bool → Hp → Prop} (h : tTs Ph K W .nil σ H Q) : tYes σ H Q := by
  obtain ⟨P0, env, r, h⟩ := h
  unfold evTests at h
  exact h H (Aft.refl r)
theorem ent_tests1 {c : Exp} {Q : Bool → Hp → Prop} (h : tTs Ph K W (.cons c .nil) σ H Q) : tT Ph K W c σ H Q := by
  obtain ⟨P0, env, r, h⟩ := h
  unfold evTests at h
  refine tT_of r (post_bind.mp h) fun d env1 q => ?_
  cases d with
  | bool b =>
    refine ⟨b, rfl, fun H1 a1 => ?_⟩
    cases b with
    | true =>
      have q : Post (evTests Ph .nil env1) (fun p => ∀ H', Aft K P0 env σ H p.2 H' → Q p.1 H') (XP K W P0 env σ H) := q
      unfold evTests at q
      exact q H1 a1
    | false => exact q H1 a1
  | _ => exact q.elim
theorem PTs.imp {X : Cx} {ifs : List Expr} {t t' : TT} (h : PTs X ifs t) (m : ∀ σ H Q, t' σ H Q → t σ H Q) : PTs X ifs t' := ⟨fun pins s σ H Q I q => h.run pins s σ H Q I (m σ H Q q)⟩
/-- a turn of the comprehension -/
def compTurn (Ph : CallF) (elt : Exp) (tg : Tg) (cs : Exs) (vs : List Nat) : D → Fram → Res (Option D × Fram) := fun x e => noExc ((opt (store tg x e)).bind fun e1 => (evTests Ph cs e1).bind fun q => match q.1 with
      | true => (ev Ph elt q.2).bind fun r => .ok (some r.1, wipeF r.2 vs)
      | false => .ok (none, wipeF q.2 vs))
theorem ent_lc {elt : Exp} {tg : Tg} {it : Itx} {cs : Exs} {own : List (Str × Nat)} (ht : ∀ i ∈ tgSlots tg, i ∈ own.map (·.2)) (hp : pairs it = true → isTg tg = true) (h : tG Ph K W (.comp elt tg it cs own) σ H Q) :
    tLc (tI Ph K W it) (tTg K tg) (tTs Ph K W cs) (tE Ph K W elt) (own.map (·.2)) σ H Q := by
  obtain ⟨P0, env, r, h⟩ := h
  unfold ev at h
  refine ⟨P0, env, r, (post_bind.mp h).imp (fun p q J H1 a1 io D nD => ?_) fun _ _ x => x⟩
  clear h
  obtain ⟨xs, env1⟩ := p
  generalize hvs : own.map (·.2) = vs at *
  have q : Post (if ((vs.all fun v => !isOwn env1 v) && decide (xs.length ≤ LINE)) = true then (compLoop (compTurn Ph elt tg cs vs) xs [] (wipeF env1 vs)).bind fun r => Res.ok (PyData.list r.1, restore r.2 env1 vs) else .bad)
    (fun p => ∀ v H', Aft K P0 env σ H p.2 H' → RP K H' (Stb P0 p.2 σ) v p.1 → Frs K P0 p.2 σ H H' v p.1 → Q v H') (XP K W P0 env σ H) := q
  have hc : ((vs.all fun v => !isOwn env1 v) && decide (xs.length ≤ LINE)) = true := by
    cases e : ((vs.all fun v => !isOwn env1 v) && decide (xs.length ≤ LINE)) with
    | true => rfl
    | false =>
      rw [e, if_neg Bool.false_ne_true] at q
      exact q.elim
  rw [if_pos hc] at q
  have q := post_bind.mp q
  simp only [Bool.and_eq_true, List.all_eq_true, Bool.not_eq_true', decide_eq_true_eq] at hc
  obtain ⟨hown, hlen⟩ := hc
  have io : ItOk K (Stb P0 env1 σ) H1 (pairs it) J xs := io
  have a1 : Aft K P0 env σ H env1 H1 := a1
  have noD : ∀ {e : Fram} {s : L2.St}, (∀ a, OwnA e s a → OwnA env1 σ a) → ¬ OwnA e s D := fun {e s} m z => by
    obtain ⟨ys, e', _⟩ := a1.re.ownAt (m D z)
    rw [nD] at e'
    cases e'
  -- the invariant
  let P1 : Pa := fun a => P0 a ∧ a ≠ D
  let Pv : Nat → Hp → Prop := fun i Hc => ∃ (acc : List PyData) (ws : List V) (envi : Fram), Hc D = some (.lst ws) ∧ acc.length ≤ i ∧ RPs K Hc (Stb P1 envi (wipe σ vs)) ws acc ∧ RE K P1 envi (wipe σ vs) Hc ∧ (∀ v ∈ vs, isOwn envi v = false) ∧
    (∀ a, OwnA envi (wipe σ vs) a → OwnA env1 σ a) ∧ KeepO env1 σ H1 Hc ∧ (∀ a, Hc a = none → H1 a = none) ∧
    Post (compLoop (compTurn Ph elt tg cs vs) (xs.drop i) acc envi) (fun r => ∀ v H', Aft K P0 env σ H (restore r.2 env1 vs) H' → RP K H' (Stb P0 (restore r.2 env1 vs) σ) v (.list r.1) → Frs K P0 (restore r.2 env1 vs) σ H H' v (.list r.1) → Q v H') (XP K W P0 env σ H)
  refine ⟨fun i m Hc => m = xs.length - i ∧ i ≤ xs.length ∧ Pv i Hc, ⟨_, rfl, Nat.zero_le _, [], [], wipeF env1 vs, upd_same, Nat.le_refl _, .nil, (a1.re.fresh nD).wipe vs, wipeF_not _ _, fun a z => z.wiped, fun a o e _ => upd_all nD a o e, fun a e => none_grow (upd_all nD) a e, ?_⟩, ?_⟩
  · rw [List.drop_zero]
    exact q
  · rintro i m Hc ⟨rfl, hi, acc, ws, envi, hD, hacc, rs, ri, hw, less, ko, tr, q⟩
    have kp : Keep (Stb P0 env1 σ) H1 Hc := ko.keep a1.re
    by_cases hlt : i < xs.length
    · refine .inr ⟨io.go i Hc kp hlt, Pv (i + 1), fun H' p' => ⟨_, by omega, rfl, hlt, p'⟩, fun x H' hy => ?_⟩
      obtain ⟨grow, rx⟩ := io.yld i Hc x H' xs[i] kp (by simp) hy
      rw [List.drop_eq_getElem_cons hlt] at q
      unfold compLoop at q
      have q := post_bind.mp q
      unfold compTurn at q
      have q := post_noExc (x' := fun _ _ => False) q
      obtain ⟨env2, es, q⟩ := post_opt.mp (post_bind.mp q)
      have rx2 : RPg K H' (Stb P1 envi (wipe σ vs)) tg x xs[i] := rx.g hp fun a z => ⟨⟨z.1.1, fun e => z.2 (by rw [e]; exact nD)⟩, fun w => z.1.2 (less a w)⟩
      refine ⟨P1, envi, xs[i], env2, ri.grow grow, rx2, es, fun σ2 sto => ⟨?_, ?_⟩⟩
      · exact wipe_same (by rw [sto.len, wipe_length]) sto.same ht
      have ws2 : wipe σ2 vs = wipe σ vs := wipe_same (by rw [sto.len, wipe_length]) sto.same ht
      have less2 : ∀ a, OwnA env2 σ2 a → OwnA env1 σ a := fun a z => less a ((sto.own a).mp z)
      have kb : Keep (Stb P1 envi (wipe σ vs)) Hc H' := Keep.all grow
      have mb : ∀ a, Stb P1 envi (wipe σ vs) a → Stb P1 env2 σ2 a := fun a z => ⟨z.1, fun w => z.2 ((sto.own a).mp w)⟩
      refine ⟨P1, env2, sto.re, (post_bind.mp q).imp (fun p q => ?_) fun z e x H4 a4 => ?_⟩
      · obtain ⟨b, env3⟩ := p
        intro H3 a3
        have a3 : Aft K P1 env2 σ2 H' env3 H3 := a3
        have less3 : ∀ a, OwnA env3 σ2 a → OwnA env1 σ a := fun a z => less2 a (a3.less a z)
        have hD3 : H3 D = some (.lst ws) := a3.ko D _ (grow D _ hD) (noD less2)
        have rs3 : RPs K H3 (Stb P1 env3 σ2) ws acc := a3.rps sto.re (rs.keep kb mb)
        have ko3 : KeepO env1 σ H1 H3 := fun a o e n => a3.ko a o (grow a o (ko a o e n)) fun z => n (less2 a z)
        have tr3 : ∀ a, H3 a = none → H1 a = none := fun a e => tr a (none_grow grow a (a3.tr a e))
        cases b with
        | false =>
          have q : Post (compLoop (compTurn Ph elt tg cs vs) (xs.drop (i + 1)) acc (wipeF env3 vs)) _ _ := q
          refine ⟨acc, ws, wipeF env3 vs, hD3, by omega, ?_, ?_, wipeF_not _ _, fun a z => ?_, ko3, tr3, q⟩
          · rw [← ws2]
            exact rs3.mono fun a z => ⟨z.1, fun w => z.2 w.wiped⟩
          · rw [← ws2]
            exact a3.re.wipe vs
          · rw [← ws2] at z
            exact less3 a z.wiped
        | true =>
          have q : Post ((ev Ph elt env3).bind fun r => Res.ok (some r.1, wipeF r.2 vs)) _ _ := q
          refine ⟨P1, env3, a3.re, (post_bind.mp q).imp (fun p q => ?_) fun z e x H4 a4 => ?_⟩
          · obtain ⟨dy, env4⟩ := p
            intro y H4 a4 ry
            have a4 : Aft K P1 env3 σ2 H3 env4 H4 := a4
            have less4 : ∀ a, OwnA env4 σ2 a → OwnA env1 σ a := fun a z => less3 a (a4.less a z)
            have hD4 : H4 D = some (.lst ws) := a4.ko D _ hD3 (noD less3)
            have rs4 : RPs K H4 (Stb P1 env4 σ2) ws acc := a4.rps a3.re rs3
            have q : Post (compLoop (compTurn Ph elt tg cs vs) (xs.drop (i + 1)) (acc ++ [dy]) (wipeF env4 vs)) _ _ := q
            have lw := rs.length
            have kd : Keep (Stb P1 env4 σ2) H4 (upd H4 D (.lst (ws ++ [y]))) := fun a u e h => by
              rw [upd_ne]
              · exact e
              · rintro rfl
                rcases h with h | h
                · exact h.1.2 rfl
                · rw [hD4] at e
                  cases e
                  cases h
            have keepD : ∀ a o, a ≠ D → H4 a = some o → upd H4 D (.lst (ws ++ [y])) a = some o := fun a o n e => by
              rw [upd_ne n]
              exact e
            refine ⟨ws, hD4, by rw [sizeLine_eq]; have : LINE = 16777216 := rfl; omega, acc ++ [dy], ws ++ [y], wipeF env4 vs, upd_same, by simp; omega, ?_, ?_, wipeF_not _ _, fun a z => ?_, fun a o e n => ?_, fun a e => ?_, q⟩
            · rw [← ws2]
              exact ((rs4.append (.cons ry .nil)).keep kd fun _ z => z).mono fun a z => ⟨z.1, fun w => z.2 w.wiped⟩
            · rw [← ws2]
              exact (a4.re.touch (fun z => z.2 rfl) hD4 rfl (noD less4)).wipe vs
            · rw [← ws2] at z
              exact less4 a z.wiped
            · refine keepD a o ?_ (a4.ko a o (ko3 a o e n) fun z => n (less3 a z))
              rintro rfl
              rw [nD] at e
              cases e
            · refine tr3 a (a4.tr a ?_)
              by_cases n : a = D
              · subst n
                rw [upd_same] at e
                cases e
              · rw [upd_ne n] at e
                exact e
          · exact x.elim
      · exact x.elim
    · have e : i = xs.length := by omega
      subst e
      refine .inl ⟨io.stop Hc kp, ?_⟩
      rw [List.drop_length] at q
      unfold compLoop at q
      have q : ∀ v H', Aft K P0 env σ H (restore envi env1 vs) H' → RP K H' (Stb P0 (restore envi env1 vs) σ) v (.list acc) → Frs K P0 (restore envi env1 vs) σ H H' v (.list acc) → Q v H' := q
      have lr : ∀ a, OwnA (restore envi env1 vs) σ a → OwnA env1 σ a := fun a z => less a (own_restore hown z)
      have re1 : RE K P1 (restore envi env1 vs) σ Hc := by
        refine ri.restore hown hw a1.re.len fun i d e => ?_
        obtain ⟨v, h1, h2⟩ := a1.re.val i d e
        refine ⟨v, h1, (h2.avoid nD).keep (fun a o e h => ?_) fun a z => ?_⟩
        · exact kp a o e (h.imp_left fun z => z.1)
        · exact ⟨⟨z.1.1, z.2⟩, fun w => z.1.2 (lr a w)⟩
      have re0 : RE K P0 (restore envi env1 vs) σ Hc := re1.weaken fun a z => z.1
      have aft : Aft K P0 env σ H (restore envi env1 vs) Hc := ⟨re0, a1.ko.trans ko a1.less, fun a z => a1.less a (lr a z), fun a e => a1.tr a (tr a e)⟩
      have rs' : RPs K Hc (Stb P1 (restore envi env1 vs) σ) ws acc := rs.mono fun a z => ⟨z.1, fun w => z.2 (own_restore hown w)⟩
      refine q (.ref D) Hc aft (.lst ⟨a1.re.new D nD, noD lr⟩ (.inl hD) (rs'.mono fun a z => ⟨z.1.1, z.2⟩)) fun _ => ⟨D, rfl, a1.tr D nD, re1, .lst hD rs'⟩
end
end PV
set_option Elab.async false
set_option linter.all false
set_option maxRecDepth 100000
set_option maxHeartbeats 2000000
/-! PV, part Z: dicts made of pairs, by a comprehension and by dict(..). -/
namespace PV
open PySem PySem.Spec PyProof.Rows L2
variable [Wd]
section
variable {X : Cx} {pins : List (Addr × Obj)} {σ : L2.St} {s : Shared} {H : Hp}
/-- a thing is laid under a key, by the block of a comprehension -/
theorem dset_key (rm : RoomX X) {E : Value → Shared → Prop} {Z : Addr} {y z : V} {uy uz : Value} {Nx : Hp → Prop} {Q : Unit → Shared → Prop} (I : Inv X pins σ H s) (ry : RelV y uy) (rz : RelV z uz) (h : rSetK X.K (.ref Z) y z H Nx)
    (fin : ∀ s' H', Inv X pins σ H' s' → Nx H' → Q () s') : wpAny (model X.prog X.w) X.A (dictSet Z uy uz) Q E s := by
  obtain ⟨d, ep0, xs, P, ds, kd, k, ez, hi, hk, hd, ra, hl, q⟩ := h
  cases ez
  obtain ⟨rfl, hdp, ks, ek⟩ := key_s hk
  obtain ⟨g1, g2, hm⟩ := dictOf I rm.pw (.inl hd) ra
  obtain ⟨as, rd⟩ := Dp.reads I _ _ _ (hi.dp (noDict_data _)) ry
  have un := rm.un
  have nk := nested_reads _ rd
  obtain ⟨c, rfl, rfl⟩ : ∃ c, y = .ref c ∧ uy = .ref c := by
    subst ek
    unfold NestedKey.data at hi
    cases hi with
    | tup s' r =>
      cases ry
      exact ⟨_, rfl, rfl⟩
  have room : (nestedKind X.prog X.w).room X.A := by
    show X.A.units + 8 < cLine
    omega
  refine wpAny_dictSet_heap (knd := nestedKind X.prog X.w) room ⟨nk, hdp⟩ hm (fun g hg hs' => ?_) g2
  obtain ⟨o, es, ep, e1, e2, e3, e4, e5, e6⟩ := id hg
  have raw : rawD Z ep (storedH xs k c uz) g := by
    refine ⟨g1, ?_, o, es, e1, e2, e3, ?_, e6⟩
    · have : (storedH xs k c uz).length ≤ xs.length + 1 := by
        unfold storedH
        split <;> simp
      omega
    · rw [← rm.pw.1, ← rm.pw.2]
      exact e4
  exact fin _ _ (I.write (x := Z) (e := Z) (o := .ext (rawD Z ep (storedH xs k c uz))) (by rw [hd]; trivial) (.inl rfl) (fun b ob hb e => (hs'.2 b hb).trans e) ⟨_, e1⟩ ⟨raw, ⟨_, e1⟩, rawD_mono⟩) (q ep c uz rfl rz)
/-- {k: v for t in xs}: Z the new dict, its keys tuples -/
def tDcR (K : PySem.W.Frag) (wi : TI) (g : TG) (tk tv : TE) (vs : List Nat) : TE := fun σ H Q => wi σ H fun J G => ∀ Z, G Z = none → ∃ W : Nat → Nat → Hp → Prop, (∃ m, W 0 m (upd G Z (.ext (rawD Z 0 [])))) ∧ ∀ i m B, W i m B →
  (J.stop i B ∧ Q (.ref Z) B) ∨ (J.go i B ∧ ∃ Nx : Hp → Prop, (∀ B', Nx B' → ∃ m', m' < m ∧ W (i + 1) m' B') ∧ ∀ x B', J.yld i B x B' → g x (wipe σ vs) B' fun τ C => wipe τ vs = wipe σ vs ∧ tk τ C fun y C2 => tv τ C2 fun z C3 => rSetK K (.ref Z) y z C3 Nx)
theorem laid_dict (I : Inv X pins σ H s) : Inv X pins σ (upd H s.heap.objs.size (.ext (rawD s.heap.objs.size 0 []))) { s with heap := s.heap.push { cls := .type "dict", data := .dict #[] } } :=
  I.laid (a := s.heap.objs.size) (t' := s.toks) (fun _ _ q => Heap.get?_push_of_some _ q) (Nat.le_refl _)
    ⟨⟨beq_eq_false_iff_ne.mpr (Ne.symm (Nat.ne_of_lt I.big)), Nat.zero_le _, _, #[], Heap.get?_push_size _ rfl, ⟨rfl, rfl, rfl⟩, rfl, rfl, List.nodup_nil⟩, ⟨_, Heap.get?_push_size _ rfl⟩, rawD_mono⟩
theorem dcR {Q : VK} {kx vx tg iter : Expr} {scope : Scope} {own : List (Str × Nat)} {pos pos' : Pos} {wi : TI} {g : TG} {tk tv : TE} {use : Option (Value → Sem Unit)} {Qf : Value → Shared → Prop}
    (calm : X.calm = true) (nd : X.N.Nodup) (rm : RoomX X) (I : Inv X pins σ H s) (pit : PI X tg iter wi) (bl : BlkOk X.N X.env.scope scope own)
    (pgs : ∀ (t : Shared) (B : Hp) (Ca : Addr) (cl : List (Str × Addr)) (fp : List Addr), PG (X.blk t B scope (compEnvC scope cl Ca X.env) fp) tg g)
    (pks : ∀ (t : Shared) (B : Hp) (Ca : Addr) (cl : List (Str × Addr)) (fp : List Addr), PE (X.blk t B scope (compEnvC scope cl Ca X.env) fp) kx tk)
    (pvs : ∀ (t : Shared) (B : Hp) (Ca : Addr) (cl : List (Str × Addr)) (fp : List Addr), PE (X.blk t B scope (compEnvC scope cl Ca X.env) fp) vx tv) (fold : ∀ x, foldedSetIterable iter X.env x = pure x)
    (h : tDcR X.K wi g tk tv (own.map (·.2)) σ H Q)
    (back : ∀ Z C t m B, Inv X pins σ B t → Q (.ref Z) B → t.heap.Ns C m → FpOk X pins B C → compPost (model X.prog X.w) X.A X.xe use Qf (.ref Z) C (.ok .next) t) :
    wpAny (model X.prog X.w) X.A (comprehension (.DictComp kx vx [⟨tg, iter, [], 0⟩] scope pos) scope X.env pos' newDict false (eval iter X.env) use) Qf X.xe s := by
  have frees : ∀ y ∈ scope.names, y.2 = .free → ∃ c, X.env.cells.lookup y.1 = some c := by
    intro y hy e
    cases bl.free y hy e with
    | inl k => exact I.ok.has _ (.inl k)
    | inr k => exact I.ok.has _ (.inr k)
  refine wpAny_comprehension_free (use := use) rfl fold (closure_ok frees) bl.kind (fun y hy e => by rw [bl.uniq y hy, e]) (thn (pit.run pins s σ H _ I h) fun xv t1 hx => thn hx fun itv t2 came => ?_)
  obtain ⟨it, fp, tn, J, B2, rfl, I2, T, at2, ok2, wish⟩ := came
  refine wpAny_newObj_type (newEnv_comp ?_)
  obtain ⟨Z, hZ⟩ : ∃ Z, Z = t2.heap.objs.size := ⟨_, rfl⟩
  have noZ : B2 Z = none := I2.hok.fresh (Nat.le_of_eq hZ.symm)
  obtain ⟨W, ⟨m0, w0⟩, turn⟩ := wish Z noZ
  obtain ⟨t3, ht3⟩ : ∃ t3 : Shared, t3 = { t2 with heap := t2.heap.push { cls := .type "dict", data := .dict #[] } } := ⟨_, rfl⟩
  have I3 : Inv X pins σ (upd B2 Z (.ext (rawD Z 0 []))) t3 := by
    rw [ht3, hZ]
    exact laid_dict I2
  have heap3 : t3.heap = t2.heap.push { cls := .type "dict", data := .dict #[] } := by rw [ht3]
  have ok3 : ∀ b ∈ fp, FpOk X pins (upd B2 Z (.ext (rawD Z 0 []))) b ∧ b < t3.heap.objs.size := by
    intro b hb
    obtain ⟨ob, eb, _⟩ := T.obj _ _ at2 b hb
    have lt := Heap.lt_size eb
    refine ⟨⟨?_, (ok2 b hb).2⟩, by rw [heap3, Heap.size_push]; exact Nat.lt_succ_of_lt lt⟩
    rw [upd_ne (by rw [hZ]; exact Nat.ne_of_lt lt)]
    exact (ok2 b hb).1
  have at3 : tn 0 t3.heap := T.keep _ _ _ at2 fun b _ ob e => heap3 ▸ Heap.get?_push_of_some _ e
  have I4 := block_start I3 bl nd ok3
  obtain ⟨ce, hce⟩ : ∃ ce, ce = compEnvC scope (cellsFrom (t3.heap.objs.size + 1) scope.names (cloFrom X.env.cells scope.names [])) t3.heap.objs.size X.env := ⟨_, rfl⟩
  have pg := pgs t3 (upd B2 Z (.ext (rawD Z 0 []))) t3.heap.objs.size (cellsFrom (t3.heap.objs.size + 1) scope.names (cloFrom X.env.cells scope.names [])) fp
  have pk := pks t3 (upd B2 Z (.ext (rawD Z 0 []))) t3.heap.objs.size (cellsFrom (t3.heap.objs.size + 1) scope.names (cloFrom X.env.cells scope.names [])) fp
  have pv := pvs t3 (upd B2 Z (.ext (rawD Z 0 []))) t3.heap.objs.size (cellsFrom (t3.heap.objs.size + 1) scope.names (cloFrom X.env.cells scope.names [])) fp
  rw [← hZ, ← ht3]
  show codeAny _ _ (.compStart (.DictComp kx vx [⟨tg, iter, [], 0⟩] scope pos) 0 (.ref it) (.ref Z) (compEnvC scope (cellsFrom (t3.heap.objs.size + 1) scope.names (cloFrom X.env.cells scope.names [])) t3.heap.objs.size X.env)) (compPost (model X.prog X.w) X.A X.xe use Qf (.ref Z) t3.heap.objs.size) { t3 with heap := pushCells (t3.heap.push { cls := .type "dict", data := .dict #[] }) scope.names }
  rw [← hce] at I4 pg pk pv ⊢
  have none3 : ∀ b ∈ fp, (upd B2 Z (.ext (rawD Z 0 []))) b = none := fun b hb => (ok3 b hb).1.1
  have loc : ce.locals = t3.heap.objs.size := by rw [hce]; rfl
  obtain ⟨B3, hB3⟩ : ∃ B3, B3 = upd B2 Z (.ext (rawD Z 0 [])) := ⟨_, rfl⟩
  rw [← hB3] at I3 I4 pg pk pv w0 none3 ok3
  obtain ⟨t4, ht4⟩ : ∃ t4 : Shared, t4 = { t3 with heap := pushCells (t3.heap.push { cls := .type "dict", data := .dict #[] }) scope.names } := ⟨_, rfl⟩
  rw [← ht4] at I4 ⊢
  have at4 : tn 0 t4.heap := T.keep _ _ _ at3 fun b _ ob e => ht4 ▸ pushCells_keeps _ _ _ _ (Heap.get?_push_of_some _ e)
  have good : ∀ {τ : L2.St} {B : Hp} {t : Shared}, Inv (X.blk t3 B3 scope ce fp) [] τ B t → (∀ b ∈ fp, B b = none) → ∀ b ∈ fp, FpOk (X.blk t3 B3 scope ce fp) [] B b := fun {τ B t} J' hn b hb =>
    ⟨hn b hb, (J'.ok.exf b hb).1, J'.ok.exfs b hb, .inl hb, fun x c e => (J'.ok.exf b hb).2 x c e, fun p hp => (List.not_mem_nil (show p ∈ ([] : List (Addr × Obj)) ++ [] from hp)).elim⟩
  have all : codeAny (model X.prog X.w) X.A (.compLoop (.DictComp kx vx [⟨tg, iter, [], 0⟩] scope pos) 0 (.ref it) (.ref Z) ce) (compPost (model X.prog X.w) X.A X.xe use Qf (.ref Z) t3.heap.objs.size) t4 := by
    refine compLoop_anyD (fun n t => ∃ i B, Inv (X.blk t3 B3 scope ce fp) [] (wipe σ (own.map (·.2))) B t ∧ tn i t.heap ∧ (∀ b ∈ fp, B b = none) ∧ W i n B) ?_ m0 ⟨0, B3, I4, at4, none3, w0⟩
    rintro n t5 ⟨i, B5, I5, at5, none5, w5⟩
    cases turn i n B5 w5 with
    | inl over =>
      refine thnF (T.done (X.blk t3 B3 scope ce fp) rfl rfl rfl calm i [] t5 _ B5 (fun _ _ => False) I5 (good I5 none5) at5 over.1) fun r t6 ⟨hr, I6⟩ => ?_
      subst hr
      have I7 : Inv X pins σ B5 t6 := I3.call' (ch := fp) I6.os I6.base I6.hok I6.bare fun b hb => ⟨(ok3 b hb).1.2.2.2.1, (ok3 b hb).1.2.1, (ok3 b hb).1.2.2.2.2.1, (ok3 b hb).1.2.2.2.2.2⟩
      have noC : B5 t3.heap.objs.size = none := by
        rw [← loc]
        exact I6.free
      obtain ⟨m, hn, _⟩ := I6.loc
      replace hn : t6.heap.Ns ce.locals m := hn
      rw [loc] at hn
      exact back Z t3.heap.objs.size t6 m B5 I7 over.2 hn (I3.fpOk (Nat.le_refl _) noC)
    | inr on =>
      obtain ⟨go, Nx, less, step⟩ := on
      refine thnF (T.item (X.blk t3 B3 scope ce fp) rfl rfl rfl calm i [] t5 _ B5 (fun _ _ => False) I5 (good I5 none5) at5 go) fun r t6 ⟨u, hr, h6⟩ => ?_
      subst hr
      refine thnF h6 fun _ t7 ⟨x, B7, I7, r7, y7, at7, none7⟩ => ?_
      refine thnF (pg.run _ t7 _ B7 x u _ (I7.pinned (good I7 none7) (T.obj _ _ at7)) r7 (step x B7 y7)) fun _ t8 ⟨τ, B8, I8, w8, q8⟩ => ?_
      refine wpAny_tests_nil ?_
      show wpAny _ _ _ _ _ _
      refine thnF (pk.run _ t8 τ B8 _ I8 q8) fun uy t9 ⟨y, B9, I9, r9, q9⟩ => ?_
      refine thnF (pv.run _ t9 τ B9 _ I9 q9) fun uz t10 ⟨z, B10, I10, r10, q10⟩ => ?_
      refine dset_key (X := X.blk t3 B3 scope ce fp) ⟨rm.un, rm.gd, rm.pw⟩ I10 r9 r10 q10 fun t11 B11 I11 nx => ?_
      obtain ⟨m', hm, w'⟩ := less B11 nx
      have still : ∀ b ∈ fp, ∀ ob, t7.heap.get? b = some ob → t11.heap.get? b = some ob ∧ B11 b = none := fun b hb ob e => by
        have pin := I11.pin (b, ob) (List.mem_append_right _ (List.mem_append_right _ (mem_pinsAt hb e)))
        exact ⟨pin.1, pin.2.1⟩
      have len : (wipe σ (own.map (·.2))).length = τ.length := by rw [← w8, wipe_length]
      refine ⟨m', hm, i + 1, B11, (I11.unpinned (pins := [])).weak len (fun j v e => ?_), T.keep _ _ _ at7 fun b hb ob e => (still b hb ob e).1, fun b hb => ?_, w'⟩
      · rw [← w8] at e
        exact (wipe_some e).1
      · obtain ⟨ob, e, _⟩ := T.obj _ _ at7 b hb
        exact (still b hb ob e).2
  exact codeAny_compStart_dict all (T.self X.A 0 _ _ _ at4 all)
theorem pe_dcR {kx vx tg iter : Expr} {scope : Scope} {own : List (Str × Nat)} {pos : Pos} {wi : TI} {g : TG} {tk tv : TE} (calm : X.calm = true) (nd : X.N.Nodup) (rm : RoomX X) (pit : PI X tg iter wi) (bl : BlkOk X.N X.env.scope scope own)
    (pgs : ∀ (t : Shared) (B : Hp) (Ca : Addr) (cl : List (Str × Addr)) (fp : List Addr), PG (X.blk t B scope (compEnvC scope cl Ca X.env) fp) tg g)
    (pks : ∀ (t : Shared) (B : Hp) (Ca : Addr) (cl : List (Str × Addr)) (fp : List Addr), PE (X.blk t B scope (compEnvC scope cl Ca X.env) fp) kx tk)
    (pvs : ∀ (t : Shared) (B : Hp) (Ca : Addr) (cl : List (Str × Addr)) (fp : List Addr), PE (X.blk t B scope (compEnvC scope cl Ca X.env) fp) vx tv) (fold : ∀ x, foldedSetIterable iter X.env x = pure x) :
    PE X (.DictComp kx vx [⟨tg, iter, [], 0⟩] scope pos) (tDcR X.K wi g tk tv (own.map (·.2))) := by
  refine ⟨fun pins s σ H Q I h => ?_⟩
  rw [arm_eval_DictComp]
  refine dcR calm nd rm I pit bl pgs pks pvs fold h fun Z C t m B I' q hn f => ⟨m, hn, fun g' sb => ?_⟩
  obtain ⟨f0, f1, f2, f3, f4, f5⟩ := f
  exact ⟨.ref Z, B, I'.turned (t' := t.toks) (fun b ob hb e => (sb.2 b hb).trans e) f0 f1 f3 f4 f5, rfl, q⟩
end
/-! ### what the evaluator says of it -/
section
variable {K : PySem.W.Frag} {W : WZ} {Ph : CallF} {σ : L2.St} {H : Hp} {Q : VK} {P0 : Pa} {env : Fram}
theorem dFold_cons {acc out : List (D × D)} {d : D} {r : List D} (h : dFold acc (d :: r) = some out) : ∃ k v q, d = .tuple [k, v] ∧ key? k = some q ∧ acc.length < LINE ∧ dFold (dPut acc q k v) r = some out := by
  unfold dFold at h
  split at h
  · rename_i e
    cases e
  · rename_i k v r' e
    cases e
    obtain ⟨q, h1, h2⟩ := Option.bind_eq_some_iff.mp h
    split at h2
    · rename_i hl
      exact ⟨k, v, q, rfl, h1, hl, h2⟩
    · cases h2
  · cases h
theorem dictOfF_s {d z : D} (h : dictOfF d = some z) : ∃ xs acc, d = .tuple xs ∧ xs.length ≤ LINE ∧ dFold [] xs = some acc ∧ z = .dict acc := by
  unfold dictOfF at h
  split at h
  · split at h
    · rename_i hl
      obtain ⟨acc, h1, rfl⟩ := Option.map_eq_some_iff.mp h
      exact ⟨_, acc, rfl, hl, h1, rfl⟩
    · cases h
  · cases h
/-- a new dict is what an expression hands out -/
theorem new_dict {G : Hp} {Z : Addr} {ep : Nat} {es : List (NestedKey × Addr × Value)} {acc : List (D × D)} {env1 : Fram} {B : Hp} (r : RE K P0 env σ H) (a1 : Aft K P0 env σ H env1 G) (nZ : G Z = none) (grow : ∀ a o, G a = some o → B a = some o)
    (re : RE K (fun a => P0 a ∧ a ≠ Z) env1 σ B) (hB : B Z = some (.ext (rawD Z ep es))) (rs : REs K B (Stb (fun a => P0 a ∧ a ≠ Z) env1 σ) es acc)
    (q : ∀ v H', Aft K P0 env σ H env1 H' → RP K H' (Stb P0 env1 σ) v (.dict acc) → Frs K P0 env1 σ H H' v (.dict acc) → Q v H') : Q (.ref Z) B :=
  q (.ref Z) B (a1.trans (Aft.grow a1.re grow)) (.dct (a1.re.stbNew nZ) (.inl hB) (rs.mono fun a z => ⟨z.1.1, z.2⟩)) fun _ => ⟨Z, rfl, a1.tr Z nZ, re, .dct hB rs⟩
theorem ent_dcomp {own : List (Str × Nat)} {i j : Nat} {a : Exp} (hij : i ≠ j) (ho : own.map (·.2) = [i, j]) (h : tG Ph K W (.dcomp own i j a) σ H Q) :
    tDcR K (iTup K (tE Ph K W a)) (gTup K 2 (gCons (gName i) (gCons (gName j) gNil))) (tVar i) (tVar j) (own.map (·.2)) σ H Q := by
  obtain ⟨P0, env, r, h⟩ := h
  unfold ev at h
  split at h
  case isFalse => exact h.elim
  rename_i hb
  simp only [Bool.and_eq_true, decide_eq_true_eq] at hb
  have hi : i < σ.length := r.len ▸ hb.1
  have hj : j < σ.length := r.len ▸ hb.2
  rw [ho]
  refine tE_of r (post_bind.mp h) fun d env1 q x G a1 rx => ?_
  obtain ⟨z, ez, q⟩ := post_opt.mp (post_bind.mp q)
  obtain ⟨xs, out, rfl, hlen, hf, rfl⟩ := dictOfF_s ez
  have q : ∀ v H', Aft K P0 env σ H env1 H' → RP K H' (Stb P0 env1 σ) v (.dict out) → Frs K P0 env1 σ H H' v (.dict out) → Q v H' := q
  obtain ⟨ad, ws, rfl, hs, rs⟩ := rx.tuple
  refine ⟨ad, rfl, ⟨ws, hs⟩, fun Z nZ => ?_⟩
  have rt : RP K G (fun b => Stb P0 env1 σ b ∧ b ≠ Z) (.ref ad) (.tuple xs) := RP.avoid nZ rx
  have lw := rs.length
  let P1 : Pa := fun b => P0 b ∧ b ≠ Z
  have noO : ¬ OwnA env1 σ Z := fun w => by
    obtain ⟨o, e, _⟩ := a1.re.ownAt w
    rw [nZ] at e
    cases e
  let Pv : Nat → Hp → Prop := fun m B => ∃ (ep : Nat) (es : List (NestedKey × Addr × Value)) (acc : List (D × D)), B Z = some (.ext (rawD Z ep es)) ∧ REs K B (Stb P1 env1 σ) es acc ∧ acc.length ≤ m ∧ (∀ b o, G b = some o → B b = some o) ∧ RE K P1 env1 σ B ∧ dFold acc (xs.drop m) = some out
  refine ⟨fun m t B => t = xs.length - m ∧ m ≤ xs.length ∧ Pv m B, ⟨_, rfl, Nat.zero_le _, 0, [], [], upd_same, .nil, Nat.le_refl _, upd_all nZ, a1.re.fresh nZ, by rw [List.drop_zero]; exact hf⟩, ?_⟩
  rintro m t B ⟨rfl, hm, ep, es, acc, hB, re, few, grow, ri, fo⟩
  have rt2 : RP K B (Stb P1 env1 σ) (.ref ad) (.tuple xs) := rt.keep (Keep.all grow) fun b z => ⟨⟨z.1.1, z.2⟩, z.1.2⟩
  obtain ⟨ad', ws', e0, hs', rs'⟩ := rt2.tuple
  cases e0
  have lw' := rs'.length
  by_cases hlt : m < xs.length
  · rw [List.drop_eq_getElem_cons hlt] at fo
    obtain ⟨k, v, kk, ek, hk, hl, fo⟩ := dFold_cons fo
    obtain ⟨w, hw, rw0⟩ := rs'.get (i := m) (d := xs[m]) (by simp [hlt])
    rw [ek] at rw0
    refine .inr ⟨⟨ws', w, hs', hw⟩, Pv (m + 1), fun B' p' => ⟨_, by omega, rfl, hlt, p'⟩, fun x B' hy => ?_⟩
    obtain ⟨rfl, hy⟩ := hy
    have ex := hy ws' hs'
    rw [hw] at ex
    cases ex
    obtain ⟨bd, ys, rfl, hb, rb⟩ := rw0.tuple
    cases rb with
    | cons ry rb => cases rb with
      | cons rz rb =>
        cases rb
        rename_i y z
        have len : ((L2.wipe σ [i, j]).set i (some y)).length = σ.length := by rw [List.length_set, wipe_length]
        refine ⟨bd, [y, z], rfl, hb, rfl, y, [z], rfl, z, [], rfl, rfl, ?_, ?_⟩
        · refine wipe_same (is := [i, j]) (by rw [List.length_set, len]) (fun l hl => ?_) (fun l hl => hl)
          have l1 : i ≠ l := fun e => hl (by simp [e])
          have l2 : j ≠ l := fun e => hl (by simp [e])
          rw [List.getElem?_set_ne l2, List.getElem?_set_ne l1]
        · refine ⟨y, ?_, z, ?_, Z, ep, es, Stb P1 env1 σ, acc, k, kk, rfl, ry, hk, hB, re, by rw [re.length, sizeLine_eq]; exact hl, fun ep' b u hy ru => ?_⟩
          · rw [List.getElem?_set_ne hij.symm, List.getElem?_set_self (by rw [wipe_length]; exact hi)]
          · rw [List.getElem?_set_self (by rw [len]; exact hj)]
          · subst hy
            obtain ⟨rfl, hd, _⟩ := key_s hk
            have put := re.put hd ry ru rz
            have keep : Keep (Stb P1 env1 σ) B' (upd B' Z (.ext (rawD Z ep' (storedH es kk b u)))) := fun c o e hc => by
              rw [upd_ne]
              · exact e
              · rintro rfl
                rcases hc with hc | hc
                · exact hc.1.2 rfl
                · rw [hB] at e
                  cases e
                  cases hc
            refine ⟨ep', _, _, upd_same, put.keep keep fun _ z => z, ?_, fun c o e => ?_, ri.touch (fun z => z.2 rfl) hB rfl noO, fo⟩
            · unfold dPut
              split <;> simp <;> omega
            · rw [upd_ne]
              · exact grow c o e
              · rintro rfl
                rw [nZ] at e
                cases e
  · have em : m = xs.length := by omega
    subst em
    rw [List.drop_length] at fo
    cases fo
    exact .inl ⟨⟨ws', hs', by omega⟩, new_dict r a1 nZ grow ri hB re q⟩
end
/-! ### dict(..) -/
section
variable {X : Cx} {pins : List (Addr × Obj)} {σ : L2.St} {s : Shared} {H : Hp} {P : Pa}
/-- a tuple of the program stands in the heap, its object plain -/
theorem plain_at {a : Addr} {xs : List V} (I : Inv X pins σ H s) (h : PlT X.K H a xs) : ∃ us : List Value, Vals xs us ∧ PlainSeq "tuple" s.heap a us.toArray ∧ xs.length ≤ sizeLine := by
  rcases h with ⟨o, e, d⟩ | ⟨o, its, n, e, c, d, dt, z, v⟩
  · obtain ⟨e1, z, us, rv, o', e2, c, n, dt⟩ := I.hok a _ e
    have e1 : s.heap.get? a = some o := e1
    rw [e1] at e2
    cases e2
    exact ⟨us, rv, ⟨o, n, e1, c, d, dt⟩, z⟩
  · refine ⟨its.toList, v, ⟨o, n, I.kIn a o e, c, d, by rw [Array.toArray_toList]; exact dt⟩, ?_⟩
    rw [v.length]
    simpa using z
theorem pairs_at (I : Inv X pins σ H s) : ∀ {ws : List V} {us : List Value} {xs : List D} {acc out : List (D × D)}, RPs X.K H P ws xs → Vals ws us → dFold acc xs = some out → ∃ l : List (Addr × NestedKey × Addr × Value), us = l.map (fun p => Value.ref p.1) ∧
    (∀ p ∈ l, PairAt s.heap p.1 (.ref p.2.2.1) p.2.2.2 ∧ (nestedKind X.prog X.w).is s.heap p.2.1 p.2.2.1) ∧ ∀ es, REs X.K H P es acc → REs X.K H P (storedAllH es (l.map (·.2))) out
  | _, _, _, acc, out, .nil, .nil, h => by
    cases h
    exact ⟨[], rfl, (fun p hp => by cases hp), fun es r => r⟩
  | _, _, _, acc, out, .cons r rs, .cons v vs, h => by
    obtain ⟨kd, vd, q, rfl, hk, hl, h⟩ := dFold_cons h
    obtain ⟨l, e1, e2, e3⟩ := pairs_at I rs vs h
    obtain ⟨b, ys, rfl, hb, rb⟩ := r.tuple
    obtain ⟨its, rv, ⟨o, ho, hc, n, hd⟩, _⟩ := I.tuple hb
    obtain ⟨rfl, dp, ks, ek⟩ := key_s hk
    cases rb with
    | @cons y _ _ _ ry rb => cases rb with
      | @cons z _ _ _ rz rb =>
        cases rb
        cases rv with
        | cons vy rv => cases rv with
          | @cons _ uz _ _ vz rv =>
            cases rv
            cases v
            obtain ⟨as, rd⟩ := Dp.reads I _ _ _ (ry.dp (noDict_data _)) vy
            have nk := nested_reads _ rd
            obtain ⟨c, rfl⟩ : ∃ c, y = .ref c := by
              subst ek
              unfold NestedKey.data at ry
              obtain ⟨c, _, e, _⟩ := ry.tuple
              exact ⟨c, e⟩
            have vy : _ = Value.ref c := vy
            subst vy
            refine ⟨(b, q, c, uz) :: l, by rw [e1]; rfl, fun p hp => ?_, fun es re => ?_⟩
            · rcases List.mem_cons.mp hp with rfl | hp
              · exact ⟨.inl ⟨o, ho, hc, n, hd⟩, nk, dp⟩
              · exact e2 p hp
            · exact e3 _ (re.put dp ry vz rz)
def rDict (K : PySem.W.Frag) : List V → Hp → VK → Prop := fun vs H Q => ∃ (P : Pa) (x : V) (xs : List D) (acc : List (D × D)), vs = [x] ∧ RP K H P x (.tuple xs) ∧ xs.length ≤ LINE ∧ dFold [] xs = some acc ∧
  ∀ p ep es, H p = none → REs K H P es acc → Q (.ref p) (upd H p (.ext (rawD p ep es)))
theorem cb_dict (calm : X.calm = true) (rm : RoomX X) : CallR X (.type "dict") (rDict X.K) := by
  intro pins s σ H vs us Q I r h
  obtain ⟨P, x, xs, acc, rfl, rx, hl, hf, q⟩ := h
  obtain ⟨a, ws, rfl, ha, ra⟩ := rx.tupleP
  obtain ⟨its, rv, ⟨o, n, ho, hc, hn, hd⟩, hz⟩ := plain_at I ha
  rw [Vals.ref1 r]
  obtain ⟨l, e1, e2, e3⟩ := pairs_at I ra rv hf
  have un := rm.un
  have len : l.length = xs.length := by
    have h1 := ra.length
    have h2 := rv.length
    rw [e1, List.length_map] at h2
    omega
  have items : PairItems s.heap its.toArray (fun j => (l.map (·.1)).getD j 0) (l.map fun p => (Value.ref p.2.2.1, p.2.2.2)) := by
    refine ⟨by rw [List.size_toArray, e1]; simp, fun j k v hj => ?_⟩
    rw [List.getElem?_map] at hj
    obtain ⟨p, hp, e⟩ := Option.map_eq_some_iff.mp hj
    cases e
    have e4 : (l.map (·.1)).getD j 0 = p.1 := by
      rw [List.getD_eq_getElem?_getD, List.getElem?_map, hp]
      rfl
    refine ⟨?_, ?_⟩
    · show _ = some (Value.ref ((l.map (·.1)).getD j 0))
      rw [e1, e4]
      simp [hp]
    · show PairAt s.heap ((l.map (·.1)).getD j 0) _ _
      rw [e4]
      exact (e2 p (List.mem_of_getElem? hp)).1
  have room : (nestedKind X.prog X.w).room X.A.in1.in1 := by
    show X.A.units + 1 + 1 + 8 < cLine
    omega
  refine call_dict_pairsH (knd := nestedKind X.prog X.w) (ps := l.map (·.2)) (PairArg.tuple a its.toArray (fun j => (l.map (·.1)).getD j 0) (l.map fun p => (Value.ref p.2.2.1, p.2.2.2))) (I.ok.hd calm) room ⟨⟨o, n, ho, hc, hn, hd⟩, items⟩ ⟨by simp, fun i key v hrel => ?_⟩ (fun g hg y hy => ?_) (by
    rw [List.length_map, len, sizeLine_eq]
    exact hl) fun g tk hg hk => ?_
  · have hrel : (l.map fun p => (Value.ref p.2.2.1, p.2.2.2))[i]? = some (key, v) := hrel
    rw [List.getElem?_map] at hrel
    obtain ⟨p, hp, e⟩ := Option.map_eq_some_iff.mp hrel
    cases e
    exact ⟨p.2.1, p.2.2.1, by rw [List.getElem?_map, hp]; rfl, rfl⟩
  · obtain ⟨p, hp, rfl⟩ := List.mem_map.mp hy
    exact HeapKind.Stays.all nestedKind_stays g (fun b ob _ e => hg b ob (Nat.ne_of_lt (Heap.lt_size e)) (by simp) e) _ _ (e2 p hp).2
  · have res := e3 [] .nil
    have few : (storedAllH [] (l.map (·.2))).length ≤ sizeLine := by
      have := storedAllH_length (l.map (·.2)) []
      rw [List.length_map, List.length_nil] at this
      rw [sizeLine_eq]
      have L : LINE = 16777216 := rfl
      omega
    obtain ⟨ob, es, ep, g1, g2, g3, g4, g5, g6⟩ := hg
    refine ⟨.ref s.heap.objs.size, _, I.laid (a := s.heap.objs.size) (o := .ext (rawD s.heap.objs.size ep (storedAllH [] (l.map (·.2))))) (t' := tk) (fun b u e => hk b u (by simp) e) (Nat.le_refl _) ⟨⟨beq_eq_false_iff_ne.mpr (Ne.symm (Nat.ne_of_lt I.big)), few, ob, es, g1, g2, g3, ?_, g6⟩, ⟨_, g1⟩, rawD_mono⟩, rfl, q _ _ _ (I.hok.fresh (Nat.le_refl _)) res⟩
    rw [← rm.pw.1, ← rm.pw.2]
    exact g4
end
section
variable {K : PySem.W.Frag} {W : WZ} {Ph : CallF} {σ : L2.St} {H : Hp} {Q : VK} {a : Exp}
theorem ent_dictof (h : tG Ph K W (.dictof a) σ H Q) : tCB (rDict K) (tEs Ph K W (.cons a .nil)) σ H Q := by
  obtain ⟨P0, env, r, h⟩ := h
  unfold ev at h
  refine ⟨P0, env, r, ?_⟩
  unfold evs
  refine post_bind.mpr ((post_bind.mp h).imp (fun p q => ?_) fun _ _ x => x)
  obtain ⟨d, env1⟩ := p
  obtain ⟨z, ez, q⟩ := post_opt.mp (post_bind.mp q)
  obtain ⟨xs, out, rfl, hlen, hf, rfl⟩ := dictOfF_s ez
  intro vs G a1 rs
  have a1 : Aft K P0 env σ H env1 G := a1
  have rs : RPs K G (Stb P0 env1 σ) vs [.tuple xs] := rs
  cases rs with
  | cons rx rs =>
    cases rs
    refine ⟨_, _, xs, out, rfl, rx, hlen, hf, fun p ep es nZ re => ?_⟩
    exact new_dict r a1 nZ (upd_all nZ) (a1.re.fresh nZ) upd_same (((re.avoid nZ).keep (Keep.all (upd_all nZ)) fun b z => ⟨⟨z.1.1, z.2⟩, z.1.2⟩)) q
end
end PV
set_option Elab.async false
set_option linter.all false
set_option maxRecDepth 100000
set_option maxHeartbeats 2000000
/-! PV, part Y2: t.index(x), xs.pop(i), the greatest of numbers. -/
namespace PV
open PySem PySem.Spec PyProof.Rows L2
variable [Wd]
section
variable {X : Cx} {pins : List (Addr × Obj)} {σ : L2.St} {s : Shared} {H : Hp} {P : Pa}
def rIndexT (K : PySem.W.Frag) : V → List V → Hp → VK → Prop := fun x ys G Q => ∃ (P : Pa) (dx dz : D) (dys : List D), RP K G P x dx ∧ RPs K G P ys dys ∧ methF .index dx dys = some dz ∧ ∀ v, RP K G P v dz → Q v G
theorem first_at {ns : List Int} {x : Int} {j : Nat} (h : ns.findIdx? (· == x) = some j) : j < ns.length ∧ ns[j]? = some x ∧ ∀ m, m < j → ns[m]? ≠ some x := by
  obtain ⟨h1, h2, h3⟩ := List.findIdx?_eq_some_iff_getElem.mp h
  refine ⟨h1, ?_, fun m hm e => ?_⟩
  · rw [List.getElem?_eq_getElem h1]
    simpa using h2
  · obtain ⟨q1, q2⟩ := List.getElem?_eq_some_iff.mp e
    have := h3 m hm
    rw [q2] at this
    simp at this
theorem ints_flat (ns : List Int) : (ns.map V.int).all flatV = true := by
  rw [List.all_map]
  exact List.all_eq_true.mpr fun _ _ => rfl
theorem vals_int_at {ns : List Int} {its : List Value} (rv : Vals (ns.map V.int) its) {m : Nat} (hm : m < its.toArray.size) : ∃ z t, ns[m]? = some z ∧ its.toArray[m] = Value.int z t := by
  have hl : its.toArray.size = ns.length := by rw [List.size_toArray, ← rv.length, List.length_map]
  have hm' : m < ns.length := by rw [← hl]; exact hm
  obtain ⟨w, hw, t', hw'⟩ := rv.get (i := m) (x := .int ns[m]) (by simp [hm'])
  refine ⟨ns[m], t', List.getElem?_eq_getElem hm', ?_⟩
  have e := (List.getElem?_eq_some_iff.mp hw).2
  rw [← hw', ← e]
  simp
theorem mt_index_ints : MtR X "tuple.index" (rIndexT X.K) := by
  intro pins s σ G x ys v us Q I rx rv h
  obtain ⟨P, dx, dz, dys, hx, hy, e, q⟩ := h
  unfold methF at e
  split at e
  · rename_i ys z hq
    obtain ⟨ns, e1, e2⟩ := Option.bind_eq_some_iff.mp e
    obtain ⟨j, e3, rfl⟩ := Option.map_eq_some_iff.mp e2
    obtain ⟨a, ws, rfl, ha, ra⟩ := hx.tuple
    obtain rfl := ra.ints e1
    obtain rfl := intsY e1
    cases hy with
    | cons hy hn =>
      cases hn
      cases hy
      cases rx
      obtain ⟨u, rfl, t, rfl⟩ := vals1 rv
      obtain ⟨its, r1, pl, few⟩ := I.tuple ha
      obtain ⟨⟨cls, dd, dt, sl⟩, ho, hc, n, hd⟩ := pl
      simp only at hc hd
      subst hc hd
      obtain ⟨f1, f2, f3⟩ := first_at e3
      have hl : its.toArray.size = ns.length := by rw [List.size_toArray, ← r1.length, List.length_map]
      refine call_meets PySem.F.slot_tuple_index ⟨_, ho, rfl⟩ PySem.F.entry_tuple_index (PySem.F.args_tuple_index_2 _ _) (TI.tuple_indexAt a its.toArray n dd sl (.int z t) (eqU (.int z)) j (by rw [hl]; exact f1) ?_ ?_)
        ⟨ho, fun w hw => mem_eqAt (x := .int z) ⟨t, rfl⟩ rfl r1 (ints_flat ns) w (by simpa using hw), ⟨.int (j : Nat), G, I.tok _, ⟨_, rfl⟩, q _ (.int _)⟩⟩
      · obtain ⟨y, t', h1, h2⟩ := vals_int_at r1 (m := j) (by rw [hl]; exact f1)
        rw [f2] at h1
        cases h1
        rw [h2]
        show (z == z) = true
        exact beq_self_eq_true z
      · intro m hm hmj
        obtain ⟨y, t', h1, h2⟩ := vals_int_at r1 hm
        rw [h2]
        show (y == z) = false
        refine beq_eq_false_iff_ne.mpr fun e => f3 m hmj ?_
        rw [h1, e]
  · cases e
/-- a method of a tuple of the program -/
def tTupM (r : V → List V → Hp → VK → Prop) (K : PySem.W.Frag) (to : TE) (t : TA) : TE := fun σ H Q => to σ H fun x G => (∃ a xs, x = .ref a ∧ PlT K G a xs) ∧ t σ G fun ys B => r x ys B Q
theorem pe_tupM {o e : Expr} {es : List Expr} {to : TE} {t : TA} {name : Str} {ap cp : Pos} {id : String} {r : V → List V → Hp → VK → Prop} (slot : PySem.Slot "tuple" name id) (hty : typeOf (.builtin id) = pure (.type "method_descriptor")) (hm : MtR X id r) (ho : PE X o to) (ha : PA X (e :: es) t)
    (hbase : attributeBase o name X.env (eval o X.env) = eval o X.env := by rfl)
    (hfew : ((backTo cp (starEach (e :: es) X.env)).all (fun x => !x.1) && (backToKw cp (keywordEach [] X.env)).all (fun x => x.1.isSome)
      && decide ((e :: es).length + ([] : List Keyword).length + (if ([] : List Keyword).isEmpty then 0 else 1) < 30)) = true := by rfl)
    (hline : (ap.endLine == cp.line) = true := by rfl) (hs : starEach (e :: es) X.env = (false, eval e X.env) :: starEach es X.env := by rfl) (hplain : (backTo cp (starEach es X.env)).any (·.1) = false := by rfl) :
    PE X (.Call (.Attribute o name ap) (e :: es) [] cp) (tTupM r X.K to t) := by
  refine ⟨fun pins s0 σ G Q J h => ?_⟩
  refine wpAny_Call_method_late hbase hfew hline rfl (thn (ho.run pins s0 σ G _ J h) fun v s1 ⟨x, G1, J1, rx, ⟨a, xs, ex, pl⟩, go⟩ => ?_)
  subst ex
  cases rx
  obtain ⟨us, rv, ⟨ob, n, ho1, hc, hd, hdt⟩, _⟩ := plain_at J1 pl
  refine ⟨"tuple", id, PySem.F.plainAttrs_tuple, slot, hty, ⟨ob, ho1, hc⟩, fun b eb => ?_, ?_⟩
  · cases eb
    exact ⟨ob, ho1, hd⟩
  · have run := ha.run cp pins s1 σ G1 _ J1 go
    rw [hs] at run ⊢
    refine Calls.callWith_builtin (by show (false || (backTo cp (starEach es X.env)).any (·.1)) = false; rw [hplain] <;> rfl) (Calls.evalArgs_plain ?_)
    exact thn run fun us' s2 ⟨vs, G2, J2, rvs, go2⟩ => hm pins s2 σ G2 (.ref a) vs (.ref a) us' Q J2 rfl rvs go2
/-! the greatest -/
theorem fold_max : ∀ (ns : List Int) (n : Int), (n ≤ ns.foldl max n ∧ ∀ y ∈ ns, y ≤ ns.foldl max n) ∧ (ns.foldl max n = n ∨ ns.foldl max n ∈ ns)
  | [], n => ⟨⟨Int.le_refl _, fun _ h => by cases h⟩, .inl rfl⟩
  | m :: ns, n => by
    obtain ⟨⟨h1, h2⟩, h3⟩ := fold_max ns (max n m)
    simp only [List.foldl_cons]
    refine ⟨⟨by omega, fun y hy => ?_⟩, ?_⟩
    · rcases List.mem_cons.mp hy with rfl | hy
      · omega
      · exact h2 y hy
    · rcases h3 with h3 | h3
      · rcases Int.le_total n m with h | h
        · right
          rw [h3, Int.max_eq_right h]
          simp
        · left
          rw [h3, Int.max_eq_left h]
      · exact .inr (List.mem_cons_of_mem _ h3)
theorem max_is {n m : Int} {ns : List Int} (hm : m ∈ n :: ns) (hb : ∀ y ∈ n :: ns, y ≤ m) : m = ns.foldl max n := by
  obtain ⟨⟨h1, h2⟩, h3⟩ := fold_max ns n
  have a : m ≤ ns.foldl max n := by
    rcases List.mem_cons.mp hm with rfl | h
    · exact h1
    · exact h2 m h
  have b : ns.foldl max n ≤ m := by
    rcases h3 with h | h
    · rw [h]
      exact hb n (by simp)
    · exact hb _ (List.mem_cons_of_mem _ h)
  omega
theorem ints_deep : ∀ ns : List Int, PyData.depthAll (ns.map .int) ≤ 1
  | [] => by simp [PyData.depthAll]
  | n :: ns => by
    have := ints_deep ns
    simp only [List.map_cons, PyData.depthAll, PyData.depth]
    omega
theorem ints_alike (ns : List Int) : PySem.W.AlikeAll (ns.map .int) := by
  refine ⟨fun x hx y hy => ?_, fun x hx => ?_⟩
  · obtain ⟨a, _, rfl⟩ := List.mem_map.mp hx
    obtain ⟨b, _, rfl⟩ := List.mem_map.mp hy
    rfl
  · obtain ⟨a, _, rfl⟩ := List.mem_map.mp hx
    intro h
    cases h
theorem cb_maxl (hc : X.calm = true) (rm : RoomX X) : CallR X (.builtin "max") (rBlt X.K .maxl) := by
  intro pins s σ G vs us Q I r h
  obtain ⟨P, ds, dz, new, hx, e, q⟩ := h
  replace e : blt_maxl ds = some dz := e
  unfold blt_maxl at e
  split at e
  · split at e
    · rename_i ns n ns' e1
      cases e
      obtain ⟨v, rfl, hv⟩ := hx.one
      obtain ⟨a, xs, rfl, ha, ra⟩ := hv.list
      obtain rfl := ra.ints e1
      refine cr_max hc pins s σ G _ us Q I r ⟨a, n :: ns', rfl, ha, by simp, fun m h1 h2 => ?_⟩
      rw [max_is h1 h2]
      exact q _ _ (out_int _) (fresh_int _)
    · cases e
  · split at e
    · rename_i ns n ns' e1
      split at e
      · rename_i hl
        cases e
        obtain ⟨v, rfl, hv⟩ := hx.one
        obtain ⟨a, xs, rfl, ha, ra⟩ := hv.tuple
        obtain rfl := ra.ints e1
        rw [Vals.ref1 r]
        obtain ⟨its, rv, isT, few⟩ := I.tuple ha
        have isT : s.heap.IsTuple a its.toArray := isT
        have rd := reads_ints (h := s.heap) rv
        have un := rm.un
        have dep := ints_deep (n :: ns')
        refine PySem.W.max_tuple_data (x := .int n) (xs := ns'.map .int) (as := []) (I.ok.hd hc) isT (by simpa using rd) (ints_alike (n :: ns')) ?_ fun i v h' tk bs hv r hk => ?_
        · show X.A.units + 1 + PyData.depthAll ((n :: ns').map .int) < cLine
          omega
        · rw [PySem.W.maxD_ints] at r
          cases r
          exact ⟨.int _, G, I.kept (t' := tk) hk, ⟨_, rfl⟩, q _ _ (out_int _) (fresh_int _)⟩
      · cases e
    · cases e
  · cases e
end
section
variable {Ph : CallF} {W : WZ} {K : PySem.W.Frag} {P0 : Pa} {env : Fram} {σ : L2.St} {H : Hp} {Q : VK} {o e : Exp} {es : Exs} {i : Nat}
theorem ent_index (h : tE Ph K W (.meth .index o es) σ H Q) : tTupM (rIndexT K) K (tE Ph K W o) (tEs Ph K W es) σ H Q := by
  obtain ⟨P0, env, r, h⟩ := h
  unfold ev at h
  refine tE_of r (post_bind.mp h) fun d env1 q v H1 a1 rv => ?_
  replace q : Post (if d.isTuple = true then (evs Ph es env1).bind fun q => (opt (methF .index d q.1)).bind fun z => Res.ok (z, q.2) else .bad) (fun p => ∀ v H', Aft K P0 env σ H p.2 H' → RP K H' (Stb P0 p.2 σ) v p.1 → Q v H') (XP K W P0 env σ H) := q
  split at q
  · rename_i ht
    cases d with
    | tuple xs =>
      obtain ⟨a, ws, rfl, pl, _⟩ := rv.tupleP
      refine ⟨⟨a, ws, rfl, pl⟩, tEs_of a1.re ((post_bind.mp q).imp (fun _ z => z) fun _ _ z => z.after a1) fun ds env2 q ys H2 a2 ry => ?_⟩
      obtain ⟨z, ez, q⟩ := post_opt.mp (post_bind.mp q)
      exact ⟨Stb P0 env2 σ, _, z, ds, a2.rp a1.re rv, ry, ez, fun v rz => q v H2 (a1.trans a2) rz⟩
    | _ => cases ht
  · exact q.elim
theorem Aft.change {d : D} {a : Addr} {ys : List V} {zs : List D} (r : RE K P0 env σ H) (hi : env[i]? = some (.own d)) (hs : σ[i]? = some (some (.ref a))) (q : RPs K H (Stb P0 env σ) ys zs) :
    Aft K P0 env σ H (env.set i (.own (.list zs))) (upd H a (.lst ys)) := by
  obtain ⟨r2, ko⟩ := r.change (xs := []) (d' := d) hi hs q
  refine ⟨r2, ko, fun c w => ?_, fun c z => ?_⟩
  · obtain ⟨j, e, h1, h2⟩ := w
    by_cases hj : i = j
    · subst hj
      exact ⟨i, d, hi, h2⟩
    · rw [List.getElem?_set_ne hj] at h1
      exact ⟨j, e, h1, h2⟩
  · by_cases hc : c = a
    · subst hc
      rw [upd_same] at z
      cases z
    · rw [upd_ne hc] at z
      exact z
theorem RE.ownL2 (r : RE K P0 env σ H) {xs : List D} {a : Addr} (hi : env[i]? = some (.own (.list xs))) (hs : σ[i]? = some (some (.ref a))) : ∃ ws, H a = some (.lst ws) ∧ RPs K H (Stb P0 env σ) ws xs := by
  obtain ⟨b, e, ro⟩ := r.own i _ hi
  rw [hs] at e
  cases e
  cases ro with
  | lst h q => exact ⟨_, h, q⟩
theorem ent_popAt (h : tE Ph K W (.popAt i e) σ H Q) : tBM K "list" rPopAt (tVar i) (tCons (tE Ph K W e) tNil) σ H Q := by
  obtain ⟨P0, env, r, h⟩ := h
  unfold ev at h
  by_cases ho : isOwnL env i = true
  · rw [ho, Bool.not_true, if_neg Bool.false_ne_true] at h
    obtain ⟨zs0, hd⟩ : ∃ zs, env[i]? = some (.own (.list zs)) := by
      unfold isOwnL at ho
      split at ho
      · rename_i zs e
        exact ⟨zs, e⟩
      · cases ho
    obtain ⟨a, hs, ro⟩ := r.own i _ hd
    obtain ⟨ys, there⟩ : ∃ ys, H a = some (.lst ys) := by
      cases ro with
      | lst h _ => exact ⟨_, h⟩
    refine ⟨.ref a, hs, .inl ⟨rfl, _, SqL.of there⟩, tE_of r (post_bind.mp h) fun d env1 q v H1 a1 rv => ?_⟩
    replace q : Post (match env1[i]?, d with
      | some (.own (.list xs)), .int k => (match place xs.length k with
        | some j => (match xs[j]? with
          | some y => if xs.length ≤ LINE then Res.ok (y, env1.set i (.own (.list (xs.eraseIdx j)))) else .bad
          | none => .bad)
        | none => .bad)
      | _, _ => .bad) (fun p => ∀ v H', Aft K P0 env σ H p.2 H' → RP K H' (Stb P0 p.2 σ) v p.1 → Q v H') (XP K W P0 env σ H) := q
    split at q
    · rename_i xs k hi
      split at q
      · rename_i j hj
        split at q
        · rename_i y hy
          split at q
          · rename_i hl
            have hl : xs.length ≤ 16777216 := hl
            obtain ⟨ws, hw, rs⟩ := a1.re.ownL2 hi hs
            cases rv
            obtain ⟨w, hw2, rw2⟩ := rs.get hy
            obtain ⟨s1, s2, s3, s4⟩ := ixN_seq hj
            have lw := rs.length
            have ch := Aft.change a1.re hi hs (rs.eraseIdx j)
            refine ⟨a, ws, k, j, w, rfl, rfl, hw, by omega, by omega, by rw [lw]; exact s1, hw2, ?_⟩
            exact q w _ (a1.trans ch) (ch.rp a1.re rw2)
          · exact q.elim
        · exact q.elim
      · exact q.elim
    · exact q.elim
  · have ho : isOwnL env i = false := by simpa using ho
    rw [ho, Bool.not_false, if_pos rfl] at h
    exact h.elim
end
end PV
set_option Elab.async false
set_option linter.all false
set_option maxRecDepth 100000
set_option maxHeartbeats 2000000
/-! PV, part V: len(set(t)) of a tuple of keys. -/
namespace PV
open PySem PySem.Spec PyProof.Rows L2
variable [Wd]
section
variable {X : Cx} {P : Pa} {H : Hp} {pins : List (Addr × Obj)} {σ : L2.St} {s : Shared}
/-- keys as they stand in the heap -/
theorem keys_at (I : Inv X pins σ H s) : ∀ {xs : List V} {us : List Value} {ds : List D} {ks : List NestedKey}, RPs X.K H P xs ds → Vals xs us → keysT ds = some ks → ∃ l : List (Addr × NestedKey), us = l.map (fun p => Value.ref p.1) ∧ l.map (·.2) = ks ∧ ∀ p ∈ l, T.At X.prog X.w s.heap p.2 p.1
  | _, _, _, ks, .nil, .nil, e => by
    simp only [keysT, Option.some.injEq] at e
    subst e
    exact ⟨[], rfl, rfl, fun p h => by cases h⟩
  | _, _, _, ks, .cons (d := d) r1 r2, .cons v1 v2, e => by
    unfold keysT at e
    obtain ⟨k, e1, e⟩ := Option.bind_eq_some_iff.mp e
    obtain ⟨ks', e2, rfl⟩ := Option.map_eq_some_iff.mp e
    obtain ⟨l, h1, h2, h3⟩ := keys_at I r2 v2 e2
    obtain ⟨rfl, hd, kk, rfl⟩ := key_s e1
    obtain ⟨as, rd⟩ := Dp.reads I _ _ _ (r1.dp (noDict_data _)) v1
    have nk := nested_reads _ rd
    unfold NestedKey.data at r1
    cases r1 with
    | tup st rr =>
      cases v1
      refine ⟨(_, .tup kk) :: l, by rw [h1]; rfl, by rw [← h2]; rfl, fun p hp => ?_⟩
      rcases List.mem_cons.mp hp with rfl | hp
      · exact ⟨nk, hd⟩
      · exact h3 p hp
theorem pe_lenset {a : Expr} {ta : TA} {p p2 q pos : Pos} (rm : RoomX X) (hc : X.calm = true) (hg : Gl X "len") (hm : X.mg "len" = none) (hg2 : Gl X "set") (hm2 : X.mg "set" = none) (ha : PA X [a] ta) (hs : starEach [a] X.env = [(false, eval a X.env)]) :
    PE X (.Call (.Name "len" p) [.Call (.Name "set" p2) [a] [] q] [] pos) (tCB (rBlt X.K .lenset) ta) := by
  refine ⟨fun pins s σ H Q I h => Call_ (ld_blt I hg hm PySem.boot_len (PyProof.Rows.callWith_builtin1 (PyProof.Rows.args_cons ?_ rfl) rfl rfl))⟩
  refine Call_ (ld_blt I hg2 hm2 PyProof.Rows.boot_set (PyProof.Rows.callWith_type1 (thn (ha.run q pins s σ H _ I h) ?_) hs rfl))
  rintro us s1 ⟨vs, H1, I1, rv, P, ds, dz, new, hx, e, go⟩
  replace e : blt_lenset ds = some dz := e
  unfold blt_lenset at e
  split at e <;> try cases e
  rename_i xs
  obtain ⟨ks, e1, e2⟩ := Option.bind_eq_some_iff.mp e
  split at e2 <;> cases e2
  rename_i few
  obtain ⟨v, rfl, hv⟩ := hx.one
  obtain ⟨b, ws, rfl, hb, rb⟩ := hv.tuple
  obtain ⟨its, ri, tup, _⟩ := I1.tuple hb
  obtain ⟨l, h1, h2, h3⟩ := keys_at I1 rb ri e1
  have tup' : s1.heap.IsTuple b its.toArray := tup
  have un := rm.un
  have len : l.length < 64 := by
    rw [← h2] at few
    simpa using few
  rw [Vals.ref1 rv]
  refine T.set_of_tuple l (I1.ok.hd hc) tup' (by simpa using h1) h3 len (by omega) fun h' tk M es ep t R f old => PyProof.Rows.args_nil ?_
  obtain ⟨o, ho, hex, hd⟩ := R.obj
  have n1 : M.length = (uniq ks).length := by
    have := f.1.length_eq
    rw [List.take_length, h2, List.length_map] at this
    exact this
  have n2 := R.size (s := { s1 with heap := h', toks := tk })
  have n3 := R.few
  refine call_len_set ho hex hd (R.fits (s := { s1 with heap := h', toks := tk })) (by omega) ?_
  refine ⟨.int (uniq ks).length, H1, (I1.kept (h' := h') (t' := tk) old).tok _, ⟨_, by rw [n2, n1]⟩, go _ _ (out_int _) (fresh_int _)⟩
/-! ### sorted(set(xs)) of ints -/
theorem rise_eq : ∀ {l m : List Int}, l.Pairwise (· < ·) → m.Pairwise (· < ·) → (∀ k, k ∈ l ↔ k ∈ m) → l = m
  | [], [], _, _, _ => rfl
  | [], b :: m, _, _, e => absurd ((e b).mpr (List.mem_cons_self ..)) (by simp)
  | a :: l, [], _, _, e => absurd ((e a).mp (List.mem_cons_self ..)) (by simp)
  | a :: l, b :: m, h1, h2, e => by
    rw [List.pairwise_cons] at h1 h2
    have ab : a = b := by
      rcases List.mem_cons.mp ((e a).mp (List.mem_cons_self ..)) with h | h
      · exact h
      · rcases List.mem_cons.mp ((e b).mpr (List.mem_cons_self ..)) with g | g
        · exact g.symm
        · have := h2.1 a h
          have := h1.1 b g
          omega
    subst ab
    rw [rise_eq h1.2 h2.2 fun k => ⟨fun h => ?_, fun h => ?_⟩]
    · rcases List.mem_cons.mp ((e k).mp (List.mem_cons_of_mem _ h)) with g | g
      · have := h1.1 k h
        omega
      · exact g
    · rcases List.mem_cons.mp ((e k).mpr (List.mem_cons_of_mem _ h)) with g | g
      · have := h2.1 k h
        omega
      · exact g
theorem mem_insU {k x : Int} : ∀ {l : List Int}, x ∈ insU k l ↔ x = k ∨ x ∈ l
  | [] => by simp [insU]
  | y :: l => by
    unfold insU
    split
    · simp
    · split
      · rename_i h
        subst h
        simp
      · rw [List.mem_cons, mem_insU, List.mem_cons]
        constructor
        · rintro (h | h | h)
          · exact .inr (.inl h)
          · exact .inl h
          · exact .inr (.inr h)
        · rintro (h | h | h)
          · exact .inr (.inl h)
          · exact .inl h
          · exact .inr (.inr h)
theorem insU_lt {k : Int} : ∀ {l : List Int}, l.Pairwise (· < ·) → (insU k l).Pairwise (· < ·)
  | [], _ => by simp [insU]
  | y :: l, h => by
    have h' := List.pairwise_cons.mp h
    unfold insU
    split
    · rename_i lt
      refine List.pairwise_cons.mpr ⟨fun z hz => ?_, h⟩
      rcases List.mem_cons.mp hz with rfl | hz
      · exact lt
      · have := h'.1 z hz
        omega
    · split
      · exact h
      · refine List.pairwise_cons.mpr ⟨fun z hz => ?_, insU_lt h'.2⟩
        rcases mem_insU.mp hz with rfl | hz
        · omega
        · exact h'.1 z hz
theorem sortU_lt : ∀ l : List Int, (sortU l).Pairwise (· < ·)
  | [] => List.Pairwise.nil
  | x :: l => insU_lt (sortU_lt l)
theorem mem_sortU {k : Int} : ∀ {l : List Int}, k ∈ sortU l ↔ k ∈ l
  | [] => by simp [sortU]
  | x :: l => by
    unfold sortU
    rw [mem_insU, mem_sortU, List.mem_cons]
theorem pe_sortset {a : Expr} {ta : TA} {p p2 q pos : Pos} (hc : X.calm = true) (hg : Gl X "sorted") (hm : X.mg "sorted" = none) (hg2 : Gl X "set") (hm2 : X.mg "set" = none) (ha : PA X [a] ta) (hs : starEach [a] X.env = [(false, eval a X.env)]) :
    PE X (.Call (.Name "sorted" p) [.Call (.Name "set" p2) [a] [] q] [] pos) (tCB (rBlt X.K .sortset) ta) := by
  have boot : bootBuiltins ("sorted" : Str) = some (.builtin "sorted") := by kernel_rfl
  refine ⟨fun pins s σ H Q I h => Call_ (ld_blt I hg hm boot (PyProof.Rows.callWith_builtin1 (PyProof.Rows.args_cons ?_ rfl) rfl rfl))⟩
  refine Call_ (ld_blt I hg2 hm2 PyProof.Rows.boot_set (PyProof.Rows.callWith_type1 (thn (ha.run q pins s σ H _ I h) ?_) hs rfl))
  rintro us s1 ⟨vs, H1, I1, rv, P, ds, dz, new, hx, e, go⟩
  replace e : blt_sortset ds = some dz := e
  unfold blt_sortset at e
  split at e <;> try cases e
  rename_i xs
  obtain ⟨ns, e1, e2⟩ := Option.bind_eq_some_iff.mp e
  split at e2 <;> cases e2
  rename_i few
  obtain ⟨v, rfl, hv⟩ := hx.one
  obtain ⟨b, ws, rfl, hb, rb⟩ := hv.list
  have ew := rb.ints e1
  subst ew
  obtain ⟨its, ri, lst, _⟩ := I1.list hb
  rw [Vals.ref1 rv]
  refine T.set_of_ints ns (I1.ok.hd hc) lst.isList (by simpa using ri.ints) (by unfold scanBound; omega) fun h' tk c R le old => PyProof.Rows.args_nil ?_
  have I2 : Inv X pins σ H1 { s1 with heap := h', toks := tk } := I1.kept (h' := h') (t' := tk) old
  refine sorted_set (s := { s1 with heap := h', toks := tk }) R (I2.ok.hd hc) (by omega) fun s' p out c2 ms keep g o hp hget hi rise mem len => ?_
  have em : ms = sortU ns := rise_eq rise (sortU_lt ns) fun k => by
    rw [mem k, mem_sortU]
    simp
  subst em
  have fresh : H1 p = none := I2.hok.fresh hp
  have short : ((sortU ns).map V.int).length ≤ sizeLine := by
    rw [List.length_map, len, sizeLine_eq]
    omega
  have rows : ∀ l : List Int, RPs X.K H1 P (l.map V.int) (l.map PyData.int) := fun l => by
    induction l with
    | nil => exact .nil
    | cons x l ih => exact .cons (.int x) ih
  have J : Inv X pins σ (upd H1 p (.lst ((sortU ns).map V.int))) { ({ s1 with heap := h', toks := tk } : Shared) with heap := s'.heap, gens := s'.gens, drawn := s'.drawn, toks := s'.toks } :=
    I2.call (ch := []) (Un.laid keep hp fresh) (I2.hok.laid keep hp ⟨short, out.toList, c2, vals_of_ints hi, hget⟩) (by rw [g]; exact I2.bare) (fun _ z => nomatch z)
  have es : s' = { ({ s1 with heap := h', toks := tk } : Shared) with heap := s'.heap, gens := s'.gens, drawn := s'.drawn, toks := s'.toks } := by
    cases s'
    cases o
    rfl
  rw [es]
  exact ⟨.ref p, _, J, rfl, go _ _ (out_lst new fresh (rows _)) (fresh_lst fresh (rows _))⟩
theorem pe_rangel {a : Expr} {ta : TA} {p p2 q pos : Pos} (hc : X.calm = true) (hg : Gl X "list") (hm : X.mg "list" = none) (hg2 : Gl X "range") (hm2 : X.mg "range" = none) (ha : PA X [a] ta) (hs : starEach [a] X.env = [(false, eval a X.env)]) :
    PE X (.Call (.Name "list" p) [.Call (.Name "range" p2) [a] [] q] [] pos) (tCB (rBlt X.K .rangel) ta) := by
  have boot : bootBuiltins ("list" : Str) = some (.type "list") := by kernel_rfl
  have boot2 : bootBuiltins ("range" : Str) = some (.type "range") := by kernel_rfl
  refine ⟨fun pins s σ H Q I h => Call_ (ld_blt I hg hm boot (PyProof.Rows.callWith_type1 (PyProof.Rows.args_cons ?_ rfl) rfl rfl))⟩
  refine Call_ (ld_blt I hg2 hm2 boot2 (PyProof.Rows.callWith_type1 (thn (ha.run q pins s σ H _ I h) ?_) hs rfl))
  rintro us s1 ⟨vs, H1, I1, rv, P, ds, dz, new, hx, e, go⟩
  replace e : blt_rangel ds = some dz := e
  unfold blt_rangel at e
  split at e <;> try cases e
  rename_i n
  split at e <;> cases e
  rename_i few
  obtain ⟨v, rfl, hv⟩ := hx.one
  obtain rfl := hv.int
  obtain ⟨t, rfl⟩ : ∃ t, us = [.int n t] := by
    cases rv with
    | cons h1 h2 => cases h2 with
      | nil =>
        obtain ⟨t, rfl⟩ := h1
        exact ⟨t, rfl⟩
  refine call_range_1 (PyProof.Rows.args_nil ?_)
  have I2 : Inv X pins σ H1 { s1 with heap := s1.heap.push { cls := .type "range", data := .fields #[.int 0 s1.toks, .int n t, .int 1 (s1.toks + 1)] }, toks := s1.toks + 1 + 1 } := I1.kept fun b u e => Heap.get?_push_of_some _ e
  have rows : RPs X.K H1 P (rgV 0 n) (rangeD 0 n) := by
    have all : ∀ l : List Nat, RPs X.K H1 P (l.map fun (i : Nat) => V.int (0 + (i : Int))) (l.map fun (k : Nat) => PyData.int (0 + (k : Int))) := fun l => by
      induction l with
      | nil => exact .nil
      | cons x l ih => exact .cons (.int _) ih
    exact all _
  refine call_list_range (n := (n - 0).toNat) (I2.ok.hd hc) (IsRange.new _ _ _ _ _ _ _) (small_one (by omega) (by omega) (by omega) (by omega)) (rangeSize_nat 0 n) (by omega) fun h' tk acc c' hk e' hi => ?_
  exact ⟨.ref _, _, I2.laid hk (Nat.le_refl _) (show ObjOk X.prog X.w _ _ _ (.lst (rgV 0 n)) from ⟨by rw [rgV_length, sizeLine_eq]; omega, acc.toList, c', vals_rg hi, by rw [Array.toArray_toList]; exact e'⟩), rfl, go _ _ (out_lst new (I2.hok.fresh (Nat.le_refl _)) rows) (fresh_lst (I2.hok.fresh (Nat.le_refl _)) rows)⟩
theorem pe_ranget {a : Expr} {ta : TA} {p p2 q pos : Pos} (hc : X.calm = true) (hg : Gl X "tuple") (hm : X.mg "tuple" = none) (hg2 : Gl X "range") (hm2 : X.mg "range" = none) (ha : PA X [a] ta) (hs : starEach [a] X.env = [(false, eval a X.env)]) :
    PE X (.Call (.Name "tuple" p) [.Call (.Name "range" p2) [a] [] q] [] pos) (tCB (rBlt X.K .ranget) ta) := by
  have boot : bootBuiltins ("tuple" : Str) = some (.type "tuple") := by kernel_rfl
  have boot2 : bootBuiltins ("range" : Str) = some (.type "range") := by kernel_rfl
  refine ⟨fun pins s σ H Q I h => Call_ (ld_blt I hg hm boot (PyProof.Rows.callWith_type1 (PyProof.Rows.args_cons ?_ rfl) rfl rfl))⟩
  refine Call_ (ld_blt I hg2 hm2 boot2 (PyProof.Rows.callWith_type1 (thn (ha.run q pins s σ H _ I h) ?_) hs rfl))
  rintro us s1 ⟨vs, H1, I1, rv, P, ds, dz, new, hx, e, go⟩
  replace e : blt_ranget ds = some dz := e
  unfold blt_ranget at e
  split at e <;> try cases e
  rename_i n
  split at e <;> cases e
  rename_i few
  obtain ⟨v, rfl, hv⟩ := hx.one
  obtain rfl := hv.int
  obtain ⟨t, rfl⟩ : ∃ t, us = [.int n t] := by
    cases rv with
    | cons h1 h2 => cases h2 with
      | nil =>
        obtain ⟨t, rfl⟩ := h1
        exact ⟨t, rfl⟩
  refine call_range_1 (PyProof.Rows.args_nil ?_)
  have I2 : Inv X pins σ H1 { s1 with heap := s1.heap.push { cls := .type "range", data := .fields #[.int 0 s1.toks, .int n t, .int 1 (s1.toks + 1)] }, toks := s1.toks + 1 + 1 } := I1.kept fun b u e => Heap.get?_push_of_some _ e
  have rows : RPs X.K H1 P (rgV 0 n) (rangeD 0 n) := by
    have all : ∀ l : List Nat, RPs X.K H1 P (l.map fun (i : Nat) => V.int (0 + (i : Int))) (l.map fun (k : Nat) => PyData.int (0 + (k : Int))) := fun l => by
      induction l with
      | nil => exact .nil
      | cons x l ih => exact .cons (.int _) ih
    exact all _
  refine call_tuple_range (n := (n - 0).toNat) (I2.ok.hd hc) (IsRange.new _ _ _ _ _ _ _) (small_one (by omega) (by omega) (by omega) (by omega)) (rangeSize_nat 0 n) (by omega) fun h' tk acc hk hi => ?_
  have I3 : Inv X pins σ H1 { s1 with heap := h', toks := tk } := I2.kept (h' := h') (t' := tk) hk
  exact laidT (h' := h') (tk := tk) I2 hk (vals_rg hi) (by
    rw [rgV_length, sizeLine_eq]
    omega) fun p o n d => go _ _ (out_tup n d rows) (fun _ z => by cases z)
end
end PV
set_option Elab.async false
set_option linter.all false
set_option maxRecDepth 100000
set_option maxHeartbeats 2000000
/-! PV, part K: which text an expression stands for; soundness. -/
namespace PV
open PySem PySem.Spec PyProof.Rows L2
variable [Wd]
/-- what is known of a text ahead of its run: the slots' names, the defs by the names they are called by, constants, builtins that are left as they are -/
structure Mt where
  N : List Str
  fns : List (Str × Def)
  con : List (Str × D)
  blt : List Str
  gcd : Bool
  kw : List (Str × Nat × List Str × List Nat)
  rank : List Str
mutual
def dEq : D → D → Bool
  | .none, .none => true
  | .bool a, .bool b => a == b
  | .int a, .int b => a == b
  | .str a, .str b => a == b
  | .list a, .list b => dEqs a b
  | .tuple a, .tuple b => dEqs a b
  | _, _ => false
def dEqs : List D → List D → Bool
  | [], [] => true
  | x :: xs, y :: ys => dEq x y && dEqs xs ys
  | _, _ => false
end
mutual
theorem dEq_eq : ∀ {a b : D}, dEq a b = true → a = b
  | .none, b, h => by cases b <;> simp_all [dEq]
  | .bool x, b, h => by cases b <;> simp_all [dEq]
  | .int x, b, h => by cases b <;> simp_all [dEq]
  | .str x, b, h => by cases b <;> simp_all [dEq]
  | .list x, b, h => by
    cases b <;> simp [dEq] at h
    rw [dEqs_eq h]
  | .tuple x, b, h => by
    cases b <;> simp [dEq] at h
    rw [dEqs_eq h]
  | .dict x, b, h => by cases b <;> simp_all [dEq]
theorem dEqs_eq : ∀ {a b : List D}, dEqs a b = true → a = b
  | [], b, h => by cases b <;> simp_all [dEqs]
  | x :: xs, b, h => by
    cases b with
    | nil => simp [dEqs] at h
    | cons y ys =>
      simp only [dEqs, Bool.and_eq_true] at h
      rw [dEq_eq h.1, dEqs_eq h.2]
end
def visB (sc : Scope) (x : Str) : Bool := match sc.names.lookup x with
  | some .local => true
  | some .cell => true
  | some .free => true
  | _ => false
def glB (sc : Scope) (x : Str) : Bool := match sc.names.lookup x with
  | some .globalImplicit => true
  | _ => false
def sayD (x : Str) : Bool := (x == ("__debug__" : Str)) || (x == ("__classdict__" : Str)) || decide (x = "__name__")
def bopO : Bop → Operator
  | .add => .Add
  | .sub => .Sub
  | .mul => .Mult
  | .fdiv => .FloorDiv
  | .mod => .Mod
  | .pow => .Pow
  | .shr => .RShift
  | .shl => .LShift
  | .band => .BitAnd
def copO : Cop → CmpOp
  | .eq => .Eq
  | .ne => .NotEq
  | .lt => .Lt
  | .le => .LtE
  | .gt => .Gt
  | .ge => .GtE
  | .isN => .Is
  | .notN => .IsNot
  | .inn => .In
  | .notin => .NotIn
def bltName : Blt → Option (Str × Value)
  | .len => some ("len", .builtin "len")
  | .abs => some ("abs", .builtin "abs")
  | .max2 => some ("max", .builtin "max")
  | .min2 => some ("min", .builtin "min")
  | .int1 => some ("int", .type "int")
  | .str1 => some ("str", .type "str")
  | .repr => some ("repr", .builtin "repr")
  | .all => some ("all", .builtin "all")
  | .any => some ("any", .builtin "any")
  | .sum => some ("sum", .builtin "sum")
  | .divmod => some ("divmod", .builtin "divmod")
  | .tuple => some ("tuple", .type "tuple")
  | .list => some ("list", .type "list")
  | .sorted => some ("sorted", .builtin "sorted")
  | .maxl => some ("max", .builtin "max")
  | _ => none
def tyStr : Ty → Str
  | .int => "int"
  | .bool => "bool"
  | .str => "str"
  | .tuple => "tuple"
  | .list => "list"
  | .dict => "dict"
def notStar : Expr → Bool
  | .Starred _ _ => false
  | _ => true
def notSet : Expr → Bool
  | .Set _ _ _ => false
  | _ => true
def notSlice : Expr → Bool
  | .Slice _ _ _ _ => false
  | _ => true
def isTup : Expr → Bool
  | .Tuple _ _ _ => true
  | _ => false
/-! views of a text -/
def vName : Expr → Option Str
  | .Name x _ => some x
  | _ => none
def vConst : Expr → Option Const
  | .Constant c _ _ => some c
  | _ => none
def vTup : Expr → Option (List Expr)
  | .Tuple xs _ _ => some xs
  | _ => none
def isDict0 : Expr → Bool
  | .Dict [] [] _ => true
  | _ => false
theorem isDict0_s {x : Expr} (h : isDict0 x = true) : ∃ p, x = .Dict [] [] p := by
  unfold isDict0 at h
  split at h
  · exact ⟨_, rfl⟩
  · cases h
def vLst : Expr → Option (List Expr)
  | .List xs _ => some xs
  | _ => none
def vBin : Expr → Option (Expr × Operator × Expr)
  | .BinOp x o y _ => some (x, o, y)
  | _ => none
def vUn : Expr → Option (UnaryOp × Expr)
  | .UnaryOp o x _ => some (o, x)
  | _ => none
def vBool : Expr → Option (BoolOp × List Expr)
  | .BoolOp o xs _ => some (o, xs)
  | _ => none
def vCmp1 : Expr → Option (Expr × CmpOp × Expr)
  | .Compare x [o] [y] _ => some (x, o, y)
  | _ => none
def vCmp2 : Expr → Option (Expr × CmpOp × Expr × CmpOp × Expr)
  | .Compare x [o, o'] [y, z] _ => some (x, o, y, o', z)
  | _ => none
def vIf : Expr → Option (Expr × Expr × Expr)
  | .IfExp c a b _ => some (c, a, b)
  | _ => none
def vIdx : Expr → Option (Expr × Expr)
  | .Subscript x y _ => some (x, y)
  | _ => none
def vSl : Expr → Option (Expr × Option Expr × Option Expr)
  | .Subscript x (.Slice l h none _) _ => some (x, l, h)
  | _ => none
def vRev : Expr → Option Expr
  | .Subscript x (.Slice none none (some (.UnaryOp .USub (.Constant (.int 1) _ _) _)) _) _ => some x
  | _ => none
def vCall : Expr → Option (Str × List Expr)
  | .Call (.Name x _) ys [] _ => some (x, ys)
  | _ => none
def vCallK : Expr → Option (Str × List Expr × List Keyword)
  | .Call (.Name x _) ys ks _ => some (x, ys, ks)
  | _ => none
/-- key=f, reverse=True -/
def vRankKw : List Keyword → Option (Str × Pos × Const)
  | [⟨some a, .Name f p, _⟩, ⟨some b, .Constant c _ _, _⟩] => if a = "key" ∧ b = "reverse" then some (f, p, c) else none
  | _ => none
theorem vRankKw_s {ks : List Keyword} {f : Str} {p : Pos} {c : Const} (h : vRankKw ks = some (f, p, c)) : ∃ p1 k p2 p3, ks = [⟨some "key", .Name f p, p1⟩, ⟨some "reverse", .Constant c k p2, p3⟩] := by
  unfold vRankKw at h
  split at h
  · split at h
    · rename_i hc
      obtain ⟨rfl, rfl⟩ := hc
      cases h
      exact ⟨_, _, _, _, rfl⟩
    · cases h
  · cases h
/-- d.get(k, x) -/
def vGet2 : Expr → Option (Str × Pos × Expr × Expr)
  | .Call (.Attribute (.Name n p1) m ap) [y, z] [] p => if m = "get" ∧ (ap.endLine == p.line) = true then some (n, p1, y, z) else none
  | _ => none
theorem vGet2_s {e y z : Expr} {n : Str} {p1 : Pos} (h : vGet2 e = some (n, p1, y, z)) : ∃ ap p, e = .Call (.Attribute (.Name n p1) "get" ap) [y, z] [] p ∧ (ap.endLine == p.line) = true := by
  unfold vGet2 at h
  split at h
  · split at h
    · rename_i hc
      obtain ⟨rfl, hc⟩ := hc
      cases h
      exact ⟨_, _, rfl, hc⟩
    · cases h
  · cases h
/-- o.m(y) -/
def notCall : Expr → Bool
  | .Call _ _ _ _ => false
  | _ => true
def vMet1 (m : Str) : Expr → Option (Expr × Expr)
  | .Call (.Attribute o name ap) [y] [] p => if name = m ∧ (notCall o && (ap.endLine == p.line)) = true then some (o, y) else none
  | _ => none
theorem vMet1_s {e o y : Expr} {m : Str} (h : vMet1 m e = some (o, y)) : ∃ ap p, e = .Call (.Attribute o m ap) [y] [] p ∧ notCall o = true ∧ (ap.endLine == p.line) = true := by
  unfold vMet1 at h
  split at h
  · split at h
    · rename_i hc
      obtain ⟨rfl, hc⟩ := hc
      cases h
      simp only [Bool.and_eq_true] at hc
      exact ⟨_, _, rfl, hc⟩
    · cases h
  · cases h
theorem base_plain {o : Expr} (h : notCall o = true) (m : Str) (env : PySem.Env) : attributeBase o m env (eval o env) = eval o env := by
  cases o <;> first | rfl | cases h
/-- {k: v for k, v in e} -/
def vDictC : Expr → Option (Str × Str × Expr × Scope × Nat)
  | .DictComp (.Name k _) (.Name v _) [⟨.Tuple [.Name k' _, .Name v' _] kk _, it, [], 0⟩] scope _ => if k = k' ∧ v = v' then some (k, v, it, scope, kk) else none
  | _ => none
theorem vDictC_s {e it : Expr} {k v : Str} {scope : Scope} {kk : Nat} (h : vDictC e = some (k, v, it, scope, kk)) : ∃ p1 p2 p3 p4 p5 p6, e = .DictComp (.Name k p1) (.Name v p2) [⟨.Tuple [.Name k p3, .Name v p4] kk p5, it, [], 0⟩] scope p6 := by
  unfold vDictC at h
  split at h
  · split at h
    · rename_i hc
      obtain ⟨rfl, rfl⟩ := hc
      cases h
      exact ⟨_, _, _, _, _, _, rfl⟩
    · cases h
  · cases h
def vComp : Expr → Option (Expr × Expr × Expr × List Expr × Scope)
  | .ListComp e [⟨t, i, ifs, 0⟩] scope _ => some (e, t, i, ifs, scope)
  | _ => none
theorem vName_s {x : Expr} {n : Str} (h : vName x = some n) : ∃ p, x = .Name n p := by
  cases x <;> simp_all [vName]
theorem vConst_s {x : Expr} {n : Const} (h : vConst x = some n) : ∃ k p, x = .Constant n k p := by
  cases x <;> simp_all [vConst]
theorem vTup_s {x : Expr} {n : List Expr} (h : vTup x = some n) : ∃ k p, x = .Tuple n k p := by
  cases x <;> simp_all [vTup]
theorem vLst_s {x : Expr} {n : List Expr} (h : vLst x = some n) : ∃ p, x = .List n p := by
  cases x <;> simp_all [vLst]
theorem vBin_s {x a b : Expr} {o : Operator} (h : vBin x = some (a, o, b)) : ∃ p, x = .BinOp a o b p := by
  cases x <;> simp_all [vBin]
theorem vUn_s {x a : Expr} {o : UnaryOp} (h : vUn x = some (o, a)) : ∃ p, x = .UnaryOp o a p := by
  cases x <;> simp_all [vUn]
theorem vBool_s {x : Expr} {o : BoolOp} {a : List Expr} (h : vBool x = some (o, a)) : ∃ p, x = .BoolOp o a p := by
  cases x <;> simp_all [vBool]
theorem vCmp1_s {x a b : Expr} {o : CmpOp} (h : vCmp1 x = some (a, o, b)) : ∃ p, x = .Compare a [o] [b] p := by
  unfold vCmp1 at h
  split at h
  · cases h
    exact ⟨_, rfl⟩
  · cases h
theorem vCmp2_s {x a b c : Expr} {o o' : CmpOp} (h : vCmp2 x = some (a, o, b, o', c)) : ∃ p, x = .Compare a [o, o'] [b, c] p := by
  unfold vCmp2 at h
  split at h
  · cases h
    exact ⟨_, rfl⟩
  · cases h
theorem vIf_s {x a b c : Expr} (h : vIf x = some (c, a, b)) : ∃ p, x = .IfExp c a b p := by
  cases x <;> simp_all [vIf]
theorem vIdx_s {x a b : Expr} (h : vIdx x = some (a, b)) : ∃ p, x = .Subscript a b p := by
  cases x <;> simp_all [vIdx]
theorem vSl_s {x a : Expr} {l u : Option Expr} (h : vSl x = some (a, l, u)) : ∃ p p', x = .Subscript a (.Slice l u none p) p' := by
  unfold vSl at h
  split at h
  · cases h
    exact ⟨_, _, rfl⟩
  · cases h
theorem vRev_s {x a : Expr} (h : vRev x = some a) : ∃ k p1 p2 p3 p, x = .Subscript a (.Slice none none (some (.UnaryOp .USub (.Constant (.int 1) k p1) p2)) p3) p := by
  unfold vRev at h
  split at h
  · cases h
    exact ⟨_, _, _, _, _, rfl⟩
  · cases h
theorem vCall_s {x : Expr} {n : Str} {ys : List Expr} (h : vCall x = some (n, ys)) : ∃ p p', x = .Call (.Name n p) ys [] p' := by
  unfold vCall at h
  split at h
  · cases h
    exact ⟨_, _, rfl⟩
  · cases h
theorem vCallK_s {x : Expr} {n : Str} {ys : List Expr} {ks : List Keyword} (h : vCallK x = some (n, ys, ks)) : ∃ p p', x = .Call (.Name n p) ys ks p' := by
  unfold vCallK at h
  split at h
  · cases h
    exact ⟨_, _, rfl⟩
  · cases h
theorem vComp_s {x e t i : Expr} {ifs : List Expr} {scope : Scope} (h : vComp x = some (e, t, i, ifs, scope)) : ∃ p, x = .ListComp e [⟨t, i, ifs, 0⟩] scope p := by
  unfold vComp at h
  split at h
  · cases h
    exact ⟨_, rfl⟩
  · cases h
/-- an option, looked at -/
def see {A : Type} (o : Option A) (f : A → Bool) : Bool := match o with
  | some a => f a
  | none => false
theorem see_t {A : Type} {o : Option A} {f : A → Bool} (h : see o f = true) : ∃ a, o = some a ∧ f a = true := by
  cases o with
  | none => cases h
  | some a => exact ⟨a, rfl, h⟩
variable (M : Mt)
/-- a target -/
def locB (sc fs : Scope) (x : Str) : Bool := match sc.names.lookup x with
  | some .local => true
  | some .cell => decide (fs.names.lookup x = some .cell)
  | _ => false
mutual
def mG (sc fs : Scope) : Tg → Expr → Bool
  | .name i, x => see (vName x) fun x => decide (M.N[i]? = some x) && locB sc fs x
  | .tup ts, x => see (vTup x) fun xs => mGs sc fs ts xs
def mGs (sc fs : Scope) : List Tg → List Expr → Bool
  | [], xs => xs.isEmpty
  | t :: ts, xs => see xs.head? fun x => notStar x && mG sc fs t x && mGs sc fs ts xs.tail
end
def tgTup : Tg → Bool
  | .tup _ => true
  | _ => false
/-- a name of the builtins, as it stands -/
def bltB (sc : Scope) (x y : Str) : Bool := decide (x = y) && glB sc x && M.blt.contains x && !sayD x
def plainC : Cop → Bool
  | .isN => false
  | .notN => false
  | .inn => false
  | .notin => false
  | _ => true
mutual
def mE (sc fs : Scope) : Exp → Expr → Bool
  | .var i, x => see (vName x) fun x => decide (M.N[i]? = some x) && visB sc x && !sayD x
  | .int i, x => see (vConst x) fun c => decide (c = .int i)
  | .str s, x => see (vConst x) fun c => decide (c = .str s)
  | .bl b, x => see (vConst x) fun c => decide (c = .bool b)
  | .non, x => see (vConst x) fun c => decide (c = .none)
  | .glob x d, y => see (vName y) fun y => decide (x = y) && glB sc y && !sayD y && M.con.any fun p => decide (p.1 = y) && dEq p.2 d
  | .tup es, x => see (vTup x) fun xs => mEs sc fs es xs && decide (exsLen es ≤ 1000)
  | .lst es, x => see (vLst x) fun xs => mEs sc fs es xs && decide (exsLen es ≤ 1000)
  | .dict0, x => isDict0 x
  | .bin o a b, x => see (vBin x) fun p => decide (p.2.1 = bopO o) && mE sc fs a p.1 && mE sc fs b p.2.2
  | .neg a, x => see (vUn x) fun p => decide (p.1 = .USub) && mE sc fs a p.2
  | .nott a, x => see (vUn x) fun p => decide (p.1 = .Not) && mE sc fs a p.2
  | .conj es, x => see (vBool x) fun p => decide (p.1 = .And) && mEs sc fs es p.2 && !p.2.isEmpty
  | .disj es, x => see (vBool x) fun p => decide (p.1 = .Or) && mEs sc fs es p.2 && !p.2.isEmpty
  | .cmp o a b, x => see (vCmp1 x) fun p => decide (p.2.1 = copO o) && mE sc fs a p.1 && (match o with
      | .isN => decide (vConst p.2.2 = some .none)
      | .notN => decide (vConst p.2.2 = some .none)
      | .inn => mE sc fs b p.2.2 && notSet p.2.2
      | .notin => mE sc fs b p.2.2 && notSet p.2.2
      | _ => mE sc fs b p.2.2)
  | .cmp2 o o' a b c, x => see (vCmp2 x) fun p => decide (p.2.1 = copO o) && decide (p.2.2.2.1 = copO o') && plainC o && plainC o' && mE sc fs a p.1 && mE sc fs b p.2.2.1 && mE sc fs c p.2.2.2.2
  | .ite c a b, x => see (vIf x) fun p => mE sc fs c p.1 && mE sc fs a p.2.1 && mE sc fs b p.2.2
  | .idx a i, x => see (vIdx x) fun p => mE sc fs a p.1 && mE sc fs i p.2 && notSlice p.2
  | .slice a lo hi, x => see (vSl x) fun p => mE sc fs a p.1 && mO sc fs lo p.2.1 && mO sc fs hi p.2.2
  | .rev a, x => see (vRev x) fun y => mE sc fs a y
  | .call f br es, x => see (vCall x) fun p => (see (M.fns.lookup p.1) fun fn => decide (fn.name = f) && decide (fn.br = br) && !fn.fresh && decide (exsLen es = fn.params)) && mEs sc fs es p.2 && !p.2.isEmpty && glB sc p.1 && !sayD p.1
  | .callK f _ es kes ks perm, x => see (vCallK x) fun p => (see (M.fns.lookup p.1) fun fn => decide (fn.name = f) && !fn.br && !fn.fresh && decide (exsLen es + perm.length = fn.params)) && mEs sc fs es p.2.1 && mEs sc fs kes (p.2.2.map (·.value)) && decide (p.2.2.map (·.arg) = ks.map some) &&
      (M.kw.any fun q => decide (q = (p.1, exsLen es, ks, perm))) && (perm.all fun i => decide (i < ks.length)) && glB sc p.1 && !sayD p.1
  | .callJ f g es, x => see (vCall x) fun p => see p.2.head? fun y => see (vCall y) fun q => p.2.tail.isEmpty && (see (M.fns.lookup p.1) fun fn => see (M.fns.lookup q.1) fun gn => decide (fn.name = f) && decide (gn.name = g) && fn.br && !fn.fresh && decide (fn.params = 1) && !gn.br && gn.fresh && decide (exsLen es = gn.params)) &&
      mEs sc fs es q.2 && !q.2.isEmpty && glB sc p.1 && !sayD p.1 && glB sc q.1 && !sayD q.1
  | .blt b es, x => (match b with
    | .sortset => see (vCall x) fun p => see p.2.head? fun y => see (vCall y) fun q => p.2.tail.isEmpty && bltB M sc p.1 "sorted" && bltB M sc q.1 "set" && decide (exsLen es = 1) && mEs sc fs es q.2
    | .rangel => see (vCall x) fun p => see p.2.head? fun y => see (vCall y) fun q => p.2.tail.isEmpty && bltB M sc p.1 "list" && bltB M sc q.1 "range" && decide (exsLen es = 1) && mEs sc fs es q.2
    | .ranget => see (vCall x) fun p => see p.2.head? fun y => see (vCall y) fun q => p.2.tail.isEmpty && bltB M sc p.1 "tuple" && bltB M sc q.1 "range" && decide (exsLen es = 1) && mEs sc fs es q.2
    | .lenset => see (vCall x) fun p => see p.2.head? fun y => see (vCall y) fun q => p.2.tail.isEmpty && bltB M sc p.1 "len" && bltB M sc q.1 "set" && decide (exsLen es = 1) && mEs sc fs es q.2
    | .sortrank => see (vCallK x) fun p => see (vRankKw p.2.2) fun q => bltB M sc p.1 "sorted" && mEs sc fs es p.2.1 && !p.2.1.isEmpty && M.rank.contains q.1 && glB sc q.1 && !sayD q.1 && decide (q.2.2 = .bool true)
    | _ => see (vCall x) fun p => (match b with
      | .gcd => M.gcd && decide (p.1 = "gcd") && glB sc p.1
      | _ => see (bltName b) fun q => bltB M sc p.1 q.1) && mEs sc fs es p.2 && !p.2.isEmpty)
  | .isi a t, x => see (vCall x) fun p => see p.2.head? fun y => see p.2.tail.head? fun z => see (vName z) fun z => p.2.tail.tail.isEmpty && bltB M sc p.1 "isinstance" && bltB M sc z (tyStr t) && mE sc fs a y && notStar y
  | .meth m o es, x => (match m with
    | .index => see (vMet1 "index" x) fun p => mE sc fs o p.1 && mEs sc fs es [p.2]
    | _ => false)
  | .dictof a, x => see (vCall x) fun p => see p.2.head? fun y => p.2.tail.isEmpty && bltB M sc p.1 "dict" && mE sc fs a y && notStar y
  | .dcomp own i j a, x => see (vDictC x) fun p => decide (own.map (·.2) = [i, j]) && decide (i ≠ j) && decide (M.N[i]? = some p.1) && decide (M.N[j]? = some p.2.1) && locB (relS p.2.2.2.1 sc) p.2.2.2.1 p.1 && locB (relS p.2.2.2.1 sc) p.2.2.2.1 p.2.1 &&
      !sayD p.1 && !sayD p.2.1 && notSet p.2.2.1 && blkC M.N sc p.2.2.2.1 own && mE sc fs a p.2.2.1
  | .get2 i k d, x => see (vGet2 x) fun p => decide (M.N[i]? = some p.1) && visB sc p.1 && !sayD p.1 && mE sc fs k p.2.2.1 && notStar p.2.2.1 && mE sc fs d p.2.2.2 && notStar p.2.2.2
  | .pop _, _ => false
  | .popAt i e, x => see (vMet1 "pop" x) fun p => see (vName p.1) fun n => decide (M.N[i]? = some n) && visB sc n && !sayD n && mE sc fs e p.2 && notStar p.2
  | .comp elt tg it cs own, x => see (vComp x) fun p => mI sc fs it p.2.2.1 && (match it with
      | .zip _ _ => isTup p.2.1
      | .enum _ => isTup p.2.1
      | _ => true) && notSet p.2.2.1 && blkC M.N sc p.2.2.2.2 own && mG M (relS p.2.2.2.2 sc) p.2.2.2.2 tg p.2.1 && mE (relS p.2.2.2.2 sc) p.2.2.2.2 elt p.1 &&
      mT (relS p.2.2.2.2 sc) p.2.2.2.2 cs p.2.2.2.1 && (tgSlots tg).all fun v => decide (v ∈ own.map (·.2))
def mEs (sc fs : Scope) : Exs → List Expr → Bool
  | .nil, xs => xs.isEmpty
  | .cons e es, xs => see xs.head? fun x => mE sc fs e x && notStar x && mEs sc fs es xs.tail
/-- tests of a comprehension: one at most -/
def mT (sc fs : Scope) : Exs → List Expr → Bool
  | .nil, xs => xs.isEmpty
  | .cons e es, xs => see xs.head? fun x => mE sc fs e x && xs.tail.isEmpty && decide (exsLen es = 0)
def mO (sc fs : Scope) : Exo → Option Expr → Bool
  | .non, x => x.isNone
  | .som e, x => see x fun x => mE sc fs e x
def mI (sc fs : Scope) : Itx → Expr → Bool
  | .seq e, x => mE sc fs e x
  | .range1 e, x => see (vCall x) fun p => see p.2.head? fun y => p.2.tail.isEmpty && bltB M sc p.1 "range" && mE sc fs e y && notStar y
  | .range2 a b, x => see (vCall x) fun p => see p.2.head? fun y => see p.2.tail.head? fun z => p.2.tail.tail.isEmpty && bltB M sc p.1 "range" && mE sc fs a y && notStar y && mE sc fs b z && notStar z
  | .enum a, x => see (vCall x) fun p => see p.2.head? fun y => p.2.tail.isEmpty && bltB M sc p.1 "enumerate" && mE sc fs a y && notStar y
  | .zip a b, x => see (vCall x) fun p => see p.2.head? fun y => see p.2.tail.head? fun z => p.2.tail.tail.isEmpty && bltB M sc p.1 "zip" && mE sc fs a y && notStar y && mE sc fs b z && notStar z
end
/-! ### soundness -/
structure GX (M : Mt) (Ph : CallF) (X : Cx) (sc fs : Scope) : Prop where
  nm : X.N = M.N
  nd : M.N.Nodup
  sc : X.env.scope = sc
  fn : ∀ x, fs.names.lookup x = some .cell → X.fn x = true
  calm : X.calm = true
  room : RoomX X
  con : ∀ p ∈ M.con, ∃ u v, X.mg p.1 = some u ∧ RelV v u ∧ ∀ H P, RP X.K H P v p.2
  blt : ∀ x ∈ M.blt, X.mg x = none
  gcd : M.gcd = true → X.mg "gcd" = some (.builtin "math.gcd")
  fns : ∀ x fn, M.fns.lookup x = some fn → ∃ k f fd ps, FnG X.prog X.w X.K X.mg X.base k f fd ps (spF Ph X.K fn) ∧ Room k X.A ∧ X.mg x = some (.ref f) ∧ PySem.W.keepIn X.K (.ref f) = true ∧ Binds X.K fd ps [] ∧ ∀ q ∈ M.kw, q.1 = x → KwB X.K fd ps q.2.1 q.2.2.1 q.2.2.2
  rank : ∀ x ∈ M.rank, ∃ f, X.mg x = some (.ref f) ∧ RankOk X.prog X.w X.K X.mg X.base f ∧ X.A.handled = none ∧ X.A.depth < recursionLimit
structure SE (Ph : CallF) (W : WZ) (X : Cx) (ex : Exp) (x : Expr) : Prop where
  e : PE X x (tE Ph X.K W ex)
  g : makes ex = true → PE X x (tG Ph X.K W ex)
  o : PE X x (tO Ph X.K W ex)
  t : PT X x (tT Ph X.K W ex)
structure SEs (Ph : CallF) (W : WZ) (X : Cx) (e : Exs) (x : List Expr) : Prop where
  v : PA X x (tEs Ph X.K W e)
  o : PA X x (tOs Ph X.K W e)
section
variable {M : Mt} {Ph : CallF} {X : Cx} {sc fs : Scope}
theorem GX.gl (G : GX M Ph X sc fs) {x : Str} (h : glB sc x = true) : Gl X x := by
  unfold glB at h
  show X.env.scope.names.lookup x = _
  rw [G.sc]
  split at h
  · assumption
  · cases h
theorem GX.vis (G : GX M Ph X sc fs) {x : Str} (h : visB sc x = true) : Vis X.env.scope x := by
  unfold visB at h
  unfold Vis
  rw [G.sc]
  split at h
  · exact .inl (by assumption)
  · exact .inr (.inl (by assumption))
  · exact .inr (.inr (by assumption))
  · cases h
theorem GX.loc (G : GX M Ph X sc fs) {x : Str} (h : locB sc fs x = true) : L2.Loc X.env.scope x ∧ (X.fn x = true ∨ X.env.scope.names.lookup x = some .local) := by
  unfold locB at h
  unfold L2.Loc
  rw [G.sc]
  split at h
  · exact ⟨.inl (by assumption), .inr (by assumption)⟩
  · exact ⟨.inr (by assumption), .inl (G.fn _ (by simpa using h))⟩
  · cases h
theorem sayD_f {x : Str} (h : (!sayD x) = true) : (x == ("__debug__" : Str)) = false ∧ (x == ("__classdict__" : Str)) = false ∧ x ≠ "__name__" := by
  unfold sayD at h
  simpa [and_assoc] using h
theorem star_f {x : Expr} {xs : List Expr} {env : PySem.Env} (h : notStar x = true) : starEach (x :: xs) env = (false, eval x env) :: starEach xs env := by
  cases x <;> first | rfl | cases h
theorem GX.blk (G : GX M Ph X sc fs) {s : Shared} {H : Hp} {scope : Scope} {C : Addr} {cl : List (Str × Addr)} {fp : List Addr} : GX M Ph (X.blk s H scope (compEnvC scope cl C X.env) fp) (relS scope sc) scope where
  nm := G.nm
  nd := G.nd
  sc := by
    have e : (compEnvC scope cl C X.env).scope = relS scope X.env.scope := rfl
    show (compEnvC scope cl C X.env).scope = _
    rw [e, G.sc]
  fn := fun x h => by
    show (scope.names.lookup x == some .cell) = true
    rw [h]
    rfl
  calm := G.calm
  room := ⟨G.room.un, G.room.gd, G.room.pw⟩
  con := G.con
  blt := G.blt
  gcd := G.gcd
  fns := G.fns
  rank := G.rank
end
end PV
set_option Elab.async false
set_option linter.all false
set_option maxRecDepth 100000
set_option maxHeartbeats 2000000
/-! PV, part L: soundness of the matcher. -/
namespace PV
open PySem PySem.Spec PyProof.Rows L2
variable [Wd]
section
variable {K : PySem.W.Frag} {W : WZ} {Ph : CallF} {X : Cx}
theorem opcAll (rm : RoomX X) {o : Cop} (h : o ≠ .isN ∧ o ≠ .notN) : OpR X (compareOp (copO o)) (rCmp X.K o) := by
  cases o with
  | eq => exact opc_eq rm
  | ne => exact opc_ne rm
  | lt => exact opc_lt rm
  | le => exact opc_le rm
  | gt => exact opc_gt rm
  | ge => exact opc_ge rm
  | isN => exact absurd rfl h.1
  | notN => exact absurd rfl h.2
  | inn => exact opc_in rm
  | notin => exact opc_notin rm
theorem opbAll (o : Bop) : OpR X (binaryOp (bopO o)) (rBin X.K o) := by
  cases o with
  | add => exact opb_add
  | sub => exact opb_sub
  | mul => exact opb_mul
  | fdiv => exact opb_fdiv
  | mod => exact opb_mod
  | pow => exact opb_pow
  | shr => exact opb_shr
  | shl => exact opb_shl
  | band => exact opb_band
theorem bltAll (rm : RoomX X) (hc : X.calm = true) {b : Blt} {p : Str × Value} (h : bltName b = some p) : CallR X p.2 (rBlt X.K b) ∧ bootBuiltins p.1 = some p.2 ∧ ((∃ i, p.2 = .builtin i) ∨ ∃ i, p.2 = .type i) := by
  cases b <;> cases h
  · exact ⟨cb_len, by rfl, .inl ⟨_, rfl⟩⟩
  · exact ⟨cb_abs, by rfl, .inl ⟨_, rfl⟩⟩
  · exact ⟨cb_max2 hc, by rfl, .inl ⟨_, rfl⟩⟩
  · exact ⟨cb_min2 hc, by rfl, .inl ⟨_, rfl⟩⟩
  · exact ⟨cb_int1, by rfl, .inr ⟨_, rfl⟩⟩
  · exact ⟨cb_str1, by rfl, .inr ⟨_, rfl⟩⟩
  · exact ⟨cb_repr rm, by rfl, .inl ⟨_, rfl⟩⟩
  · exact ⟨cb_all hc, by rfl, .inl ⟨_, rfl⟩⟩
  · exact ⟨cb_any hc, by rfl, .inl ⟨_, rfl⟩⟩
  · exact ⟨cb_sum hc, by rfl, .inl ⟨_, rfl⟩⟩
  · exact ⟨cb_divmod, by rfl, .inl ⟨_, rfl⟩⟩
  · exact ⟨cb_tuple, by rfl, .inr ⟨_, rfl⟩⟩
  · exact ⟨cb_list, by rfl, .inr ⟨_, rfl⟩⟩
  · exact ⟨cb_sorted rm, by rfl, .inl ⟨_, rfl⟩⟩
  · exact ⟨cb_maxl hc rm, by rfl, .inl ⟨_, rfl⟩⟩
theorem pt_ifX {a b c : Expr} {pos : Pos} {tc ta tb : TT} (hc : PT X c tc) (ha : PT X a ta) (hb : PT X b tb) : PT X (.IfExp c a b pos) (fun σ H Q => tc σ H fun k H1 => if k = true then ta σ H1 Q else tb σ H1 Q) := by
  refine ⟨fun pins s σ H Q I h => ?_⟩
  rw [PySem.isTrue]
  refine wpAny_bind (thn (hc.run pins s σ H _ I h) fun k s1 ⟨H1, I1, q1⟩ => ?_)
  cases k with
  | true => exact ha.run pins s1 σ H1 _ I1 q1
  | false => exact hb.run pins s1 σ H1 _ I1 q1
theorem tO_mono {e : Exp} {σ : L2.St} {H : Hp} {Q Q' : VK} (h : tO Ph K W e σ H Q) (m : ∀ v H, Q v H → Q' v H) : tO Ph K W e σ H Q' := by
  obtain ⟨P0, env, r, h⟩ := h
  exact ⟨P0, env, r, h.imp (fun p q v H' a b => m v H' (q v H' a b)) fun _ _ x => x⟩
/-- a test that is a value's -/
theorem pt_ofE {e : Exp} {x : Expr} (g : PE X x (tE Ph X.K W e)) (he : ∀ whole, PySem.isTrue x X.env whole = (do let v ← whole; standAt x.pos; holding [v] (truthy v))) : PT X x (tT Ph X.K W e) :=
  PT.imp (pt_val g he) fun σ H Q h => ent_testE h
/-- not a slot -/
theorem seE {e : Exp} {x : Expr} (g : PE X x (tE Ph X.K W e)) (hm : makes e = false) (ho : ∀ i, e ≠ .var i) (ht : PT X x (tT Ph X.K W e)) : SE Ph W X e x := by
  refine ⟨g, fun z => ?_, PE.imp g fun σ H Q h => ?_, ht⟩
  · rw [hm] at z
    cases z
  · exact ent_opd (fun _ h => h) (fun i z => absurd z (ho i)) h
/-- a new list -/
theorem seG {e : Exp} {x : Expr} (g : PE X x (tG Ph X.K W e)) (ho : ∀ i, e ≠ .var i) (ht : PT X x (tT Ph X.K W e)) : SE Ph W X e x :=
  have g' : PE X x (tE Ph X.K W e) := PE.imp g fun _ _ _ h => tG_of h
  ⟨g', fun _ => g, PE.imp g' fun σ H Q h => ent_opd (fun _ h => h) (fun i z => absurd z (ho i)) h, ht⟩
theorem seEp {e : Exp} {x : Expr} (g : PE X x (tE Ph X.K W e)) (hm : makes e = false) (ho : ∀ i, e ≠ .var i) (he : ∀ whole, PySem.isTrue x X.env whole = (do let v ← whole; standAt x.pos; holding [v] (truthy v))) : SE Ph W X e x := seE g hm ho (pt_ofE g he)
theorem seGp {e : Exp} {x : Expr} (g : PE X x (tG Ph X.K W e)) (ho : ∀ i, e ≠ .var i) (he : ∀ whole, PySem.isTrue x X.env whole = (do let v ← whole; standAt x.pos; holding [v] (truthy v))) : SE Ph W X e x := seG g ho (pt_ofE (PE.imp g fun _ _ _ h => tG_of h) he)
end
section
variable {W : WZ} {M : Mt} {Ph : CallF} {X : Cx} {sc fs : Scope}
theorem se_var {i : Nat} {x : Expr} (G : GX M Ph X sc fs) (h : mE M sc fs (.var i) x = true) : SE Ph W X (.var i) x := by
  unfold mE at h
  obtain ⟨n, h1, h2⟩ := see_t h
  obtain ⟨p, rfl⟩ := vName_s h1
  simp only [Bool.and_eq_true, decide_eq_true_eq] at h2
  obtain ⟨⟨hn, hv⟩, hs⟩ := h2
  obtain ⟨s1, s2, s3⟩ := sayD_f hs
  have g : PE X (.Name n p) (tVar i) := pe_var (by rw [G.nm]; exact hn) (G.vis hv) s1 s2
  have ge : PE X (.Name n p) (tE Ph X.K W (.var i)) := PE.imp g fun _ _ _ h => ent_var h
  refine ⟨ge, nofun, PE.imp g fun σ H Q h => ?_, pt_ofE ge fun _ => by rfl⟩
  exact ent_opd (t := tVar i) (fun _ h => ent_var h) (fun j z => by cases z; rfl) h
theorem se_con {e : Exp} {c : Const} {x : Expr} {v : V} {d : D} (h1 : vConst x = some c) (hm : makes e = false) (ho : ∀ i, e ≠ .var i) (he : ∀ env, ev Ph e env = .ok (d, env)) (hv : ∀ H P, RP X.K H P v d) (g : ∀ k p, PE X (.Constant c k p) (tC v)) : SE Ph W X e x := by
  obtain ⟨k, p, rfl⟩ := vConst_s h1
  exact seEp (PE.imp (g k p) fun _ _ _ h => ent_con he hv h) hm ho fun _ => by rfl
theorem se_int {i : Int} {x : Expr} (h : mE M sc fs (.int i) x = true) : SE Ph W X (.int i) x := by
  unfold mE at h
  obtain ⟨c, h1, h2⟩ := see_t h
  have h2 : c = .int i := by simpa using h2
  subst h2
  exact se_con h1 rfl (fun _ z => by cases z) (fun _ => by unfold ev; rfl) (fun _ _ => .int i) fun _ _ => pe_int
theorem se_str {i : Str} {x : Expr} (h : mE M sc fs (.str i) x = true) : SE Ph W X (.str i) x := by
  unfold mE at h
  obtain ⟨c, h1, h2⟩ := see_t h
  have h2 : c = .str i := by simpa using h2
  subst h2
  exact se_con h1 rfl (fun _ z => by cases z) (fun _ => by unfold ev; rfl) (fun _ _ => .str i) fun _ _ => pe_str
theorem se_bl {i : Bool} {x : Expr} (h : mE M sc fs (.bl i) x = true) : SE Ph W X (.bl i) x := by
  unfold mE at h
  obtain ⟨c, h1, h2⟩ := see_t h
  have h2 : c = .bool i := by simpa using h2
  subst h2
  exact se_con h1 rfl (fun _ z => by cases z) (fun _ => by unfold ev; rfl) (fun _ _ => .bl i) fun _ _ => pe_bl
theorem se_non {x : Expr} (h : mE M sc fs .non x = true) : SE Ph W X .non x := by
  unfold mE at h
  obtain ⟨c, h1, h2⟩ := see_t h
  have h2 : c = .none := by simpa using h2
  subst h2
  exact se_con h1 rfl (fun _ z => by cases z) (fun _ => by unfold ev; rfl) (fun _ _ => .non) fun _ _ => pe_non
theorem se_glob {y : Str} {d : D} {x : Expr} (G : GX M Ph X sc fs) (h : mE M sc fs (.glob y d) x = true) : SE Ph W X (.glob y d) x := by
  unfold mE at h
  obtain ⟨n, h1, h2⟩ := see_t h
  obtain ⟨p, rfl⟩ := vName_s h1
  simp only [Bool.and_eq_true, decide_eq_true_eq, List.any_eq_true] at h2
  obtain ⟨⟨⟨rfl, hg⟩, hs⟩, q, hq, e1, e2⟩ := h2
  obtain ⟨u, v, m1, m2, m3⟩ := G.con q hq
  rw [e1] at m1
  rw [dEq_eq e2] at m3
  exact seEp (PE.imp (pe_glob (G.gl hg) m1 m2 (sayD_f hs).1) fun _ _ _ h => ent_con (fun _ => by unfold ev; rfl) m3 h) rfl (fun _ z => by cases z) fun _ => by rfl
theorem se_bin {o : Bop} {a b : Exp} {x : Expr} (h : mE M sc fs (.bin o a b) x = true) (ia : ∀ y, mE M sc fs a y = true → SE Ph W X a y) (ib : ∀ y, mE M sc fs b y = true → SE Ph W X b y) : SE Ph W X (.bin o a b) x := by
  unfold mE at h
  obtain ⟨⟨y, op, z⟩, h1, h2⟩ := see_t h
  obtain ⟨p, rfl⟩ := vBin_s h1
  simp only [Bool.and_eq_true, decide_eq_true_eq] at h2
  obtain ⟨⟨rfl, ha⟩, hb⟩ := h2
  exact seGp (PE.imp (pe_op (opbAll o) (ia _ ha).o (ib _ hb).o) fun _ _ _ h => ent_bin h) (fun _ z => by cases z) fun _ => by rfl
theorem se_neg {a : Exp} {x : Expr} (h : mE M sc fs (.neg a) x = true) (ia : ∀ y, mE M sc fs a y = true → SE Ph W X a y) : SE Ph W X (.neg a) x := by
  unfold mE at h
  obtain ⟨⟨op, y⟩, h1, h2⟩ := see_t h
  obtain ⟨p, rfl⟩ := vUn_s h1
  simp only [Bool.and_eq_true, decide_eq_true_eq] at h2
  obtain ⟨rfl, ha⟩ := h2
  exact seEp (PE.imp (pe_un un_neg (ia _ ha).e) fun _ _ _ h => ent_neg h) rfl (fun _ z => by cases z) fun _ => by rfl
theorem se_not {a : Exp} {x : Expr} (h : mE M sc fs (.nott a) x = true) (ia : ∀ y, mE M sc fs a y = true → SE Ph W X a y) : SE Ph W X (.nott a) x := by
  unfold mE at h
  obtain ⟨⟨op, y⟩, h1, h2⟩ := see_t h
  obtain ⟨p, rfl⟩ := vUn_s h1
  simp only [Bool.and_eq_true, decide_eq_true_eq] at h2
  obtain ⟨rfl, ha⟩ := h2
  exact seE (PE.imp (pe_not (ia _ ha).e) fun _ _ _ h => ent_nott h) rfl (fun _ z => by cases z) (PT.imp (pt_not (ia _ ha).t) fun _ _ _ h => ent_nottT h)
theorem se_ite {c a b : Exp} {x : Expr} (h : mE M sc fs (.ite c a b) x = true) (ic : ∀ y, mE M sc fs c y = true → SE Ph W X c y) (ia : ∀ y, mE M sc fs a y = true → SE Ph W X a y) (ib : ∀ y, mE M sc fs b y = true → SE Ph W X b y) : SE Ph W X (.ite c a b) x := by
  unfold mE at h
  obtain ⟨⟨u, y, z⟩, h1, h2⟩ := see_t h
  obtain ⟨p, rfl⟩ := vIf_s h1
  simp only [Bool.and_eq_true, decide_eq_true_eq] at h2
  obtain ⟨⟨hc, ha⟩, hb⟩ := h2
  refine seE (PE.imp (pe_ifExp (ic _ hc).t (ia _ ha).e (ib _ hb).e) fun _ _ _ h => ent_ite h) rfl (fun _ z => by cases z) (PT.imp (pt_ifX (ic _ hc).t (ia _ ha).t (ib _ hb).t) fun σ H Q h => ?_)
  obtain ⟨P0, env, r, h⟩ := h
  unfold ev at h
  refine tT_of r (post_bind.mp h) fun d env1 q => ?_
  cases d with
  | bool k =>
    cases k with
    | true =>
      refine ⟨_, rfl, fun H1 a1 => ?_⟩
      rw [if_pos rfl]
      refine tT_of a1.re (Post.imp q (fun _ z => z) fun _ _ z => z.after a1) fun d env2 q => ?_
      obtain ⟨b, e, q⟩ := q
      exact ⟨b, e, fun H2 a2 => q H2 (a1.trans a2)⟩
    | false =>
      refine ⟨_, rfl, fun H1 a1 => ?_⟩
      rw [if_neg Bool.false_ne_true]
      refine tT_of a1.re (Post.imp q (fun _ z => z) fun _ _ z => z.after a1) fun d env2 q => ?_
      obtain ⟨b, e, q⟩ := q
      exact ⟨b, e, fun H2 a2 => q H2 (a1.trans a2)⟩
  | _ => exact q.elim
theorem notSlice_f {y : Expr} (h : notSlice y = true) : PlainIx y := by
  intro o i
  cases y <;> first | rfl | cases h
theorem se_idx {a i : Exp} {x : Expr} (G : GX M Ph X sc fs) (h : mE M sc fs (.idx a i) x = true) (ia : ∀ y, mE M sc fs a y = true → SE Ph W X a y) (ib : ∀ y, mE M sc fs i y = true → SE Ph W X i y) : SE Ph W X (.idx a i) x := by
  unfold mE at h
  obtain ⟨⟨y, z⟩, h1, h2⟩ := see_t h
  obtain ⟨p, rfl⟩ := vIdx_s h1
  simp only [Bool.and_eq_true, decide_eq_true_eq] at h2
  obtain ⟨⟨ha, hb⟩, hs⟩ := h2
  exact seEp (PE.imp (pe_ix (ixr G.room) (ia _ ha).o (ib _ hb).e (notSlice_f hs)) fun _ _ _ h => ent_idx h) rfl (fun _ z => by cases z) fun _ => by rfl
theorem se_rev {a : Exp} {x : Expr} (h : mE M sc fs (.rev a) x = true) (ia : ∀ y, mE M sc fs a y = true → SE Ph W X a y) : SE Ph W X (.rev a) x := by
  unfold mE at h
  obtain ⟨y, h1, h2⟩ := see_t h
  obtain ⟨k, p1, p2, p3, p, rfl⟩ := vRev_s h1
  exact seGp (PE.imp (pe_revA (ia _ h2).o) fun _ _ _ h => ent_rev h) (fun _ z => by cases z) fun _ => by rfl
theorem behind_f {o : Cop} {y : Expr} (h : (o = .inn ∨ o = .notin) → notSet y = true) : behindInMarks (copO o) y = false := by
  cases o with
  | inn => cases y <;> first | rfl | cases h (.inl rfl)
  | notin => cases y <;> first | rfl | cases h (.inr rfl)
  | _ => exact nomark _ (by decide) (by decide)
theorem se_cmp {o : Cop} {a b : Exp} {x : Expr} (G : GX M Ph X sc fs) (h : mE M sc fs (.cmp o a b) x = true) (ia : ∀ y, mE M sc fs a y = true → SE Ph W X a y) (ib : ∀ y, mE M sc fs b y = true → SE Ph W X b y) : SE Ph W X (.cmp o a b) x := by
  unfold mE at h
  obtain ⟨⟨y, op, z⟩, h1, h2⟩ := see_t h
  obtain ⟨p, rfl⟩ := vCmp1_s h1
  simp only [Bool.and_eq_true, decide_eq_true_eq] at h2
  obtain ⟨⟨rfl, ha⟩, hb⟩ := h2
  have gen : o ≠ .isN ∧ o ≠ .notN → mE M sc fs b z = true → ((o = .inn ∨ o = .notin) → notSet z = true) → SE Ph W X (.cmp o a b) (.Compare y [copO o] [z] p) := fun ho hz hs => by
    refine seE (PE.imp (pe_cmpR (opcAll G.room ho) (ia _ ha).o (ib _ hz).o (behind_f hs)) fun _ _ _ h => ent_cmp ho h) rfl (fun _ z => by cases z) ?_
    refine PT.imp (pt_cmpR (opcAll G.room ho) (ia _ ha).o (ib _ hz).o (behind_f hs)) fun σ H Q h => ?_
    exact ent_cmp ho (ent_testE h)
  cases o with
  | isN =>
    have hb : vConst z = some .none := by simpa using hb
    obtain ⟨k, p', rfl⟩ := vConst_s hb
    refine seE (PE.imp (pe_cmp (pc_isN (ia _ ha).o) (nobehind _ (by decide) (by decide))) fun _ _ _ h => ent_isN h) rfl (fun _ z => by cases z) ?_
    exact PT.imp (pt_cmp (pc_isN (ia _ ha).o) (nobehind _ (by decide) (by decide))) fun σ H Q h => ent_isN (ent_testE h)
  | notN =>
    have hb : vConst z = some .none := by simpa using hb
    obtain ⟨k, p', rfl⟩ := vConst_s hb
    refine seE (PE.imp (pe_cmp (pc_notN (ia _ ha).o) (nobehind _ (by decide) (by decide))) fun _ _ _ h => ent_notN h) rfl (fun _ z => by cases z) ?_
    exact PT.imp (pt_cmp (pc_notN (ia _ ha).o) (nobehind _ (by decide) (by decide))) fun σ H Q h => ent_notN (ent_testE h)
  | inn =>
    simp only [Bool.and_eq_true] at hb
    exact gen ⟨nofun, nofun⟩ hb.1 fun _ => hb.2
  | notin =>
    simp only [Bool.and_eq_true] at hb
    exact gen ⟨nofun, nofun⟩ hb.1 fun _ => hb.2
  | _ => exact gen ⟨nofun, nofun⟩ hb fun z => by rcases z with z | z <;> cases z
theorem plainC_f {o : Cop} (h : plainC o = true) : (o ≠ .isN ∧ o ≠ .notN) ∧ copO o ≠ .In ∧ copO o ≠ .NotIn := by
  cases o <;> first | (cases h; done) | exact ⟨⟨nofun, nofun⟩, nofun, nofun⟩
theorem se_cmp2 {o o' : Cop} {a b c : Exp} {x : Expr} (G : GX M Ph X sc fs) (h : mE M sc fs (.cmp2 o o' a b c) x = true) (ia : ∀ y, mE M sc fs a y = true → SE Ph W X a y) (ib : ∀ y, mE M sc fs b y = true → SE Ph W X b y) (ic : ∀ y, mE M sc fs c y = true → SE Ph W X c y) : SE Ph W X (.cmp2 o o' a b c) x := by
  unfold mE at h
  obtain ⟨⟨y, op, z, op', w⟩, h1, h2⟩ := see_t h
  obtain ⟨p, rfl⟩ := vCmp2_s h1
  simp only [Bool.and_eq_true, decide_eq_true_eq] at h2
  obtain ⟨⟨⟨⟨⟨⟨rfl, rfl⟩, q1⟩, q2⟩, ha⟩, hb⟩, hc⟩ := h2
  obtain ⟨q1, _, _⟩ := plainC_f q1
  obtain ⟨q2, n1, n2⟩ := plainC_f q2
  have hm : lastMarks [copO o, copO o'] [z, w] = false := by
    have : behindInMarks (copO o') w = false := nomark _ n1 n2
    simpa [lastMarks] using this
  refine seE (PE.imp (pe_chain (opcAll G.room q1) (opcAll G.room q2) (ia _ ha).e (ib _ hb).e (ic _ hc).e hm) fun _ _ _ h => ent_cmp2 h) rfl (fun _ z => by cases z) ?_
  exact PT.imp (pt_chain (opcAll G.room q1) (opcAll G.room q2) (ia _ ha).e (ib _ hb).e (ic _ hc).e hm) fun σ H Q h => ent_cmp2 (ent_testE h)
/-- each with its text -/
inductive SEL (Ph : CallF) (W : WZ) (X : Cx) : Exs → List Expr → Prop
  | nil : SEL Ph W X .nil []
  | cons {e : Exp} {es : Exs} {x : Expr} {xs : List Expr} : SE Ph W X e x → notStar x = true → SEL Ph W X es xs → SEL Ph W X (.cons e es) (x :: xs)
theorem SEL.v : ∀ {es : Exs} {xs : List Expr}, SEL Ph W X es xs → PA X xs (tEs Ph X.K W es)
  | _, _, .nil => PA.imp pa_nil fun _ _ _ h => ent_es_nil h
  | _, _, .cons s n r => PA.imp (pa_cons s.e (SEL.v r) (star_f n)) fun _ _ _ h => ent_es_cons h
theorem SEL.o : ∀ {es : Exs} {xs : List Expr}, SEL Ph W X es xs → PA X xs (tOs Ph X.K W es)
  | _, _, .nil => PA.imp pa_nil fun _ _ _ h => ent_os_nil h
  | _, _, .cons s n r => PA.imp (pa_cons s.o (SEL.o r) (star_f n)) fun _ _ _ h => ent_os_cons h
theorem SEL.stars {env : PySem.Env} {pos : Pos} : ∀ {es : Exs} {xs : List Expr}, SEL Ph W X es xs → (backTo pos (starEach xs env)).any (·.1) = false
  | _, _, .nil => rfl
  | _, _, .cons s n r => by
    rw [star_f n]
    have := SEL.stars (env := env) (pos := pos) r
    simpa [backTo] using this
theorem SEL.length : ∀ {es : Exs} {xs : List Expr}, SEL Ph W X es xs → xs.length = exsLen es
  | _, _, .nil => rfl
  | _, _, .cons _ _ r => by simp [exsLen, SEL.length r]
theorem SEL.andE : ∀ {es : Exs} {xs : List Expr} {p : Pos}, SEL Ph W X es xs → xs ≠ [] → PE X (.BoolOp .And xs p) (tAndE Ph X.K W es) ∧ PW X (.BoolOp .And xs p) (tAndB Ph X.K W es)
  | _, _, _, .nil, h => absurd rfl h
  | _, _, _, .cons s _ .nil, _ => ⟨PE.imp (pe_one s.e) fun _ _ _ h => ent_and1 h, ⟨fun wh pins s' σ H Q I h => (pw_and1 s.t).run wh pins s' σ H Q I (ent_and1T h)⟩⟩
  | _, _, p, .cons s _ (.cons s' n' r), _ => by
    obtain ⟨h1, h2⟩ := SEL.andE (p := p) (.cons s' n' r) (by simp)
    exact ⟨PE.imp (pe_and s.e h1) fun _ _ _ h => ent_and2 h, ⟨fun wh pins s' σ H Q I h => (pw_and s.t h2).run wh pins s' σ H Q I (ent_and2T h)⟩⟩
theorem SEL.orE : ∀ {es : Exs} {xs : List Expr} {p : Pos}, SEL Ph W X es xs → xs ≠ [] → PE X (.BoolOp .Or xs p) (tOrE Ph X.K W es) ∧ PW X (.BoolOp .Or xs p) (tOrB Ph X.K W es)
  | _, _, _, .nil, h => absurd rfl h
  | _, _, _, .cons s _ .nil, _ => ⟨PE.imp (pe_one s.e) fun _ _ _ h => ent_or1 h, ⟨fun wh pins s' σ H Q I h => (pw_or1 s.t).run wh pins s' σ H Q I (ent_or1T h)⟩⟩
  | _, _, p, .cons s _ (.cons s' n' r), _ => by
    obtain ⟨h1, h2⟩ := SEL.orE (p := p) (.cons s' n' r) (by simp)
    exact ⟨PE.imp (pe_or s.e h1) fun _ _ _ h => ent_or2 h, ⟨fun wh pins s' σ H Q I h => (pw_or s.t h2).run wh pins s' σ H Q I (ent_or2T h)⟩⟩
theorem isEmpty_f {A : Type} {xs : List A} (h : (!xs.isEmpty) = true) : xs ≠ [] := by
  rintro rfl
  cases h
theorem se_conj {es : Exs} {x : Expr} (h : mE M sc fs (.conj es) x = true) (ia : ∀ y, mEs M sc fs es y = true → SEL Ph W X es y) : SE Ph W X (.conj es) x := by
  unfold mE at h
  obtain ⟨⟨op, y⟩, h1, h2⟩ := see_t h
  obtain ⟨p, rfl⟩ := vBool_s h1
  simp only [Bool.and_eq_true, decide_eq_true_eq] at h2
  obtain ⟨⟨rfl, ha⟩, hn⟩ := h2
  obtain ⟨q1, q2⟩ := (ia _ ha).andE (p := p) (isEmpty_f hn)
  exact seE (PE.imp q1 fun _ _ _ h => ent_conj h) rfl (fun _ z => by cases z) (PT.imp q2.pt fun _ _ _ h => ent_conjT h)
theorem se_disj {es : Exs} {x : Expr} (h : mE M sc fs (.disj es) x = true) (ia : ∀ y, mEs M sc fs es y = true → SEL Ph W X es y) : SE Ph W X (.disj es) x := by
  unfold mE at h
  obtain ⟨⟨op, y⟩, h1, h2⟩ := see_t h
  obtain ⟨p, rfl⟩ := vBool_s h1
  simp only [Bool.and_eq_true, decide_eq_true_eq] at h2
  obtain ⟨⟨rfl, ha⟩, hn⟩ := h2
  obtain ⟨q1, q2⟩ := (ia _ ha).orE (p := p) (isEmpty_f hn)
  exact seE (PE.imp q1 fun _ _ _ h => ent_disj h) rfl (fun _ z => by cases z) (PT.imp q2.pt fun _ _ _ h => ent_disjT h)
theorem se_tup {es : Exs} {x : Expr} (h : mE M sc fs (.tup es) x = true) (ia : ∀ y, mEs M sc fs es y = true → SEL Ph W X es y) : SE Ph W X (.tup es) x := by
  unfold mE at h
  obtain ⟨y, h1, h2⟩ := see_t h
  obtain ⟨k, p, rfl⟩ := vTup_s h1
  simp only [Bool.and_eq_true, decide_eq_true_eq] at h2
  exact seEp (PE.imp (pe_tupP (ia _ h2.1).v) fun _ _ _ h => ent_tup h2.2 h) rfl (fun _ z => by cases z) fun _ => by rfl
theorem se_lst {es : Exs} {x : Expr} (h : mE M sc fs (.lst es) x = true) (ia : ∀ y, mEs M sc fs es y = true → SEL Ph W X es y) : SE Ph W X (.lst es) x := by
  unfold mE at h
  obtain ⟨y, h1, h2⟩ := see_t h
  obtain ⟨p, rfl⟩ := vLst_s h1
  simp only [Bool.and_eq_true, decide_eq_true_eq] at h2
  exact seGp (PE.imp (pe_lst (ia _ h2.1).v) fun _ _ _ h => ent_lst h2.2 h) (fun _ z => by cases z) fun _ => by rfl
theorem PO.imp {e : Option Expr} {t t' : TO} (h : PO X e t) (m : ∀ σ H Q, t' σ H Q → t σ H Q) : PO X e t' := ⟨fun pins s σ H Q I q => h.run pins s σ H Q I (m σ H Q q)⟩
theorem se_slice {a : Exp} {lo hi : Exo} {x : Expr} (h : mE M sc fs (.slice a lo hi) x = true) (ia : ∀ y, mE M sc fs a y = true → SE Ph W X a y) (il : ∀ y, mO M sc fs lo y = true → PO X y (tOpt Ph X.K W lo)) (ih : ∀ y, mO M sc fs hi y = true → PO X y (tOpt Ph X.K W hi)) : SE Ph W X (.slice a lo hi) x := by
  unfold mE at h
  obtain ⟨⟨y, l, u⟩, h1, h2⟩ := see_t h
  obtain ⟨p, p', rfl⟩ := vSl_s h1
  simp only [Bool.and_eq_true] at h2
  obtain ⟨⟨ha, hl⟩, hh⟩ := h2
  exact seGp (PE.imp (pe_slice slr (ia _ ha).o (il _ hl) (ih _ hh)) fun _ _ _ h => ent_slice h) (fun _ z => by cases z) fun _ => by rfl
theorem bltB_f (G : GX M Ph X sc fs) {x y : Str} (h : bltB M sc x y = true) : x = y ∧ Gl X x ∧ X.mg x = none ∧ x ≠ "__name__" ∧ (x == ("__debug__" : Str)) = false := by
  unfold bltB at h
  simp only [Bool.and_eq_true, decide_eq_true_eq] at h
  obtain ⟨⟨⟨rfl, hg⟩, hb⟩, hs⟩ := h
  obtain ⟨s1, s2, s3⟩ := sayD_f hs
  exact ⟨rfl, G.gl hg, G.blt _ (by simpa using hb), s3, s1⟩
theorem se_lenset {es : Exs} {x : Expr} (G : GX M Ph X sc fs) (h : mE M sc fs (.blt .lenset es) x = true) (ia : ∀ y, mEs M sc fs es y = true → SEL Ph W X es y) : SE Ph W X (.blt .lenset es) x := by
  unfold mE at h
  obtain ⟨⟨n, ys⟩, h1, h2⟩ := see_t h
  obtain ⟨p, p', rfl⟩ := vCall_s h1
  obtain ⟨y, h3, i2⟩ := see_t h2
  obtain ⟨⟨n', zs⟩, h4, i3⟩ := see_t i2
  obtain ⟨q, q', rfl⟩ := vCall_s h4
  simp only [Bool.and_eq_true, decide_eq_true_eq] at i3
  obtain ⟨⟨⟨⟨ht, hb⟩, hb'⟩, hl⟩, ha⟩ := i3
  have ey : ys = [.Call (.Name n' q) zs [] q'] := by
    cases ys with
    | nil => cases h3
    | cons a l => cases l with
      | nil =>
        cases h3
        rfl
      | cons _ _ => cases ht
  subst ey
  obtain ⟨rfl, hg, hm, _, _⟩ := bltB_f G hb
  obtain ⟨rfl, hg', hm', _, _⟩ := bltB_f G hb'
  have sl := ia _ ha
  cases sl with
  | nil => cases hl
  | cons s ns r => cases r with
    | nil => exact seGp (PE.imp (pe_lenset G.room G.calm hg hm hg' hm' (SEL.cons s ns .nil).o (star_f ns)) fun _ _ _ h => ent_blt h) (fun _ z => by cases z) fun _ => by rfl
    | cons _ _ _ => simp [exsLen] at hl
theorem se_sortset {es : Exs} {x : Expr} (G : GX M Ph X sc fs) (h : mE M sc fs (.blt .sortset es) x = true) (ia : ∀ y, mEs M sc fs es y = true → SEL Ph W X es y) : SE Ph W X (.blt .sortset es) x := by
  unfold mE at h
  obtain ⟨⟨n, ys⟩, h1, h2⟩ := see_t h
  obtain ⟨p, p', rfl⟩ := vCall_s h1
  obtain ⟨y, h3, i2⟩ := see_t h2
  obtain ⟨⟨n', zs⟩, h4, i3⟩ := see_t i2
  obtain ⟨q, q', rfl⟩ := vCall_s h4
  simp only [Bool.and_eq_true, decide_eq_true_eq] at i3
  obtain ⟨⟨⟨⟨ht, hb⟩, hb'⟩, hl⟩, ha⟩ := i3
  have ey : ys = [.Call (.Name n' q) zs [] q'] := by
    cases ys with
    | nil => cases h3
    | cons a l => cases l with
      | nil =>
        cases h3
        rfl
      | cons _ _ => cases ht
  subst ey
  obtain ⟨rfl, hg, hm, _, _⟩ := bltB_f G hb
  obtain ⟨rfl, hg', hm', _, _⟩ := bltB_f G hb'
  have sl := ia _ ha
  cases sl with
  | nil => cases hl
  | cons s ns r => cases r with
    | nil => exact seGp (PE.imp (pe_sortset G.calm hg hm hg' hm' (SEL.cons s ns .nil).o (star_f ns)) fun _ _ _ h => ent_blt h) (fun _ z => by cases z) fun _ => by rfl
    | cons _ _ _ => simp [exsLen] at hl
theorem se_rangel {es : Exs} {x : Expr} (G : GX M Ph X sc fs) (h : mE M sc fs (.blt .rangel es) x = true) (ia : ∀ y, mEs M sc fs es y = true → SEL Ph W X es y) : SE Ph W X (.blt .rangel es) x := by
  unfold mE at h
  obtain ⟨⟨n, ys⟩, h1, h2⟩ := see_t h
  obtain ⟨p, p', rfl⟩ := vCall_s h1
  obtain ⟨y, h3, i2⟩ := see_t h2
  obtain ⟨⟨n', zs⟩, h4, i3⟩ := see_t i2
  obtain ⟨q, q', rfl⟩ := vCall_s h4
  simp only [Bool.and_eq_true, decide_eq_true_eq] at i3
  obtain ⟨⟨⟨⟨ht, hb⟩, hb'⟩, hl⟩, ha⟩ := i3
  have ey : ys = [.Call (.Name n' q) zs [] q'] := by
    cases ys with
    | nil => cases h3
    | cons a l => cases l with
      | nil =>
        cases h3
        rfl
      | cons _ _ => cases ht
  subst ey
  obtain ⟨rfl, hg, hm, _, _⟩ := bltB_f G hb
  obtain ⟨rfl, hg', hm', _, _⟩ := bltB_f G hb'
  have sl := ia _ ha
  cases sl with
  | nil => cases hl
  | cons s ns r => cases r with
    | nil => exact seGp (PE.imp (pe_rangel G.calm hg hm hg' hm' (SEL.cons s ns .nil).o (star_f ns)) fun _ _ _ h => ent_blt h) (fun _ z => by cases z) fun _ => by rfl
    | cons _ _ _ => simp [exsLen] at hl
theorem se_ranget {es : Exs} {x : Expr} (G : GX M Ph X sc fs) (h : mE M sc fs (.blt .ranget es) x = true) (ia : ∀ y, mEs M sc fs es y = true → SEL Ph W X es y) : SE Ph W X (.blt .ranget es) x := by
  unfold mE at h
  obtain ⟨⟨n, ys⟩, h1, h2⟩ := see_t h
  obtain ⟨p, p', rfl⟩ := vCall_s h1
  obtain ⟨y, h3, i2⟩ := see_t h2
  obtain ⟨⟨n', zs⟩, h4, i3⟩ := see_t i2
  obtain ⟨q, q', rfl⟩ := vCall_s h4
  simp only [Bool.and_eq_true, decide_eq_true_eq] at i3
  obtain ⟨⟨⟨⟨ht, hb⟩, hb'⟩, hl⟩, ha⟩ := i3
  have ey : ys = [.Call (.Name n' q) zs [] q'] := by
    cases ys with
    | nil => cases h3
    | cons a l => cases l with
      | nil =>
        cases h3
        rfl
      | cons _ _ => cases ht
  subst ey
  obtain ⟨rfl, hg, hm, _, _⟩ := bltB_f G hb
  obtain ⟨rfl, hg', hm', _, _⟩ := bltB_f G hb'
  have sl := ia _ ha
  cases sl with
  | nil => cases hl
  | cons s ns r => cases r with
    | nil => exact seGp (PE.imp (pe_ranget G.calm hg hm hg' hm' (SEL.cons s ns .nil).o (star_f ns)) fun _ _ _ h => ent_blt h) (fun _ z => by cases z) fun _ => by rfl
    | cons _ _ _ => simp [exsLen] at hl
theorem ent_sortrank {K : PySem.W.Frag} {f : Addr} {es : Exs} {σ : L2.St} {H : Hp} {Q : VK} (h : tG Ph K W (.blt .sortrank es) σ H Q) : tCKw (rRank K f) (tOs Ph K W es) (tCons (tC (.ref f)) (tCons (tC (.bl true)) tNil)) σ H Q := by
  have h' : tCB (rBlt K .sortrank) (tOs Ph K W es) σ H Q := ent_blt h
  obtain ⟨P0, env, r, h1⟩ := h'
  exact ⟨P0, env, r, h1.imp (fun p q v H' a b => ⟨rfl, q v H' a b⟩) fun _ _ x => x⟩
theorem se_sortrank {es : Exs} {x : Expr} (G : GX M Ph X sc fs) (h : mE M sc fs (.blt .sortrank es) x = true) (ia : ∀ y, mEs M sc fs es y = true → SEL Ph W X es y) : SE Ph W X (.blt .sortrank es) x := by
  unfold mE at h
  obtain ⟨⟨n, ys, kws⟩, h1, h2⟩ := see_t h
  obtain ⟨p, p', rfl⟩ := vCallK_s h1
  obtain ⟨⟨f, fp, c⟩, h3, i3⟩ := see_t h2
  obtain ⟨k1, k, k2, k3, rfl⟩ := vRankKw_s h3
  simp only [Bool.and_eq_true, decide_eq_true_eq] at i3
  obtain ⟨⟨⟨⟨⟨⟨hb, ha⟩, hn⟩, hf⟩, hg⟩, hs⟩, rfl⟩ := i3
  obtain ⟨rfl, bg, bm, bn, bd⟩ := bltB_f G hb
  obtain ⟨s1, s2, s3⟩ := sayD_f hs
  obtain ⟨fa, fm, fr, hd0, dp0⟩ := G.rank f (by simpa using hf)
  have sl := ia _ ha
  cases sl with
  | nil => cases hn
  | cons s n' r =>
    have sl : SEL Ph W X _ _ := .cons s n' r
    have pf : PE X (.Name f fp) (tC (.ref fa)) := ⟨fun pins s σ H Q I h => ld_glob I (G.gl hg) fm ⟨.ref fa, H, I, rfl, h⟩ s1⟩
    refine seGp (PE.imp (pe_callBK (cb_sortrank G.room hd0 dp0 fr) bg bm (by rfl) sl.o (pk_cons pf (pk_cons pe_bl pk_nil)) bn bd ?_ ?_ (by rfl) (by rfl) (by rfl)) fun _ _ _ h => ent_sortrank h) (fun _ z => by cases z) fun _ => by rfl
    · rw [star_f n']
      rfl
    · rw [star_f n']
      have := SEL.stars (env := X.env) (pos := p') r
      simpa [backTo] using this
theorem mE_blt {b : Blt} {es : Exs} {x : Expr} (hb : b ≠ .lenset) (hb2 : b ≠ .sortset) (hb3 : b ≠ .rangel) (hb4 : b ≠ .ranget) (hb5 : b ≠ .sortrank) : mE M sc fs (.blt b es) x = see (vCall x) fun p => (match b with
      | .gcd => M.gcd && decide (p.1 = "gcd") && glB sc p.1
      | _ => see (bltName b) fun q => bltB M sc p.1 q.1) && mEs M sc fs es p.2 && !p.2.isEmpty := by
  conv => lhs; unfold mE
  cases b <;> first | rfl | exact absurd rfl hb | exact absurd rfl hb2 | exact absurd rfl hb3 | exact absurd rfl hb4 | exact absurd rfl hb5
theorem se_blt {b : Blt} {es : Exs} {x : Expr} (nl : b ≠ .lenset) (nl2 : b ≠ .sortset) (nl3 : b ≠ .rangel) (nl4 : b ≠ .ranget) (nl5 : b ≠ .sortrank) (G : GX M Ph X sc fs) (h : mE M sc fs (.blt b es) x = true) (ia : ∀ y, mEs M sc fs es y = true → SEL Ph W X es y) : SE Ph W X (.blt b es) x := by
  rw [mE_blt nl nl2 nl3 nl4 nl5] at h
  obtain ⟨⟨n, ys⟩, h1, h2⟩ := see_t h
  obtain ⟨p, p', rfl⟩ := vCall_s h1
  simp only [Bool.and_eq_true] at h2
  obtain ⟨⟨hb, ha⟩, hn⟩ := h2
  have sl := ia _ ha
  cases sl with
  | nil => cases hn
  | cons s n' r =>
    have sl : SEL Ph W X _ _ := .cons s n' r
    have fin : ∀ {c : Value}, CallR X c (rBlt X.K b) → bootBuiltins n = some c → ((∃ i, c = .builtin i) ∨ ∃ i, c = .type i) → Gl X n → X.mg n = none → n ≠ "__name__" → (n == ("__debug__" : Str)) = false → SE Ph W X (.blt b _) (.Call (.Name n p) _ [] p') := fun {c} hc hv hk hg hm hn hd => by
      refine seGp ?_ (fun _ z => by cases z) fun _ => by rfl
      rcases hk with ⟨i, rfl⟩ | ⟨i, rfl⟩
      · exact PE.imp (pe_callB hc hg hm hv sl.o hn hd (star_f n') r.stars) fun _ _ _ h => ent_blt h
      · exact PE.imp (pe_callTy hc hg hm hv sl.o hn hd (star_f n') r.stars) fun _ _ _ h => ent_blt h
    have gen : (see (bltName b) fun q => bltB M sc n q.1) = true → SE Ph W X (.blt b _) (.Call (.Name n p) _ [] p') := fun hb => by
      obtain ⟨q, q1, q2⟩ := see_t hb
      obtain ⟨e, hg, hm, hn, hd⟩ := bltB_f G q2
      obtain ⟨c1, c2, c3⟩ := bltAll G.room G.calm q1
      exact fin c1 (by rw [e]; exact c2) c3 hg hm hn hd
    cases b with
    | gcd =>
      have hb : (M.gcd && decide (n = "gcd") && glB sc n) = true := hb
      simp only [Bool.and_eq_true, decide_eq_true_eq] at hb
      obtain ⟨⟨g1, rfl⟩, g3⟩ := hb
      exact seGp (PE.imp (pe_callBfun cb_gcd (G.gl g3) (G.gcd g1) sl.o (by decide) (star_f n') r.stars) fun _ _ _ h => ent_blt h) (fun _ z => by cases z) fun _ => by rfl
    | _ => exact gen hb
theorem se_call {f : Str} {br : Bool} {es : Exs} {x : Expr} (hW : ∀ z P e σ H, ¬ W z P e σ H) (G : GX M Ph X sc fs) (h : mE M sc fs (.call f br es) x = true) (ia : ∀ y, mEs M sc fs es y = true → SEL Ph W X es y) : SE Ph W X (.call f br es) x := by
  unfold mE at h
  obtain ⟨⟨n, ys⟩, h1, h2⟩ := see_t h
  obtain ⟨p, p', rfl⟩ := vCall_s h1
  simp only [Bool.and_eq_true] at h2
  obtain ⟨⟨⟨⟨hf, ha⟩, hn⟩, hg⟩, hs⟩ := h2
  obtain ⟨fn, f1, f2⟩ := see_t hf
  simp only [Bool.and_eq_true, decide_eq_true_eq, Bool.not_eq_true'] at f2
  obtain ⟨⟨⟨rfl, rfl⟩, hfr⟩, hl⟩ := f2
  obtain ⟨k, fa, fd, ps, F, hr, hm, hk, hb, _⟩ := G.fns n fn f1
  have sl := ia _ ha
  cases sl with
  | nil => cases hn
  | cons s n' r =>
    have sl : SEL Ph W X _ _ := .cons s n' r
    have base : PE X (.Call (.Name n p) _ [] p') (tCall (spF Ph X.K fn) [] (fun _ _ _ => False) _) := pe_callG (E := fun _ _ _ => False) F hr G.room.gd (G.gl hg) hm hk hb sl.o (sayD_f hs).1 (star_f n') r.stars
    refine seEp (PE.imp base fun σ H Q h => ?_) rfl (fun _ z => by cases z) fun _ => by rfl
    cases hbr : fn.br with
    | false =>
      rw [hbr] at h
      exact ent_call hW hbr hfr hl h
    | true =>
      rw [hbr] at h
      exact ent_callB hW hbr hfr hl h
theorem se_callJ {f g : Str} {es : Exs} {x : Expr} (hW : ∀ z P e σ H, ¬ W z P e σ H) (G : GX M Ph X sc fs) (h : mE M sc fs (.callJ f g es) x = true) (ia : ∀ y, mEs M sc fs es y = true → SEL Ph W X es y) : SE Ph W X (.callJ f g es) x := by
  unfold mE at h
  obtain ⟨⟨n, ys⟩, h1, h2⟩ := see_t h
  obtain ⟨p, p', rfl⟩ := vCall_s h1
  obtain ⟨y, h3, h4⟩ := see_t h2
  obtain ⟨⟨m, zs⟩, h5, h6⟩ := see_t h4
  obtain ⟨q, q', rfl⟩ := vCall_s h5
  simp only [Bool.and_eq_true] at h6
  obtain ⟨⟨⟨⟨⟨⟨⟨ht, hf⟩, ha⟩, hn⟩, hg⟩, hs⟩, hg2⟩, hs2⟩ := h6
  obtain ⟨fn, f1, hf⟩ := see_t hf
  obtain ⟨gn, f2, hf⟩ := see_t hf
  simp only [Bool.and_eq_true, decide_eq_true_eq, Bool.not_eq_true'] at hf
  obtain ⟨⟨⟨⟨⟨⟨⟨rfl, rfl⟩, b1⟩, b2⟩, b3⟩, b4⟩, b5⟩, b6⟩ := hf
  obtain ⟨k, fa, fd, ps, F, hr, hm, hk, hb, _⟩ := G.fns n fn f1
  obtain ⟨k2, fa2, fd2, ps2, F2, hr2, hm2, hk2, hb2, _⟩ := G.fns m gn f2
  have sl := ia _ ha
  cases ys with
  | nil => cases h3
  | cons y0 ys =>
    cases h3
    cases ys with
    | cons _ _ => cases ht
    | nil =>
      cases sl with
      | nil => cases hn
      | cons s n' r =>
        have sl : SEL Ph W X _ _ := .cons s n' r
        have inner : PE X (.Call (.Name m q) _ [] q') (tCall (spF Ph X.K gn) [] (fun _ _ _ => False) _) := pe_callG (E := fun _ _ _ => False) F2 hr2 G.room.gd (G.gl hg2) hm2 hk2 hb2 sl.v (sayD_f hs2).1 (star_f n') r.stars
        have outer : PE X (.Call (.Name n p) [_] [] p') (tCall (spF Ph X.K fn) [] (fun _ _ _ => False) _) := pe_callG (E := fun _ _ _ => False) F hr G.room.gd (G.gl hg) hm hk hb (pa_cons inner pa_nil (by rfl)) (sayD_f hs).1 (by rfl) (by rfl)
        exact seEp (PE.imp outer fun σ H Q h => ent_callJ hW b4 b5 b6 b1 b2 b3 h) rfl (fun _ z => by cases z) fun _ => by rfl
/-! keywords -/
theorem kws_in {pos : Pos} {env : PySem.Env} : ∀ {kws : List Keyword} {ks : List Str}, kws.map (·.arg) = ks.map some → (backToKw pos (keywordEach kws env)).all (·.1.isSome) = true ∧ (backToKw pos (keywordEach kws env)).filterMap (·.1) = ks ∧ (backToKw pos (keywordEach kws env)).any (·.1.isNone) = false
  | [], ks, h => by
    have e : ks = [] := by
      cases ks with
      | nil => rfl
      | cons _ _ => cases h
    subst e
    exact ⟨rfl, rfl, rfl⟩
  | ⟨a, v, p⟩ :: kws, ks, h => by
    cases ks with
    | nil => cases h
    | cons k ks =>
      rw [List.map_cons, List.map_cons] at h
      injection h with h1 h2
      have h1 : a = some k := h1
      subst h1
      obtain ⟨a1, a2, a3⟩ := kws_in (pos := pos) (env := env) h2
      refine ⟨?_, ?_, ?_⟩
      · show (true && (backToKw pos (keywordEach kws env)).all (·.1.isSome)) = true
        rw [a1]
        rfl
      · show k :: (backToKw pos (keywordEach kws env)).filterMap (·.1) = k :: ks
        rw [a2]
      · show (false || (backToKw pos (keywordEach kws env)).any (·.1.isNone)) = false
        rw [a3]
        rfl
theorem PK.imp {kws : List Keyword} {t t' : TA} (h : PK X kws t) (m : ∀ σ H Q, t' σ H Q → t σ H Q) : PK X kws t' := ⟨fun pos pins s σ H Q I q => h.run pos pins s σ H Q I (m σ H Q q)⟩
theorem SEL.kw : ∀ {es : Exs} {kws : List Keyword}, SEL Ph W X es (kws.map (·.value)) → PK X kws (tOs Ph X.K W es)
  | es, [], s => by
    cases s
    exact PK.imp pk_nil fun _ _ _ h => ent_os_nil h
  | es, ⟨a, v, p⟩ :: kws, s => by
    rw [List.map_cons] at s
    cases s with
    | cons s n r => exact PK.imp (pk_cons s.o (SEL.kw r)) fun _ _ _ h => ent_os_cons h
theorem pe_callX {k n : Nat} {f : Addr} {fd : FuncData} {ps ks : List Str} {perm : List Nat} {sp : Sp} {E : XK} {x : Str} {p pos : Pos} {es : Exs} {ys : List Expr} {kws : List Keyword} {tk : TA} (F : FnG X.prog X.w X.K X.mg X.base k f fd ps sp) (hr : Room k X.A) (hgd : X.A.guards = some []) (hg : Gl X x) (hm : X.mg x = some (.ref f))
    (hk : PySem.W.keepIn X.K (.ref f) = true) (hb : KwB X.K fd ps n ks perm) (sl : SEL Ph W X es ys) (hkw : PK X kws tk) (ha : kws.map (·.arg) = ks.map some) (hdb : (x == ("__debug__" : Str)) = false) : PE X (.Call (.Name x p) ys kws pos) (tCallX sp n ks.length perm E (tOs Ph X.K W es) tk) := by
  have call : ∀ {pins : List (Addr × Obj)} {σ : L2.St} {H : Hp} {s : Shared} {Q : VK} {us ws : List Value} {vs zs : List V}, Inv X pins σ H s → Vals vs us → Vals zs ws → vs.length = n → zs.length = ks.length → sp (vs ++ permV perm zs) H Q E → wpAny (model X.prog X.w) X.A (call (.ref f) us (ks.zip ws)) (EP X pins σ Q) X.xe s := fun {pins σ H s Q us ws vs zs} I r rz l1 l2 h => by
    refine wpAny_call (codeAny_mono (F.run X.A X.stack s H ⟨us, ks.zip ws⟩ (us ++ permV perm ws) (vs ++ permV perm zs) Q E hr hgd I.env0 (hb s us ws I.kIn (r.length.symm.trans l1) (rz.length.symm.trans l2)) (r.append (vals_perm rz perm)) h) fun r s' hq => ?_)
    cases r with
    | error e => exact hq.elim
    | ok fl => cases fl with
      | ret u => exact I.after hq
      | _ => exact hq.elim
  refine ⟨fun pins s σ H Q I h => wpAny_Call_Name_kw (ld_glob I hg hm ?_ hdb)⟩
  obtain ⟨a1, a2, a3⟩ := kws_in (pos := pos) (env := X.env) ha
  cases sl with
  | nil =>
    have h0 : tOs Ph X.K W .nil σ H _ := h
    refine PySem.W.callWith_KW0 (h₀ := X.base) I.ok.mod.kin hk a1 (thn (hkw.run pos pins s σ H _ I (ent_os_nil h0)) fun ws s2 ⟨zs, H2, I2, rz, l1, l2, q2⟩ => ⟨I2.kIn, ?_⟩) (by rw [a3]; rfl)
    rw [a2]
    exact call (vs := []) I2 .nil rz l1 l2 q2
  | cons s' n' r' =>
    have sl : SEL Ph W X _ _ := .cons s' n' r'
    have st : ∀ {xs : List Expr} {es : Exs}, SEL Ph W X es xs → (backTo pos (starEach xs X.env)).any (·.1) = false := fun q => q.stars
    refine PySem.W.callWith_KW (h₀ := X.base) I.ok.mod.kin hk a1 (thn (sl.o.run pos pins s σ H _ I h) fun us s1 ⟨vs, H1, I1, r, q⟩ => ?_) (by rw [st sl, a3]; rfl) (star_f n')
    refine thn (hkw.run pos pins s1 σ H1 _ I1 q) fun ws s2 ⟨zs, H2, I2, rz, l1, l2, q2⟩ => ⟨I2.kIn, ?_⟩
    rw [a2]
    exact call I2 r rz l1 l2 q2
theorem se_callK {f : Str} {br : Bool} {es kes : Exs} {ks : List Str} {perm : List Nat} {x : Expr} (hW : ∀ z P e σ H, ¬ W z P e σ H) (G : GX M Ph X sc fs) (h : mE M sc fs (.callK f br es kes ks perm) x = true) (ia : ∀ y, mEs M sc fs es y = true → SEL Ph W X es y) (ik : ∀ y, mEs M sc fs kes y = true → SEL Ph W X kes y) : SE Ph W X (.callK f br es kes ks perm) x := by
  unfold mE at h
  obtain ⟨⟨n, ys, kws⟩, h1, h2⟩ := see_t h
  obtain ⟨p, p', rfl⟩ := vCallK_s h1
  simp only [Bool.and_eq_true, decide_eq_true_eq, List.any_eq_true, List.all_eq_true] at h2
  obtain ⟨⟨⟨⟨⟨⟨⟨hf, ha⟩, hk'⟩, har⟩, q, hq, he⟩, hpi⟩, hg⟩, hs⟩ := h2
  obtain ⟨fn, f1, f2⟩ := see_t hf
  simp only [Bool.and_eq_true, decide_eq_true_eq, Bool.not_eq_true'] at f2
  obtain ⟨⟨⟨rfl, hbr⟩, hfr⟩, hl⟩ := f2
  obtain ⟨k, fa, fd, ps, F, hr, hm, hk, hb, hkw⟩ := G.fns n fn f1
  have bind := hkw q hq (by rw [he])
  rw [he] at bind
  have sl := ia _ ha
  have kl := ik _ hk'
  have lk : exsLen kes = ks.length := by
    have e1 := kl.length
    rw [List.length_map] at e1
    have e2 := congrArg List.length har
    rw [List.length_map, List.length_map] at e2
    omega
  exact seEp (PE.imp (pe_callX (E := fun _ _ _ => False) F hr G.room.gd (G.gl hg) hm hk bind sl kl.kw har (sayD_f hs).1) fun _ _ _ h => ent_callK hW hbr hfr rfl lk hl hpi h) rfl (fun _ z => by cases z) fun _ => by rfl
theorem se_isi {a : Exp} {t : Ty} {x : Expr} (G : GX M Ph X sc fs) (h : mE M sc fs (.isi a t) x = true) (ia : ∀ y, mE M sc fs a y = true → SE Ph W X a y) : SE Ph W X (.isi a t) x := by
  unfold mE at h
  obtain ⟨⟨n, ys⟩, h1, h2⟩ := see_t h
  obtain ⟨p, p', rfl⟩ := vCall_s h1
  obtain ⟨y, h3, h2⟩ := see_t h2
  obtain ⟨z, h4, h2⟩ := see_t h2
  obtain ⟨w, h5, h2⟩ := see_t h2
  simp only [Bool.and_eq_true] at h2
  obtain ⟨⟨⟨⟨he, hb⟩, hb2⟩, ha⟩, hs⟩ := h2
  obtain ⟨p2, rfl⟩ := vName_s h5
  have e : ys = [y, .Name w p2] := by
    cases ys with
    | nil => cases h3
    | cons y0 ys =>
      cases ys with
      | nil => cases h4
      | cons y1 ys =>
        cases ys with
        | cons _ _ => cases he
        | nil =>
          cases h3
          cases h4
          rfl
  subst e
  obtain ⟨rfl, hg, hm, hn, hd⟩ := bltB_f G hb
  obtain ⟨rfl, hg2, hm2, hn2, hd2⟩ := bltB_f G hb2
  have ty : PE X (.Name (tyStr t) p2) (tC (.ty (tyName t))) := by
    cases t
    · exact pe_bltn hg2 hm2 (by rfl) rfl hn2 hd2
    · exact pe_bltn hg2 hm2 (by rfl) rfl hn2 hd2
    · exact pe_bltn hg2 hm2 (by rfl) rfl hn2 hd2
    · exact pe_bltn hg2 hm2 (by rfl) rfl hn2 hd2
    · exact pe_bltn hg2 hm2 (by rfl) rfl hn2 hd2
    · exact pe_bltn hg2 hm2 (by rfl) rfl hn2 hd2
  refine seEp (PE.imp (pe_callB (cb_isi t) hg hm (by rfl) (pa_cons (ia _ ha).o (pa_cons ty pa_nil (by rfl)) (star_f hs)) hn hd (star_f hs) (by rfl)) fun σ H Q h => ?_) rfl (fun _ z => by cases z) fun _ => by rfl
  refine tO_mono (ent_isi h) fun v H1 q => ?_
  obtain ⟨P, d, q1, q2⟩ := q
  exact ⟨P, v, d, rfl, q1, q2⟩
mutual
theorem mG_s (G : GX M Ph X sc fs) : ∀ {t : Tg} {x : Expr}, mG M sc fs t x = true → PG X x (tTg X.K t)
  | .name i, x, h => by
    unfold mG at h
    obtain ⟨n, h1, h2⟩ := see_t h
    obtain ⟨p, rfl⟩ := vName_s h1
    simp only [Bool.and_eq_true, decide_eq_true_eq] at h2
    obtain ⟨l1, l2⟩ := G.loc h2.2
    exact PG.imp (pg_name (by rw [G.nm]; exact G.nd) (by rw [G.nm]; exact h2.1) l1 l2) fun _ _ _ _ h => ent_gname h
  | .tup ts, x, h => by
    unfold mG at h
    obtain ⟨n, h1, h2⟩ := see_t h
    obtain ⟨k, p, rfl⟩ := vTup_s h1
    obtain ⟨g, e1, e2⟩ := mGs_s G h2
    exact PG.imp (pg_tup G.calm g e1 e2) fun _ _ _ _ h => ent_gtup rfl h
theorem mGs_s (G : GX M Ph X sc fs) : ∀ {ts : List Tg} {xs : List Expr}, mGs M sc fs ts xs = true → PGs X xs (tTgs X.K ts) ∧ (assignEach xs X.env).length = ts.length ∧ (assignEach xs X.env).findIdx? (·.1) = none
  | [], xs, h => by
    unfold mGs at h
    have e : xs = [] := by simpa using h
    subst e
    exact ⟨PGs.imp pgs_nil fun _ _ _ _ h => ent_gnil h, rfl, rfl⟩
  | t :: ts, xs, h => by
    unfold mGs at h
    obtain ⟨x, h1, h2⟩ := see_t h
    cases xs with
    | nil => cases h1
    | cons y ys =>
      cases h1
      simp only [Bool.and_eq_true, List.tail_cons] at h2
      obtain ⟨⟨hn, hx⟩, hr⟩ := h2
      obtain ⟨g, e1, e2⟩ := mGs_s G hr
      have e : assignEach (x :: ys) X.env = (false, assign x X.env) :: assignEach ys X.env := by
        cases x <;> first | rfl | cases hn
      refine ⟨PGs.imp (pgs_cons (mG_s G hx) g (by rw [e]; rfl)) fun _ _ _ _ h => ent_gcons h, ?_, ?_⟩
      · rw [e, List.length_cons, List.length_cons, e1]
      · rw [e, List.findIdx?_cons, e2]
        rfl
end
theorem notSet_f {i : Expr} {env : PySem.Env} (h : notSet i = true) : ∀ x, foldedSetIterable i env x = pure x := by
  intro x
  cases i <;> first | rfl | cases h
theorem mG_isTg {tg : Tg} {x : Expr} (h : mG M sc fs tg x = true) (t : isTup x = true) : isTg tg = true := by
  cases tg with
  | tup _ => rfl
  | name i =>
    unfold mG at h
    obtain ⟨n, h1, h2⟩ := see_t h
    obtain ⟨p, rfl⟩ := vName_s h1
    cases t
theorem pairs_tg {tg : Tg} {it : Itx} {x : Expr} (h : mG M sc fs tg x = true) (t : match it with
      | .zip _ _ => isTup x = true
      | .enum _ => isTup x = true
      | _ => True) (p : pairs it = true) : isTg tg = true := by
  cases it <;> first | exact mG_isTg h t | cases p
/-- what a comprehension asks of its parts -/
theorem se_comp {elt : Exp} {tg : Tg} {it : Itx} {cs : Exs} {own : List (Str × Nat)} {x : Expr} (G : GX M Ph X sc fs) (h : mE M sc fs (.comp elt tg it cs own) x = true)
    (ii : ∀ tg y, mI M sc fs it y = true → (match it with
      | .zip _ _ => isTup tg = true
      | .enum _ => isTup tg = true
      | _ => True) → PI X tg y (tI Ph X.K W it))
    (ie : ∀ {X : Cx} {sc fs : Scope} {y : Expr}, GX M Ph X sc fs → mE M sc fs elt y = true → SE Ph W X elt y)
    (ic : ∀ {X : Cx} {sc fs : Scope} {y : List Expr}, GX M Ph X sc fs → mT M sc fs cs y = true → PTs X y (tTs Ph X.K W cs)) : ∃ e t i ifs scope p, x = .ListComp e [⟨t, i, ifs, 0⟩] scope p ∧ SE Ph W X (.comp elt tg it cs own) x ∧
      PI X t i (tI Ph X.K W it) ∧ BlkOk X.N X.env.scope scope own ∧ (∀ (s : Shared) (H : Hp) (C : Addr) (cl : List (Str × Addr)) (fp : List Addr), PG (X.blk s H scope (compEnvC scope cl C X.env) fp) t (tTg X.K tg)) ∧
      (∀ (s : Shared) (H : Hp) (C : Addr) (cl : List (Str × Addr)) (fp : List Addr), PTs (X.blk s H scope (compEnvC scope cl C X.env) fp) ifs (tTs Ph X.K W cs)) ∧
      (∀ (s : Shared) (H : Hp) (C : Addr) (cl : List (Str × Addr)) (fp : List Addr), PE (X.blk s H scope (compEnvC scope cl C X.env) fp) e (tE Ph X.K W elt)) ∧ (∀ x, foldedSetIterable i X.env x = pure x) ∧ (pairs it = true → isTg tg = true) ∧ ∀ v ∈ tgSlots tg, v ∈ own.map (·.2) := by
  unfold mE at h
  obtain ⟨⟨e, t, i, ifs, scope⟩, h1, h2⟩ := see_t h
  obtain ⟨p, rfl⟩ := vComp_s h1
  simp only [Bool.and_eq_true, List.all_eq_true, decide_eq_true_eq] at h2
  obtain ⟨⟨⟨⟨⟨⟨⟨hi, ht⟩, hs⟩, hb⟩, hg⟩, he⟩, hc⟩, hv⟩ := h2
  have bo : BlkOk X.N X.env.scope scope own := by
    rw [G.nm, G.sc]
    exact blkOk_by hb
  have pi := ii t i hi (by
    cases it <;> first | trivial | exact ht)
  have pg := fun (s : Shared) (H : Hp) (C : Addr) (cl : List (Str × Addr)) (fp : List Addr) => mG_s (G.blk (s := s) (H := H) (scope := scope) (C := C) (cl := cl) (fp := fp)) hg
  have pt := fun (s : Shared) (H : Hp) (C : Addr) (cl : List (Str × Addr)) (fp : List Addr) => ic (G.blk (s := s) (H := H) (scope := scope) (C := C) (cl := cl) (fp := fp)) hc
  have pe := fun (s : Shared) (H : Hp) (C : Addr) (cl : List (Str × Addr)) (fp : List Addr) => (ie (G.blk (s := s) (H := H) (scope := scope) (C := C) (cl := cl) (fp := fp)) he).e
  have hp : pairs it = true → isTg tg = true := pairs_tg (it := it) hg (by
    cases it <;> first | trivial | exact ht)
  refine ⟨e, t, i, ifs, scope, p, rfl, ?_, pi, bo, pg, pt, pe, notSet_f hs, hp, hv⟩
  exact seGp (PE.imp (pe_lc G.calm (by rw [G.nm]; exact G.nd) pi bo pg pt pe (notSet_f hs)) fun _ _ _ h => ent_lc hv (pairs_tg (it := it) hg (by
    cases it <;> first | trivial | exact ht)) h) (fun _ z => by cases z) fun _ => by rfl
theorem loc_vis {sc fs : Scope} {x : Str} (h : locB sc fs x = true) : visB sc x = true := by
  unfold locB at h
  unfold visB
  split at h
  · rename_i e
    rw [e]
  · rename_i e
    rw [e]
  · cases h
theorem isTup_f {x : Expr} (h : isTup x = true) : ∃ es k p, x = .Tuple es k p := by
  cases x <;> first | (cases h; done) | exact ⟨_, _, _, rfl⟩
theorem one_f {ys : List Expr} {y : Expr} (h : ys.head? = some y) (t : ys.tail.isEmpty = true) : ys = [y] := by
  cases ys with
  | nil => cases h
  | cons a r =>
    cases h
    cases r with
    | nil => rfl
    | cons _ _ => cases t
theorem two_f {ys : List Expr} {y z : Expr} (h : ys.head? = some y) (h2 : ys.tail.head? = some z) (t : ys.tail.tail.isEmpty = true) : ys = [y, z] := by
  cases ys with
  | nil => cases h
  | cons a r =>
    cases h
    rw [one_f (ys := r) h2 t]
mutual
theorem mE_s (hW : ∀ z P e σ H, ¬ W z P e σ H) : ∀ (e : Exp) {X : Cx} {sc fs : Scope} {x : Expr}, GX M Ph X sc fs → mE M sc fs e x = true → SE Ph W X e x
  | .var i, X, sc, fs, x, G, h => se_var G h
  | .int i, X, sc, fs, x, G, h => se_int h
  | .str i, X, sc, fs, x, G, h => se_str h
  | .bl i, X, sc, fs, x, G, h => se_bl h
  | .non, X, sc, fs, x, G, h => se_non h
  | .glob n d, X, sc, fs, x, G, h => se_glob G h
  | .tup es, X, sc, fs, x, G, h => se_tup h fun y => mEs_s hW es G
  | .lst es, X, sc, fs, x, G, h => se_lst h fun y => mEs_s hW es G
  | .dict0, X, sc, fs, x, G, h => by
    unfold mE at h
    obtain ⟨p, rfl⟩ := isDict0_s h
    exact seGp (PE.imp pe_dnewR fun _ _ _ h => ent_dict0 h) (fun _ z => by cases z) fun _ => by rfl
  | .bin o a b, X, sc, fs, x, G, h => se_bin h (fun y => mE_s hW a G) (fun y => mE_s hW b G)
  | .neg a, X, sc, fs, x, G, h => se_neg h (fun y => mE_s hW a G)
  | .nott a, X, sc, fs, x, G, h => se_not h (fun y => mE_s hW a G)
  | .conj es, X, sc, fs, x, G, h => se_conj h fun y => mEs_s hW es G
  | .disj es, X, sc, fs, x, G, h => se_disj h fun y => mEs_s hW es G
  | .cmp o a b, X, sc, fs, x, G, h => se_cmp G h (fun y => mE_s hW a G) (fun y => mE_s hW b G)
  | .cmp2 o p a b c, X, sc, fs, x, G, h => se_cmp2 G h (fun y => mE_s hW a G) (fun y => mE_s hW b G) (fun y => mE_s hW c G)
  | .ite c a b, X, sc, fs, x, G, h => se_ite h (fun y => mE_s hW c G) (fun y => mE_s hW a G) (fun y => mE_s hW b G)
  | .idx a i, X, sc, fs, x, G, h => se_idx G h (fun y => mE_s hW a G) (fun y => mE_s hW i G)
  | .slice a lo hi, X, sc, fs, x, G, h => se_slice h (fun y => mE_s hW a G) (fun y => mO_s hW lo G) (fun y => mO_s hW hi G)
  | .rev a, X, sc, fs, x, G, h => se_rev h (fun y => mE_s hW a G)
  | .call f br es, X, sc, fs, x, G, h => se_call hW G h fun y => mEs_s hW es G
  | .callK f br es kes ks perm, X, sc, fs, x, G, h => se_callK hW G h (fun y => mEs_s hW es G) fun y => mEs_s hW kes G
  | .callJ f g es, X, sc, fs, x, G, h => se_callJ hW G h fun y => mEs_s hW es G
  | .blt b es, X, sc, fs, x, G, h => by
    by_cases nl : b = .lenset
    · subst nl
      exact se_lenset G h fun y => mEs_s hW es G
    · by_cases nl2 : b = .sortset
      · subst nl2
        exact se_sortset G h fun y => mEs_s hW es G
      · by_cases nl3 : b = .rangel
        · subst nl3
          exact se_rangel G h fun y => mEs_s hW es G
        · by_cases nl4 : b = .ranget
          · subst nl4
            exact se_ranget G h fun y => mEs_s hW es G
          · by_cases nl5 : b = .sortrank
            · subst nl5
              exact se_sortrank G h fun y => mEs_s hW es G
            · exact se_blt nl nl2 nl3 nl4 nl5 G h fun y => mEs_s hW es G
  | .isi a t, X, sc, fs, x, G, h => se_isi G h fun y => mE_s hW a G
  | .meth m o es, X, sc, fs, x, G, h => by
    cases m with
    | index =>
      unfold mE at h
      obtain ⟨⟨e1, y⟩, h1, h2⟩ := see_t h
      obtain ⟨ap, p, rfl, hc, hl⟩ := vMet1_s h1
      simp only [Bool.and_eq_true] at h2
      have sl := mEs_s hW es G h2.2
      cases sl with
      | cons s n' r =>
        cases r
        exact seEp (PE.imp (pe_tupM PySem.F.slot_tuple_index PySem.F.type_tuple_index mt_index_ints (mE_s hW o G h2.1).e (SEL.cons s n' .nil).v (base_plain hc _ _) (by rw [star_f n']; rfl) hl (star_f n') (by rfl)) fun _ _ _ h => ent_index h) rfl (fun _ z => by cases z) fun _ => by rfl
    | _ =>
      unfold mE at h
      cases h
  | .dictof a, X, sc, fs, x, G, h => by
    unfold mE at h
    obtain ⟨⟨n, ys⟩, h1, h2⟩ := see_t h
    obtain ⟨p, p', rfl⟩ := vCall_s h1
    obtain ⟨y, h3, h2⟩ := see_t h2
    simp only [Bool.and_eq_true] at h2
    obtain ⟨⟨⟨ht, hb⟩, he⟩, hs⟩ := h2
    have ey : ys = [y] := one_f h3 ht
    subst ey
    obtain ⟨rfl, hg, hm, hn, hd⟩ := bltB_f G hb
    exact seGp (PE.imp (pe_callTy (cb_dict G.calm G.room) hg hm (by rfl) (SEL.cons (mE_s hW a G he) hs .nil).v hn hd (star_f hs) (by rfl)) fun _ _ _ h => ent_dictof h) (fun _ z => by cases z) fun _ => by rfl
  | .dcomp own i j a, X, sc, fs, x, G, h => by
    unfold mE at h
    obtain ⟨⟨k, v, it, scope, kk⟩, h1, h2⟩ := see_t h
    obtain ⟨p1, p2, p3, p4, p5, p6, rfl⟩ := vDictC_s h1
    simp only [Bool.and_eq_true, decide_eq_true_eq] at h2
    obtain ⟨⟨⟨⟨⟨⟨⟨⟨⟨⟨ho, hij⟩, ni⟩, nj⟩, li⟩, lj⟩, sk⟩, sv⟩, hs⟩, hb⟩, ha⟩ := h2
    have bo : BlkOk X.N X.env.scope scope own := by
      rw [G.nm, G.sc]
      exact blkOk_by hb
    obtain ⟨a1, a2, a3⟩ := sayD_f sk
    obtain ⟨b1, b2, b3⟩ := sayD_f sv
    have blk := fun (s : Shared) (H : Hp) (C : Addr) (cl : List (Str × Addr)) (fp : List Addr) => G.blk (s := s) (H := H) (scope := scope) (C := C) (cl := cl) (fp := fp)
    refine seGp (PE.imp (pe_dcR G.calm (by rw [G.nm]; exact G.nd) G.room (pi_tup (mE_s hW a G ha).e) bo (fun s H C cl fp => ?_) (fun s H C cl fp => ?_) (fun s H C cl fp => ?_) (notSet_f hs)) fun _ _ _ h => ent_dcomp hij ho h) (fun _ z => by cases z) fun _ => by rfl
    · have G2 := blk s H C cl fp
      have q1 := G2.loc li
      have q2 := G2.loc lj
      exact pg_tup (n := 2) G2.calm (pgs_cons (pg_name (by rw [G2.nm]; exact G2.nd) (by rw [G2.nm]; exact ni) q1.1 q1.2) (pgs_cons (pg_name (by rw [G2.nm]; exact G2.nd) (by rw [G2.nm]; exact nj) q2.1 q2.2) pgs_nil (by rfl)) (by rfl)) (by rfl) (by rfl)
    · have G2 := blk s H C cl fp
      exact pe_var (by rw [G2.nm]; exact ni) (G2.vis (loc_vis li)) a1 a2
    · have G2 := blk s H C cl fp
      exact pe_var (by rw [G2.nm]; exact nj) (G2.vis (loc_vis lj)) b1 b2
  | .get2 i k d, X, sc, fs, x, G, h => by
    unfold mE at h
    obtain ⟨⟨n, p1, y, z⟩, h1, h2⟩ := see_t h
    obtain ⟨ap, p, rfl, hl⟩ := vGet2_s h1
    simp only [Bool.and_eq_true, decide_eq_true_eq] at h2
    obtain ⟨⟨⟨⟨⟨⟨hn, hv⟩, hs⟩, hk⟩, nk⟩, hd⟩, nd⟩ := h2
    obtain ⟨s1, s2, s3⟩ := sayD_f hs
    have g : PE X (.Name n p1) (tVar i) := pe_var (by rw [G.nm]; exact hn) (G.vis hv) s1 s2
    exact seEp (PE.imp (pe_get2 G.room g (mE_s hW k G hk).e (mE_s hW d G hd).e (fun _ _ => star_f nk) (fun _ _ => star_f nd) hl) fun _ _ _ h => ent_get2 h) rfl (fun _ z => by cases z) fun _ => by rfl
  | .pop _, X, sc, fs, x, G, h => by
    unfold mE at h
    cases h
  | .popAt i e, X, sc, fs, x, G, h => by
    unfold mE at h
    obtain ⟨⟨o, y⟩, h1, h2⟩ := see_t h
    obtain ⟨ap, p, rfl, hc, hl⟩ := vMet1_s h1
    obtain ⟨n, h3, h2⟩ := see_t h2
    obtain ⟨q, rfl⟩ := vName_s h3
    simp only [Bool.and_eq_true, decide_eq_true_eq] at h2
    obtain ⟨⟨⟨⟨hn, hv⟩, hs⟩, he⟩, hy⟩ := h2
    obtain ⟨s1, s2, s3⟩ := sayD_f hs
    have g : PE X (.Name n q) (tVar i) := pe_var (by rw [G.nm]; exact hn) (G.vis hv) s1 s2
    exact seEp (PE.imp (pe_bm PySem.F.plainAttrs_list PySem.F.slot_list_pop PySem.F.type_list_pop mt_popAt g (pa_cons (mE_s hW e G he).e pa_nil (star_f hy)) (by rfl) (by rw [star_f hy]; rfl) hl (star_f hy) (by rfl)) fun _ _ _ h => ent_popAt h) rfl (fun _ z => by cases z) fun _ => by rfl
  | .comp elt tg it cs own, X, sc, fs, x, G, h => by
    obtain ⟨e, t, i, ifs, scope, p, e1, q, _⟩ := se_comp (W := W) G h (fun tg y hy ht => mI_s hW it G hy ht) (fun {X sc fs y} G h => mE_s hW elt G h) (fun {X sc fs y} G h => mT_s hW cs G h)
    exact q
theorem mEs_s (hW : ∀ z P e σ H, ¬ W z P e σ H) : ∀ (es : Exs) {X : Cx} {sc fs : Scope} {xs : List Expr}, GX M Ph X sc fs → mEs M sc fs es xs = true → SEL Ph W X es xs
  | .nil, X, sc, fs, xs, G, h => by
    unfold mEs at h
    have e : xs = [] := by simpa using h
    subst e
    exact .nil
  | .cons e es, X, sc, fs, xs, G, h => by
    unfold mEs at h
    obtain ⟨x, h1, h2⟩ := see_t h
    cases xs with
    | nil => cases h1
    | cons y ys =>
      cases h1
      simp only [Bool.and_eq_true, List.tail_cons] at h2
      exact .cons (mE_s hW e G h2.1.1) h2.1.2 (mEs_s hW es G h2.2)
theorem mT_s (hW : ∀ z P e σ H, ¬ W z P e σ H) : ∀ (es : Exs) {X : Cx} {sc fs : Scope} {xs : List Expr}, GX M Ph X sc fs → mT M sc fs es xs = true → PTs X xs (tTs Ph X.K W es)
  | .nil, X, sc, fs, xs, G, h => by
    unfold mT at h
    have e : xs = [] := by simpa using h
    subst e
    exact PTs.imp pts_nil fun _ _ _ h => ent_tests0 h
  | .cons e es, X, sc, fs, xs, G, h => by
    unfold mT at h
    obtain ⟨x, h1, h2⟩ := see_t h
    simp only [Bool.and_eq_true, decide_eq_true_eq] at h2
    rw [one_f h1 h2.1.2]
    have e0 : es = .nil := by
      cases es with
      | nil => rfl
      | cons _ _ => simp [exsLen] at h2
    subst e0
    exact PTs.imp (pts_one (mE_s hW e G h2.1.1).t) fun _ _ _ h => ent_tests1 h
theorem mO_s (hW : ∀ z P e σ H, ¬ W z P e σ H) : ∀ (e : Exo) {X : Cx} {sc fs : Scope} {x : Option Expr}, GX M Ph X sc fs → mO M sc fs e x = true → PO X x (tOpt Ph X.K W e)
  | .non, X, sc, fs, x, G, h => by
    unfold mO at h
    have e : x = none := by simpa using h
    subst e
    exact PO.imp po_none fun _ _ _ h => ent_onon h
  | .som e, X, sc, fs, x, G, h => by
    unfold mO at h
    obtain ⟨y, rfl, h2⟩ := see_t h
    exact PO.imp (po_some (mE_s hW e G h2).e) fun _ _ _ h => ent_osom h
theorem mI_s (hW : ∀ z P e σ H, ¬ W z P e σ H) : ∀ (it : Itx) {X : Cx} {sc fs : Scope} {tg x : Expr}, GX M Ph X sc fs → mI M sc fs it x = true → (match it with
      | .zip _ _ => isTup tg = true
      | .enum _ => isTup tg = true
      | _ => True) → PI X tg x (tI Ph X.K W it)
  | .seq e, X, sc, fs, tg, x, G, h, _ => by
    unfold mI at h
    exact PI.imp (pi_seqK (mE_s hW e G h).e) fun _ _ _ h => ent_seq h
  | .range1 e, X, sc, fs, tg, x, G, h, _ => by
    unfold mI at h
    obtain ⟨⟨n, ys⟩, h1, h2⟩ := see_t h
    obtain ⟨p, p', rfl⟩ := vCall_s h1
    obtain ⟨y, h3, h2⟩ := see_t h2
    simp only [Bool.and_eq_true] at h2
    obtain ⟨⟨⟨ht, hb⟩, he⟩, hn⟩ := h2
    have ey : ys = [y] := one_f h3 ht
    subst ey
    obtain ⟨rfl, hg, hm, _, _⟩ := bltB_f G hb
    exact PI.imp (pi_range1 hg hm (SEL.cons (mE_s hW e G he) hn .nil).v (star_f hn)) fun _ _ _ h => ent_range1 h
  | .range2 a b, X, sc, fs, tg, x, G, h, _ => by
    unfold mI at h
    obtain ⟨⟨n, ys⟩, h1, h2⟩ := see_t h
    obtain ⟨p, p', rfl⟩ := vCall_s h1
    obtain ⟨y, h3, h2⟩ := see_t h2
    obtain ⟨z, h4, h2⟩ := see_t h2
    simp only [Bool.and_eq_true] at h2
    obtain ⟨⟨⟨⟨⟨ht, hb⟩, he⟩, hn⟩, he2⟩, hn2⟩ := h2
    have ey : ys = [y, z] := two_f h3 h4 ht
    subst ey
    obtain ⟨rfl, hg, hm, _, _⟩ := bltB_f G hb
    exact PI.imp (pi_range2 hg hm (SEL.cons (mE_s hW a G he) hn (.cons (mE_s hW b G he2) hn2 .nil)).v (by rw [star_f hn, star_f hn2]; rfl) (star_f hn2)) fun _ _ _ h => ent_range2 h
  | .enum a, X, sc, fs, tg, x, G, h, t => by
    unfold mI at h
    obtain ⟨⟨n, ys⟩, h1, h2⟩ := see_t h
    obtain ⟨p, p', rfl⟩ := vCall_s h1
    obtain ⟨y, h3, h2⟩ := see_t h2
    simp only [Bool.and_eq_true] at h2
    obtain ⟨⟨⟨ht, hb⟩, he⟩, hn⟩ := h2
    have ey : ys = [y] := one_f h3 ht
    subst ey
    obtain ⟨rfl, hg, hm, _, _⟩ := bltB_f G hb
    obtain ⟨es, k, p3, rfl⟩ := isTup_f t
    exact PI.imp (pi_enumK hg hm (SEL.cons (mE_s hW a G he) hn .nil).v (star_f hn)) fun _ _ _ h => ent_enum h
  | .zip a b, X, sc, fs, tg, x, G, h, t => by
    unfold mI at h
    obtain ⟨⟨n, ys⟩, h1, h2⟩ := see_t h
    obtain ⟨p, p', rfl⟩ := vCall_s h1
    obtain ⟨y, h3, h2⟩ := see_t h2
    obtain ⟨z, h4, h2⟩ := see_t h2
    simp only [Bool.and_eq_true] at h2
    obtain ⟨⟨⟨⟨⟨ht, hb⟩, he⟩, hn⟩, he2⟩, hn2⟩ := h2
    have ey : ys = [y, z] := two_f h3 h4 ht
    subst ey
    obtain ⟨rfl, hg, hm, _, _⟩ := bltB_f G hb
    obtain ⟨es, k, p3, rfl⟩ := isTup_f t
    have s2 : SEL Ph W X (.cons b .nil) [z] := .cons (mE_s hW b G he2) hn2 .nil
    exact PI.imp (pi_zipK hg hm (SEL.cons (mE_s hW a G he) hn s2).v (star_f hn) s2.stars) fun _ _ _ h => ent_zip h
end
end
end PV
set_option Elab.async false
set_option linter.all false
set_option maxRecDepth 100000
set_option maxHeartbeats 2000000
/-! PV, part M: statements. -/
namespace PV
open PySem PySem.Spec PyProof.Rows L2
variable [Wd]
/-- how the frame stands behind a statement -/
structure AS (K : PySem.W.Frag) (P0 : Pa) (br : Bool) (env : Fram) (σ : L2.St) (H : Hp) (env' : Fram) (σ' : L2.St) (H' : Hp) : Prop where
  re : RE K P0 env' σ' H'
  ko : KeepO env σ H H'
  less : ∀ a, OwnA env' σ' a → OwnA env σ a ∨ H a = none
  tr : ∀ a, H' a = none → H a = none
  s0 : br = true → σ'[0]? = σ[0]?
section
variable {K : PySem.W.Frag} {P0 : Pa} {br : Bool} {env env1 env2 : Fram} {σ σ1 σ2 : L2.St} {H H1 H2 : Hp}
theorem AS.refl (r : RE K P0 env σ H) : AS K P0 br env σ H env σ H := ⟨r, KeepO.refl, fun _ h => .inl h, fun _ h => h, fun _ => rfl⟩
theorem AS.trans (a : AS K P0 br env σ H env1 σ1 H1) (b : AS K P0 br env1 σ1 H1 env2 σ2 H2) : AS K P0 br env σ H env2 σ2 H2 where
  re := b.re
  ko := fun c o e n => b.ko c o (a.ko c o e n) fun w => (a.less c w).elim n fun z => by
    rw [z] at e
    cases e
  less := fun c w => (b.less c w).elim (a.less c) fun z => .inr (a.tr c z)
  tr := fun c z => a.tr c (b.tr c z)
  s0 := fun h => (b.s0 h).trans (a.s0 h)
theorem AS.ofAft (a : Aft K P0 env σ H env1 H1) : AS K P0 br env σ H env1 σ H1 := ⟨a.re, a.ko, fun c w => .inl (a.less c w), a.tr, fun _ => rfl⟩
theorem AS.ofSto {is : List Nat} (a : Sto K P0 env σ H is env1 σ1) (h : br = true → 0 ∉ is) : AS K P0 br env σ H env1 σ1 H := ⟨a.re, KeepO.refl, fun c w => .inl ((a.own c).mp w), fun _ z => z, fun z => a.same 0 (h z)⟩
theorem AS.rp (a : AS K P0 br env σ H env1 σ1 H1) (r : RE K P0 env σ H) {v : V} {d : D} (q : RP K H (fun b => Stb P0 env σ b ∧ H b ≠ none) v d) : RP K H1 (Stb P0 env1 σ1) v d :=
  q.keep ((a.ko.keep r).mono fun _ z => z.1) fun c z => ⟨z.1.1, fun w => (a.less c w).elim z.1.2 z.2⟩
/-- a slot is given a value -/
theorem AS.setVal (r : RE K P0 env σ H) {i : Nat} {v : V} {d : D} (q : RP K H (Stb P0 env σ) v d) (hi : br = true → i ≠ 0) : AS K P0 br env σ H (env.set i (.val d)) (σ.set i (some v)) H :=
  ⟨r.setVal q, KeepO.refl, fun _ w => .inl w.val, fun _ z => z, fun z => List.getElem?_set_ne (hi z)⟩
theorem OwnA.own {i : Nat} {d : D} {b a : Addr} (hl : i < σ.length) (h : OwnA (env.set i (.own d)) (σ.set i (some (.ref b))) a) : OwnA env σ a ∨ a = b := by
  obtain ⟨j, e, h1, h2⟩ := h
  by_cases hj : i = j
  · subst hj
    rw [List.getElem?_set_self hl] at h2
    cases h2
    exact .inr rfl
  · rw [List.getElem?_set_ne hj] at h1 h2
    exact .inl ⟨j, e, h1, h2⟩
/-- a slot is given a new list -/
theorem AS.setOwn (a : Aft K P0 env σ H env1 H1) {i : Nat} {b : Addr} {d : D} (nb : H b = none) (re : RE K (fun a => P0 a ∧ a ≠ b) env1 σ H1) (ro : ROwn K H1 (Stb (fun a => P0 a ∧ a ≠ b) env1 σ) b d) (r : RE K P0 env σ H) (hi : br = true → i ≠ 0) (hl : i < env1.length) :
    AS K P0 br env σ H (env1.set i (.own d)) (σ.set i (some (.ref b))) H1 := by
  have nob : ¬ OwnA env1 σ b := fun w => by
    obtain ⟨xs, e, _⟩ := r.ownAt (a.less b w)
    rw [nb] at e
    cases e
  refine ⟨re.setOwn hl nob (r.new b nb) ro, a.ko, fun c w => ?_, a.tr, fun z => List.getElem?_set_ne (hi z)⟩
  rcases w.own (by rw [a.re.len]; exact hl) with w | rfl
  · exact .inl (a.less c w)
  · exact .inr nb
end
/-- a value that is handed back -/
structure RetV (K : PySem.W.Frag) (P0 : Pa) (env : Fram) (σ : L2.St) (H H' : Hp) (v : V) (d : D) (f : Bool) : Prop where
  rp : RP K H' P0 v d
  new : f = true → ∃ b, v = .ref b ∧ (OwnA env σ b ∨ H b = none) ∧ ROwn K H' (fun a => P0 a ∧ a ≠ b) b d
def FlwK (K : PySem.W.Frag) (P0 : Pa) (br : Bool) (D : Ends) (env : Fram) (σ : L2.St) (H : Hp) (p : Flw × Fram) : Prop := match p.1 with
  | .nx => ∀ σ' H', AS K P0 br env σ H p.2 σ' H' → D.nx σ' H'
  | .brk => ∀ σ' H', AS K P0 br env σ H p.2 σ' H' → D.bk σ' H'
  | .cont => ∀ σ' H', AS K P0 br env σ H p.2 σ' H' → D.ct σ' H'
  | .ret d f => ∀ v σ' H', AS K P0 br env σ H p.2 σ' H' → RetV K P0 env σ H H' v d f → D.rt v H'
section
variable {K : PySem.W.Frag} {P0 : Pa} {br : Bool} {env env1 env2 : Fram} {σ σ1 σ2 : L2.St} {H H1 H2 : Hp} {D : Ends}
theorem RetV.back (a : AS K P0 br env σ H env1 σ1 H1) {v : V} {d : PyData} {f : Bool} (q : RetV K P0 env1 σ1 H1 H2 v d f) : RetV K P0 env σ H H2 v d f :=
  ⟨q.rp, fun z => let ⟨b, e, h, r⟩ := q.new z; ⟨b, e, h.elim (a.less b) fun z => .inr (a.tr b z), r⟩⟩
theorem FlwK.from (a : AS K P0 br env σ H env1 σ1 H1) {p : Flw × Fram} (q : FlwK K P0 br D env σ H p) : FlwK K P0 br D env1 σ1 H1 p := by
  obtain ⟨f, e⟩ := p
  cases f with
  | nx => exact fun σ' H' b => q σ' H' (a.trans b)
  | brk => exact fun σ' H' b => q σ' H' (a.trans b)
  | cont => exact fun σ' H' b => q σ' H' (a.trans b)
  | ret d f => exact fun v σ' H' b r => q v σ' H' (a.trans b) (r.back a)
end
def F0 : Exc → Fram → Prop := fun _ _ => False
def W0 : WZ := fun _ _ _ _ _ => False
theorem hW0 : ∀ z P e σ H, ¬ W0 z P e σ H := fun _ _ _ _ _ h => h
def tSt (Ph : CallF) (wf : Nat) (br : Bool) (K : PySem.W.Frag) (P0 : Pa) (s : Stm) : TS := fun D σ H => ∃ env, RE K P0 env σ H ∧ Post (evS Ph wf br s env) (FlwK K P0 br D env σ H) F0
def tSs (Ph : CallF) (wf : Nat) (br : Bool) (K : PySem.W.Frag) (P0 : Pa) (s : Sts) : TS := fun D σ H => ∃ env, RE K P0 env σ H ∧ Post (evSs Ph wf br s env) (FlwK K P0 br D env σ H) F0
section
variable {Ph : CallF} {wf : Nat} {br : Bool} {K : PySem.W.Frag} {P0 : Pa} {env : Fram} {σ : L2.St} {H : Hp} {D : Ends} {e : Exp}
/-- an expression in a statement -/
theorem tE_in (r : RE K P0 env σ H) {k : PyData × Fram → Prop} {Q : VK} (h : Post (ev Ph e env) k F0) (hk : ∀ d env1, k (d, env1) → ∀ v H1, Aft K P0 env σ H env1 H1 → RP K H1 (Stb P0 env1 σ) v d → Q v H1) : tE Ph K W0 e σ H Q :=
  ⟨P0, env, r, h.imp (fun p q v H1 a b => hk p.1 p.2 q v H1 a b) fun _ _ z => z.elim⟩
theorem tG_in (r : RE K P0 env σ H) {k : PyData × Fram → Prop} {Q : VK} (h : Post (ev Ph e env) k F0) (hk : ∀ d env1, k (d, env1) → ∀ v H1, Aft K P0 env σ H env1 H1 → RP K H1 (Stb P0 env1 σ) v d → Frs K P0 env1 σ H H1 v d → Q v H1) : tG Ph K W0 e σ H Q :=
  ⟨P0, env, r, h.imp (fun p q v H1 a b c => hk p.1 p.2 q v H1 a b c) fun _ _ z => z.elim⟩
theorem ent_expr (h : tSt Ph wf br K P0 (.expr e) D σ H) : tDrop (tE Ph K W0 e) D σ H := by
  obtain ⟨env, r, h⟩ := h
  unfold evS at h
  exact tE_in r (post_bind.mp h) fun d env1 q v H1 a _ => q σ H1 (.ofAft a)
theorem ent_set {i : Nat} (h : tSt Ph wf br K P0 (.set i e) D σ H) : tAsg (tE Ph K W0 e) (gName i) D σ H := by
  obtain ⟨env, r, h⟩ := h
  unfold evS at h
  refine tE_in r (post_bind.mp h) fun d env1 q v H1 a rv => ?_
  have q : Post (if (decide (i < env1.length) && !(br && i == 0)) = true then Res.ok (Flw.nx, env1.set i (.val d)) else .bad) (FlwK K P0 br D env σ H) F0 := q
  split at q
  · rename_i hc
    simp only [Bool.and_eq_true, decide_eq_true_eq, Bool.not_eq_true', Bool.and_eq_false_iff, beq_eq_false_iff_ne] at hc
    exact q _ H1 ((AS.ofAft a).trans (AS.setVal a.re rv fun z => by
      rcases hc.2 with h | h
      · rw [z] at h
        cases h
      · exact h))
  · exact q.elim
theorem ent_own {i : Nat} (h : tSt Ph wf br K P0 (.own i e) D σ H) : tAsg (tG Ph K W0 e) (gName i) D σ H := by
  obtain ⟨env, r, h⟩ := h
  unfold evS at h
  refine tG_in r (post_bind.mp h) fun d env1 q v H1 a rv fr => ?_
  have q : Post (if (decide (i < env1.length) && !(br && i == 0) && makes e && isSeq d) = true then Res.ok (Flw.nx, env1.set i (.own d)) else .bad) (FlwK K P0 br D env σ H) F0 := q
  split at q
  · rename_i hc
    simp only [Bool.and_eq_true, decide_eq_true_eq, Bool.not_eq_true', Bool.and_eq_false_iff, beq_eq_false_iff_ne] at hc
    obtain ⟨⟨⟨h1, h2⟩, _⟩, hs⟩ := hc
    obtain ⟨b, rfl, nb, re, ro⟩ := fr hs
    exact q _ H1 (AS.setOwn a nb re ro r (fun z => by
      rcases h2 with h | h
      · rw [z] at h
        cases h
      · exact h) h1)
  · exact q.elim
theorem ent_unp {ts : List Tg} (hz : br = true → 0 ∉ tgsSlots ts) (h : tSt Ph wf br K P0 (.unp ts e) D σ H) : tAsg (tE Ph K W0 e) (tTg K (.tup ts)) D σ H := by
  obtain ⟨env, r, h⟩ := h
  unfold evS at h
  refine tE_in r (post_bind.mp h) fun d env1 q v H1 a rv => ?_
  cases d with
  | tuple ds =>
    obtain ⟨env2, es, q⟩ := post_opt.mp (post_bind.mp q)
    refine ⟨P0, env1, _, env2, a.re, .inl rv, by unfold store; exact es, fun σ' st => q σ' H1 ((AS.ofAft a).trans (AS.ofSto st fun z => ?_))⟩
    unfold tgSlots
    exact hz z
  | _ => exact q.elim
theorem ent_retN (h : tSt Ph wf br K P0 .retN D σ H) : tRetN D σ H := by
  obtain ⟨env, r, h⟩ := h
  unfold evS at h
  exact h .non σ H (AS.refl r) ⟨.non, fun z => by cases z⟩
/-- a value is handed back -/
theorem ent_ret1 (hn : ∀ i, e ≠ .var i) (hm : makes e = false) (h : tSt Ph wf br K P0 (.ret e) D σ H) : tRet (tE Ph K W0 e) D σ H := by
  obtain ⟨env, r, h⟩ := h
  unfold evS at h
  have h : Post ((ev Ph e env).bind fun p => Res.ok (Flw.ret p.1 (makes e && isSeq p.1), p.2)) (FlwK K P0 br D env σ H) F0 := by
    cases e <;> first | exact h | exact absurd rfl (hn _)
  refine tE_in r (post_bind.mp h) fun d env1 q v H1 a rv => ?_
  rw [hm, Bool.false_and] at q
  exact q v σ H1 (.ofAft a) ⟨rv.mono fun _ z => z.1, fun z => by cases z⟩
theorem ent_ret2 (hm : makes e = true) (h : tSt Ph wf br K P0 (.ret e) D σ H) : tRet (tG Ph K W0 e) D σ H := by
  obtain ⟨env, r, h⟩ := h
  unfold evS at h
  have h : Post ((ev Ph e env).bind fun p => Res.ok (Flw.ret p.1 (makes e && isSeq p.1), p.2)) (FlwK K P0 br D env σ H) F0 := by
    cases e <;> first | exact h | cases hm
  refine tG_in r (post_bind.mp h) fun d env1 q v H1 a rv fr => ?_
  rw [hm, Bool.true_and] at q
  refine q v σ H1 (.ofAft a) ⟨rv.mono fun _ z => z.1, fun z => ?_⟩
  obtain ⟨b, rfl, nb, re, ro⟩ := fr z
  exact ⟨b, rfl, .inr nb, ro.mono fun _ z => z.1⟩
theorem ent_ret3 {i : Nat} (h : tSt Ph wf br K P0 (.ret (.var i)) D σ H) : tRet (tVar i) D σ H := by
  obtain ⟨env, r, h⟩ := h
  unfold evS at h
  by_cases hc : (isOwn env i && !(i == 0)) = true
  · have h : Post (if (isOwn env i && !(i == 0)) = true then (opt (look env i)).bind fun d => Res.ok (Flw.ret d true, env) else (ev Ph (.var i) env).bind fun p => Res.ok (Flw.ret p.1 false, p.2)) (FlwK K P0 br D env σ H) F0 := h
    rw [if_pos hc] at h
    obtain ⟨d, ed, q⟩ := post_opt.mp (post_bind.mp h)
    simp only [Bool.and_eq_true, Bool.not_eq_true', beq_eq_false_iff_ne] at hc
    obtain ⟨d', e1⟩ := isOwn_iff.mp hc.1
    have e2 : d' = d := by
      unfold look at ed
      rw [e1] at ed
      cases ed
      rfl
    subst e2
    obtain ⟨b, e3, ro⟩ := r.own i d' e1
    refine ⟨_, e3, q _ σ H (AS.refl r) ⟨?_, fun _ => ⟨b, rfl, .inl ⟨i, d', e1, e3⟩, ro.mono fun c z => ⟨z.1, ?_⟩⟩⟩⟩
    · cases ro with
      | lst h1 h2 => exact .lst (r.pos i _ b hc.2 e1 e3) (.inl h1) (h2.mono fun _ z => z.1)
      | dct h1 h2 => exact .dct (r.pos i _ b hc.2 e1 e3) (.inl h1) (h2.mono fun _ z => z.1)
    · rintro rfl
      exact z.2 ⟨i, d', e1, e3⟩
  · have h : Post (if (isOwn env i && !(i == 0)) = true then (opt (look env i)).bind fun d => Res.ok (Flw.ret d true, env) else (ev Ph (.var i) env).bind fun p => Res.ok (Flw.ret p.1 false, p.2)) (FlwK K P0 br D env σ H) F0 := h
    rw [if_neg hc] at h
    refine ent_var (Ph := Ph) (W := W0) (K := K) (tE_in r (post_bind.mp h) fun d env1 q v H1 a rv => ?_)
    exact q v σ H1 (.ofAft a) ⟨rv.mono fun _ z => z.1, fun z => by cases z⟩
theorem ent_iff {c : Exp} {a b : Sts} (h : tSt Ph wf br K P0 (.iff c a b) D σ H) : tIfS (tT Ph K W0 c) (tSs Ph wf br K P0 a) (tSs Ph wf br K P0 b) D σ H := by
  obtain ⟨env, r, h⟩ := h
  unfold evS at h
  refine ⟨P0, env, r, (post_bind.mp h).imp (fun p q => ?_) fun _ _ z => z.elim⟩
  obtain ⟨d, env1⟩ := p
  cases d with
  | bool k =>
    refine ⟨k, rfl, fun H1 a1 => ?_⟩
    have a1 : Aft K P0 env σ H env1 H1 := a1
    cases k with
    | true =>
      show if true = true then _ else _
      rw [if_pos rfl]
      exact ⟨env1, a1.re, Post.imp q (fun p z => FlwK.from (.ofAft a1) z) fun _ _ z => z⟩
    | false =>
      show if false = true then _ else _
      rw [if_neg Bool.false_ne_true]
      exact ⟨env1, a1.re, Post.imp q (fun p z => FlwK.from (.ofAft a1) z) fun _ _ z => z⟩
  | _ => exact q.elim
theorem ent_brk (h : tSt Ph wf br K P0 .brk D σ H) : tBreak D σ H := by
  obtain ⟨env, r, h⟩ := h
  unfold evS at h
  exact h σ H (AS.refl r)
theorem ent_cont (h : tSt Ph wf br K P0 .cont D σ H) : tCont D σ H := by
  obtain ⟨env, r, h⟩ := h
  unfold evS at h
  exact h σ H (AS.refl r)
theorem ent_pass (h : tSt Ph wf br K P0 .pass D σ H) : tNext D σ H := by
  obtain ⟨env, r, h⟩ := h
  unfold evS at h
  exact h σ H (AS.refl r)
theorem ent_never (h : tSt Ph wf br K P0 .never D σ H) : tNever D σ H := by
  obtain ⟨env, r, h⟩ := h
  unfold evS at h
  exact h.elim
theorem ent_ssnil (h : tSs Ph wf br K P0 .nil D σ H) : tNext D σ H := by
  obtain ⟨env, r, h⟩ := h
  unfold evSs at h
  exact h σ H (AS.refl r)
theorem ent_sscons {s : Stm} {ss : Sts} (h : tSs Ph wf br K P0 (.cons s ss) D σ H) : tSeq (tSt Ph wf br K P0 s) (tSs Ph wf br K P0 ss) D σ H := by
  obtain ⟨env, r, h⟩ := h
  unfold evSs at h
  refine ⟨env, r, (post_bind.mp h).imp (fun p q => ?_) fun _ _ z => z⟩
  obtain ⟨f, env1⟩ := p
  cases f with
  | nx => exact fun σ' H' a => ⟨env1, a.re, Post.imp q (fun p z => FlwK.from a z) fun _ _ z => z⟩
  | brk => exact q
  | cont => exact q
  | ret d f => exact q
theorem ent_whil {c : Exp} {b : Sts} (h : tSt Ph wf br K P0 (.whil c b) D σ H) : tWhile (tT Ph K W0 c) (tSs Ph wf br K P0 b) D σ H := by
  obtain ⟨env, r, h⟩ := h
  unfold evS at h
  refine ⟨fun m σ' H' => ∃ env', AS K P0 br env σ H env' σ' H' ∧ Post (whileLoop (fun e => ev Ph c e) (fun e => evSs Ph wf br b e) m env') (FlwK K P0 br D env σ H) F0, ⟨wf, env, AS.refl r, h⟩, ?_⟩
  rintro m σ' H' ⟨env', a, h⟩
  cases m with
  | zero =>
    unfold whileLoop at h
    exact h.elim
  | succ m =>
    unfold whileLoop at h
    refine ⟨P0, env', a.re, (post_bind.mp h).imp (fun p q => ?_) fun _ _ z => z.elim⟩
    obtain ⟨d, env1⟩ := p
    cases d with
    | bool k =>
      refine ⟨k, rfl, fun H1 a1 => ?_⟩
      have a1 : Aft K P0 env' σ' H' env1 H1 := a1
      have a2 := a.trans (.ofAft a1)
      cases k with
      | false =>
        show if false = true then _ else _
        rw [if_neg Bool.false_ne_true]
        exact q σ' H1 a2
      | true =>
        show if true = true then _ else _
        rw [if_pos rfl]
        refine ⟨fun σ2 H2 => ∃ env2, AS K P0 br env σ H env2 σ2 H2 ∧ Post (whileLoop (fun e => ev Ph c e) (fun e => evSs Ph wf br b e) m env2) (FlwK K P0 br D env σ H) F0, fun σ2 H2 z => ⟨m, Nat.lt_succ_self m, z⟩, env1, a1.re, (post_bind.mp q).imp (fun p q => ?_) fun _ _ z => z⟩
        obtain ⟨f, env2⟩ := p
        cases f with
        | nx => exact fun σ2 H2 b => ⟨env2, a2.trans b, q⟩
        | cont => exact fun σ2 H2 b => ⟨env2, a2.trans b, q⟩
        | brk => exact fun σ2 H2 b => q σ2 H2 (a2.trans b)
        | ret d f => exact FlwK.from a2 q
    | _ => exact q.elim
theorem ent_forr {tg : Tg} {it : Itx} {b : Sts} (hz : br = true → 0 ∉ tgSlots tg) (hp : pairs it = true → isTg tg = true) (h : tSt Ph wf br K P0 (.forr tg it b) D σ H) : tFor (tI Ph K W0 it) (tTg K tg) (tSs Ph wf br K P0 b) D σ H := by
  obtain ⟨env, r, h⟩ := h
  unfold evS at h
  refine ⟨P0, env, r, (post_bind.mp h).imp (fun p q J H1 a1 io => ?_) fun _ _ z => z.elim⟩
  obtain ⟨xs, env1⟩ := p
  have a1 : Aft K P0 env σ H env1 H1 := a1
  have io : ItOk K (Stb P0 env1 σ) H1 (pairs it) J xs := io
  refine ⟨fun i m σ' H' => m = xs.length - i ∧ i ≤ xs.length ∧ ∃ envi, AS K P0 br env1 σ H1 envi σ' H' ∧ Post (forLoop (fun x e => (opt (store tg x e)).bind fun e1 => evSs Ph wf br b e1) (xs.drop i) envi) (FlwK K P0 br D env σ H) F0,
    ⟨_, rfl, Nat.zero_le _, env1, AS.refl a1.re, by rw [List.drop_zero]; exact q⟩, ?_⟩
  rintro i m σ' H' ⟨rfl, hi, envi, ai, q⟩
  have a2 : AS K P0 br env σ H envi σ' H' := (AS.ofAft a1).trans ai
  have kp : Keep (Stb P0 env1 σ) H1 H' := ai.ko.keep a1.re
  by_cases hlt : i < xs.length
  · rw [List.drop_eq_getElem_cons hlt] at q
    unfold forLoop at q
    obtain ⟨env2, es, q⟩ := post_opt.mp (post_bind.mp (post_bind.mp q))
    refine .inr ⟨io.go i H' kp hlt, fun σ2 H2 => ∃ env2, AS K P0 br env1 σ H1 env2 σ2 H2 ∧ Post (forLoop (fun x e => (opt (store tg x e)).bind fun e1 => evSs Ph wf br b e1) (xs.drop (i + 1)) env2) (FlwK K P0 br D env σ H) F0,
      fun σ2 H2 z => ⟨_, by omega, rfl, hlt, z⟩, fun x H2 hy => ?_⟩
    obtain ⟨grow, rx⟩ := io.yld i H' x H2 xs[i] kp (by simp) hy
    have r2 : RE K P0 envi σ' H2 := ai.re.grow grow
    have ag : AS K P0 br envi σ' H' envi σ' H2 := ⟨r2, KeepO.all grow, fun _ z => .inl z, none_grow grow, fun _ => rfl⟩
    refine ⟨P0, envi, xs[i], env2, r2, rx.g hp fun a z => ⟨z.1.1, fun w => (ai.less a w).elim z.1.2 z.2⟩, es, fun σ3 st => ?_⟩
    have a3 : AS K P0 br env1 σ H1 env2 σ3 H2 := (ai.trans ag).trans (AS.ofSto st hz)
    refine ⟨env2, st.re, Post.imp q (fun p q => ?_) fun _ _ z => z⟩
    obtain ⟨f, env4⟩ := p
    cases f with
    | nx => exact fun σ4 H4 b => ⟨env4, a3.trans b, q⟩
    | cont => exact fun σ4 H4 b => ⟨env4, a3.trans b, q⟩
    | brk => exact fun σ4 H4 b => q σ4 H4 ((AS.ofAft a1).trans (a3.trans b))
    | ret d f => exact FlwK.from ((AS.ofAft a1).trans a3) q
  · have e : i = xs.length := by omega
    subst e
    rw [List.drop_length] at q
    unfold forLoop at q
    exact .inl ⟨io.stop H' kp, q σ' H' a2⟩
end
end PV
set_option Elab.async false
set_option linter.all false
set_option maxRecDepth 100000
set_option maxHeartbeats 2000000
/-! PV, part N: statements that change a list. -/
namespace PV
open PySem PySem.Spec PyProof.Rows L2
variable [Wd]
section
variable {K : PySem.W.Frag} {P0 : Pa} {br : Bool} {env env1 env2 : Fram} {σ σ1 σ2 : L2.St} {H H1 H2 : Hp}
theorem AS.changeG (r : RE K P0 env σ H) {i : Nat} {d d' : D} {a : Addr} {o : HO} (hi : env[i]? = some (.own d)) (hs : σ[i]? = some (some (.ref a))) (q : ∀ (H' : Hp) (P' : Pa), Keep (Stb P0 env σ) H H' → (∀ b, Stb P0 env σ b → P' b) → H' a = some o → ROwn K H' P' a d') :
    AS K P0 br env σ H (env.set i (.own d')) σ (upd H a o) := by
  obtain ⟨r2, ko⟩ := r.changeG (d' := d') hi hs q
  refine ⟨r2, ko, fun c w => .inl ?_, fun c z => ?_, fun _ => rfl⟩
  · obtain ⟨j, e, h1, h2⟩ := w
    by_cases hj : i = j
    · subst hj
      exact ⟨i, d, hi, h2⟩
    · rw [List.getElem?_set_ne hj] at h1
      exact ⟨j, e, h1, h2⟩
  · by_cases hc : c = a
    · subst hc
      rw [upd_same] at z
      cases z
    · rw [upd_ne hc] at z
      exact z
theorem AS.change (r : RE K P0 env σ H) {i : Nat} {d : D} {a : Addr} {ys : List V} {es : List D} (hi : env[i]? = some (.own d)) (hs : σ[i]? = some (some (.ref a))) (q : RPs K H (Stb P0 env σ) ys es) :
    AS K P0 br env σ H (env.set i (.own (.list es))) σ (upd H a (.lst ys)) := AS.changeG r hi hs fun H' P' k m e => .lst e (q.keep k m)
theorem RE.ownD (r : RE K P0 env σ H) {i : Nat} {xs : List (D × D)} {a : Addr} (hi : env[i]? = some (.own (.dict xs))) (hs : σ[i]? = some (some (.ref a))) : ∃ ep ws, H a = some (.ext (rawD a ep ws)) ∧ REs K H (Stb P0 env σ) ws xs := by
  obtain ⟨b, e, ro⟩ := r.own i _ hi
  rw [hs] at e
  cases e
  cases ro with
  | dct h q => exact ⟨_, _, h, q⟩
theorem RE.ownL (r : RE K P0 env σ H) {i : Nat} {xs : List D} {a : Addr} (hi : env[i]? = some (.own (.list xs))) (hs : σ[i]? = some (some (.ref a))) : ∃ ws, H a = some (.lst ws) ∧ RPs K H (Stb P0 env σ) ws xs := by
  obtain ⟨b, e, ro⟩ := r.own i _ hi
  rw [hs] at e
  cases e
  cases ro with
  | lst h q => exact ⟨_, h, q⟩
theorem RE.ownAtI (r : RE K P0 env σ H) {i : Nat} (h : isOwn env i = true) : ∃ a, σ[i]? = some (some (.ref a)) := by
  obtain ⟨d, e⟩ := isOwn_iff.mp h
  obtain ⟨a, e2, _⟩ := r.own i d e
  exact ⟨a, e2⟩
end
section
variable {Ph : CallF} {wf : Nat} {br : Bool} {K : PySem.W.Frag} {P0 : Pa} {env : Fram} {σ : L2.St} {H : Hp} {D : Ends} {e ix : Exp} {i : Nat}
theorem ent_setIx (h : tSt Ph wf br K P0 (.setIx i ix e) D σ H) : tAsg (tE Ph K W0 e) (gSub (tVar i) (tE Ph K W0 ix) (rSet K)) D σ H := by
  obtain ⟨env, r, h⟩ := h
  unfold evS at h
  refine tE_in r (post_bind.mp h) fun d env1 q v H1 a1 rv => ?_
  replace q : Post (if (!isOwn env1 i) = true then Res.bad else (ev Ph ix env1).bind fun q => match q.2[i]?, q.1 with
    | some (.own (.list xs)), .int k => (match place xs.length k with
      | some j => Res.ok (Flw.nx, q.2.set i (.own (.list (xs.set j d))))
      | none => .bad)
    | some (.own (.dict kvs)), y => (match key? y with
      | some k => if kvs.length < LINE then Res.ok (Flw.nx, q.2.set i (.own (.dict (dPut kvs k y d)))) else .bad
      | none => .bad)
    | _, _ => .bad) (FlwK K P0 br D env σ H) F0 := q
  by_cases ho : isOwn env1 i = true
  · rw [ho, Bool.not_true, if_neg Bool.false_ne_true] at q
    obtain ⟨a, hs⟩ := a1.re.ownAtI ho
    refine ⟨.ref a, hs, tE_in a1.re (post_bind.mp q) fun dk env2 q w H2 a2 rw' => ?_⟩
    replace q : Post (match env2[i]?, dk with
      | some (.own (.list xs)), .int k => (match place xs.length k with
        | some j => Res.ok (Flw.nx, env2.set i (.own (.list (xs.set j d))))
        | none => .bad)
      | some (.own (.dict kvs)), y => (match key? y with
        | some k => if kvs.length < LINE then Res.ok (Flw.nx, env2.set i (.own (.dict (dPut kvs k y d)))) else .bad
        | none => .bad)
      | _, _ => .bad) (FlwK K P0 br D env σ H) F0 := q
    have a12 := a1.trans a2
    have rv2 := a2.rp a1.re rv
    split at q
    · rename_i xs k hi
      obtain ⟨ws, hw, rs⟩ := a2.re.ownL hi hs
      cases rw' with
      | int =>
        split at q
        · rename_i j hj
          exact .inl ⟨a, ws, k, j, rfl, rfl, hw, by rw [rs.length]; exact hj, q σ _ ((AS.ofAft a12).trans (AS.change a2.re hi hs (rs.set j rv2)))⟩
        · exact q.elim
    · rename_i kvs hi
      obtain ⟨ep, ws, hw, rs⟩ := a2.re.ownD hi hs
      split at q
      · rename_i k hk
        split at q
        · rename_i hl
          refine .inr ⟨a, ep, ws, _, kvs, _, k, rfl, rw', hk, hw, rs, by rw [rs.length]; exact hl, fun ep' b u eb ru => ?_⟩
          obtain ⟨ek, hd, _⟩ := key_s hk
          subst eb
          refine q σ _ ((AS.ofAft a12).trans (AS.changeG a2.re hi hs fun H' P' kp m e => .dct e (REs.keep kp m ?_)))
          have := rs.put hd (by rw [← ek]; exact rw') ru rv2
          rw [← ek] at this
          exact this
        · exact q.elim
      · exact q.elim
    · exact q.elim
  · have ho : isOwn env1 i = false := by simpa using ho
    rw [ho, Bool.not_false, if_pos rfl] at q
    exact q.elim
theorem ent_jar {j : Nat} (hz : br = true → j ≠ 0) (h : tSt Ph wf br K P0 (.jar i ix j e) D σ H) : tAsg (tE Ph K W0 e) (gTup K 2 (gCons (gSub (tVar i) (tE Ph K W0 ix) rSetL) (gCons (gName j) gNil))) D σ H := by
  obtain ⟨env, r, h⟩ := h
  unfold evS at h
  refine tE_in r (post_bind.mp h) fun d env1 q v H1 a1 rv => ?_
  replace q : Post (match d with
    | .tuple [x, y] => if (!isOwn env1 i) = true then Res.bad else (ev Ph ix env1).bind fun q => (match q.2[i]?, q.1 with
      | some (.own (.list xs)), .int k => (match place xs.length k with
        | some m => (opt (store (.name j) y (q.2.set i (.own (.list (xs.set m x)))))).bind fun e1 => Res.ok (Flw.nx, e1)
        | none => .bad)
      | _, _ => .bad)
    | _ => .bad) (FlwK K P0 br D env σ H) F0 := q
  split at q
  · rename_i x y
    obtain ⟨at_, vs, rfl, st, rs⟩ := rv.tuple
    refine ⟨at_, vs, rfl, st, by rw [rs.length]; rfl, ?_⟩
    cases rs with
    | cons rx rs =>
      cases rs with
      | cons ry rs =>
        cases rs
        refine ⟨_, _, rfl, ?_⟩
        by_cases ho : isOwn env1 i = true
        · rw [ho, Bool.not_true, if_neg Bool.false_ne_true] at q
          obtain ⟨a, hs⟩ := a1.re.ownAtI ho
          refine ⟨.ref a, hs, tE_in a1.re (post_bind.mp q) fun dk env2 q w H2 a2 rw' => ?_⟩
          replace q : Post (match env2[i]?, dk with
            | some (.own (.list xs)), .int k => (match place xs.length k with
              | some m => (opt (store (.name j) y (env2.set i (.own (.list (xs.set m x)))))).bind fun e1 => Res.ok (Flw.nx, e1)
              | none => .bad)
            | _, _ => .bad) (FlwK K P0 br D env σ H) F0 := q
          have a12 := a1.trans a2
          split at q
          · rename_i xs k hi
            obtain ⟨ws, hw, rs⟩ := a2.re.ownL hi hs
            cases rw' with
            | int =>
              split at q
              · rename_i m hm
                obtain ⟨e1, es, q⟩ := post_opt.mp (post_bind.mp q)
                have rx2 := a2.rp a1.re rx
                have ry2 := a2.rp a1.re ry
                have ch := AS.change (br := br) a2.re hi hs (rs.set m rx2)
                have ry3 : RP K (upd H2 a (.lst (ws.set m _))) (Stb P0 (env2.set i (.own (.list (xs.set m x)))) σ) _ y := ry2.keep (ch.ko.keep a2.re) fun c z => ⟨z.1, fun w => z.2 (by
                  obtain ⟨l, u, h1, h2⟩ := w
                  by_cases hl : i = l
                  · subst hl
                    exact ⟨i, _, hi, h2⟩
                  · rw [List.getElem?_set_ne hl] at h1
                    exact ⟨l, u, h1, h2⟩)⟩
                refine ⟨a, ws, k, m, rfl, rfl, hw, by rw [rs.length]; exact hm, ?_⟩
                refine ⟨_, _, rfl, ?_⟩
                unfold store at es
                split at es
                · rename_i hc
                  cases es
                  simp only [Bool.and_eq_true, decide_eq_true_eq, Bool.not_eq_true'] at hc
                  refine ⟨rfl, q _ _ ((AS.ofAft a12).trans (ch.trans (AS.setVal ch.re ry3 hz)))⟩
                · cases es
              · exact q.elim
          · exact q.elim
        · have ho : isOwn env1 i = false := by simpa using ho
          rw [ho, Bool.not_false, if_pos rfl] at q
          exact q.elim
  · exact q.elim
theorem ent_append (h : tSt Ph wf br K P0 (.append i e) D σ H) : tDrop (tBM K "list" rAppend (tVar i) (tCons (tE Ph K W0 e) tNil)) D σ H := by
  obtain ⟨env, r, h⟩ := h
  unfold evS at h
  replace h : Post (if (!isOwnL env i) = true then Res.bad else (ev Ph e env).bind fun p => match p.2[i]? with
    | some (.own (.list xs)) => if xs.length < LINE then Res.ok (Flw.nx, p.2.set i (.own (.list (xs ++ [p.1])))) else .bad
    | _ => .bad) (FlwK K P0 br D env σ H) F0 := h
  by_cases ho : isOwnL env i = true
  · rw [ho, Bool.not_true, if_neg Bool.false_ne_true] at h
    obtain ⟨zs0, hd⟩ : ∃ zs, env[i]? = some (.own (.list zs)) := by
      unfold isOwnL at ho
      split at ho
      · rename_i zs e
        exact ⟨zs, e⟩
      · cases ho
    obtain ⟨a, hs, ro⟩ := r.own i _ hd
    obtain ⟨ys, there⟩ : ∃ ys, H a = some (.lst ys) := by
      cases ro with
      | lst h _ => exact ⟨_, h⟩
    refine ⟨.ref a, hs, .inl ⟨rfl, _, SqL.of there⟩, tE_in r (post_bind.mp h) fun d env1 q v H1 a1 rv => ?_⟩
    replace q : Post (match env1[i]? with
      | some (.own (.list xs)) => if xs.length < LINE then Res.ok (Flw.nx, env1.set i (.own (.list (xs ++ [d])))) else .bad
      | _ => .bad) (FlwK K P0 br D env σ H) F0 := q
    split at q
    · rename_i xs hi
      split at q
      · rename_i hl
        obtain ⟨ws, hw, rs⟩ := a1.re.ownL hi hs
        have hl' : xs.length < 16777216 := hl
        refine ⟨a, ws, v, rfl, rfl, hw, by rw [rs.length, sizeLine_eq]; exact hl', ?_⟩
        exact q σ _ ((AS.ofAft a1).trans (AS.change a1.re hi hs (rs.append (.cons rv .nil))))
      · exact q.elim
    · exact q.elim
  · have ho : isOwnL env i = false := by simpa using ho
    rw [ho, Bool.not_false, if_pos rfl] at h
    exact h.elim
theorem ent_extend (h : tSt Ph wf br K P0 (.extend i e) D σ H) : tDrop (tBM K "list" rExtend (tVar i) (tCons (tG Ph K W0 e) tNil)) D σ H := by
  obtain ⟨env, r, h⟩ := h
  unfold evS at h
  replace h : Post (if (!isOwnL env i) = true then Res.bad else (ev Ph e env).bind fun p => match p.2[i]?, p.1 with
    | some (.own (.list xs)), .list ys => if xs.length + ys.length ≤ LINE then Res.ok (Flw.nx, p.2.set i (.own (.list (xs ++ ys)))) else .bad
    | _, _ => .bad) (FlwK K P0 br D env σ H) F0 := h
  by_cases ho : isOwnL env i = true
  · rw [ho, Bool.not_true, if_neg Bool.false_ne_true] at h
    obtain ⟨zs0, hd⟩ : ∃ zs, env[i]? = some (.own (.list zs)) := by
      unfold isOwnL at ho
      split at ho
      · rename_i zs e
        exact ⟨zs, e⟩
      · cases ho
    obtain ⟨a, hs, ro⟩ := r.own i _ hd
    obtain ⟨ys, there⟩ : ∃ ys, H a = some (.lst ys) := by
      cases ro with
      | lst h _ => exact ⟨_, h⟩
    refine ⟨.ref a, hs, .inl ⟨rfl, _, SqL.of there⟩, tG_in r (post_bind.mp h) fun d env1 q v H1 a1 rv fr => ?_⟩
    replace q : Post (match env1[i]?, d with
      | some (.own (.list xs)), .list ys => if xs.length + ys.length ≤ LINE then Res.ok (Flw.nx, env1.set i (.own (.list (xs ++ ys)))) else .bad
      | _, _ => .bad) (FlwK K P0 br D env σ H) F0 := q
    split at q
    · rename_i xs zs hi
      split at q
      · rename_i hl
        obtain ⟨ws, hw, rs⟩ := a1.re.ownL hi hs
        obtain ⟨b, rfl, nb, re, rb⟩ := fr rfl
        cases rb with
        | lst hb rz =>
          have hl' : xs.length + zs.length ≤ 16777216 := hl
          refine ⟨a, b, ws, _, rfl, rfl, hw, hb, by rw [rs.length, rz.length, sizeLine_eq]; exact hl', ?_⟩
          exact q σ _ ((AS.ofAft a1).trans (AS.change a1.re hi hs (rs.append (rz.mono fun _ z => ⟨z.1.1, z.2⟩))))
      · exact q.elim
    · exact q.elim
  · have ho : isOwnL env i = false := by simpa using ho
    rw [ho, Bool.not_false, if_pos rfl] at h
    exact h.elim
end
end PV
set_option Elab.async false
set_option linter.all false
set_option maxRecDepth 100000
set_option maxHeartbeats 2000000
/-! PV, part O: several targets at once; the matcher of statements; soundness. -/
namespace PV
open PySem PySem.Spec PyProof.Rows L2
variable [Wd]
def PB (P : Pa) (as : List Addr) : Pa := fun a => P a ∧ a ∉ as
/-- values at hand; the new lists among them stand at as -/
inductive ParOk (K : PySem.W.Frag) (H : Hp) (P : Pa) : List Bool → List V → List D → List Addr → Prop
  | nil : ParOk K H P [] [] [] []
  | val {bs : List Bool} {v : V} {vs : List V} {d : D} {ds : List D} {as : List Addr} : RP K H P v d → ParOk K H P bs vs ds as → ParOk K H P (false :: bs) (v :: vs) (d :: ds) as
  | no {bs : List Bool} {v : V} {vs : List V} {d : D} {ds : List D} {as : List Addr} : isSeq d = false → ParOk K H P bs vs ds as → ParOk K H P (true :: bs) (v :: vs) (d :: ds) as
  | own {bs : List Bool} {b : Addr} {vs : List V} {d : D} {ds : List D} {as : List Addr} : ROwn K H P b d → b ∉ as → ParOk K H P bs vs ds as → ParOk K H P (true :: bs) (.ref b :: vs) (d :: ds) (b :: as)
def tPars (Ph : CallF) (K : PySem.W.Frag) : List Bool → Exs → TA
  | [], _ => tNil
  | _ :: _, .nil => tNil
  | b :: bs, .cons e es => tCons (if b = true then tG Ph K W0 e else tE Ph K W0 e) (tPars Ph K bs es)
section
variable {K : PySem.W.Frag} {P P' P0 : Pa} {br : Bool} {env env1 env2 : Fram} {σ σ1 σ2 : L2.St} {H H1 H2 : Hp}
theorem ROwn.old {b : Addr} {d : D} (r : ROwn K H P b d) : ROwn K H (fun a => P a ∧ H a ≠ none) b d := by
  cases r with
  | lst h q => exact .lst h q.old
  | dct h q => exact .dct h q.old
theorem ParOk.mono (m : ∀ a, P a → P' a) : ∀ {bs : List Bool} {vs : List V} {ds : List D} {as : List Addr}, ParOk K H P bs vs ds as → ParOk K H P' bs vs ds as
  | _, _, _, _, .nil => .nil
  | _, _, _, _, .val r q => .val (r.mono m) (q.mono m)
  | _, _, _, _, .own r n q => .own (r.mono m) n (q.mono m)
  | _, _, _, _, .no r q => .no r (q.mono m)
theorem ROwn.grow {b : Addr} {d : D} (k : ∀ a o, H a = some o → H1 a = some o) (r : ROwn K H P b d) : ROwn K H1 P b d := r.keep (fun _ z _ => k _ _ z) (Keep.all k) fun _ z => z
theorem ParOk.grow (k : ∀ a o, H a = some o → H1 a = some o) : ∀ {bs : List Bool} {vs : List V} {ds : List D} {as : List Addr}, ParOk K H P bs vs ds as → ParOk K H1 P bs vs ds as
  | _, _, _, _, .nil => .nil
  | _, _, _, _, .val r q => .val (r.keep (Keep.all k) fun _ z => z) (q.grow k)
  | _, _, _, _, .own r n q => .own (r.grow k) n (q.grow k)
  | _, _, _, _, .no r q => .no r (q.grow k)
theorem ParOk.length : ∀ {bs : List Bool} {vs : List V} {ds : List D} {as : List Addr}, ParOk K H P bs vs ds as → vs.length = bs.length
  | _, _, _, _, .nil => rfl
  | _, _, _, _, .val _ q => by simp [q.length]
  | _, _, _, _, .own _ _ q => by simp [q.length]
  | _, _, _, _, .no _ q => by simp [q.length]
theorem Aft.weaken (a : Aft K P' env σ H env1 H1) (m : ∀ b, P' b → P b) : Aft K P env σ H env1 H1 := ⟨a.re.weaken m, a.ko, a.less, a.tr⟩
end
section
variable {Ph : CallF} {K : PySem.W.Frag} {σ : L2.St} {Q : List V → Hp → Prop}
theorem par_in : ∀ {bs : List Bool} {es : Exs} {env : Fram} {H : Hp} {P : Pa} {k : List D × Fram → Prop} {Q : List V → Hp → Prop}, bs.length = exsLen es → RE K P env σ H → Post (evs Ph es env) k F0 →
    (∀ ds env1, k (ds, env1) → ∀ vs H1 as, Aft K P env σ H env1 H1 → RE K (PB P as) env1 σ H1 → (∀ b ∈ as, H b = none) → ParOk K H1 (Stb (PB P as) env1 σ) bs vs ds as → Q vs H1) → tPars Ph K bs es σ H Q
  | [], .nil, env, H, P, k, Q, hl, r, h, hk => by
    unfold evs at h
    exact hk [] env h [] H [] (Aft.refl r) (r.weaken fun a z => ⟨z, by simp⟩) (by simp) .nil
  | [], .cons e es, env, H, P, k, Q, hl, r, h, hk => by simp [exsLen] at hl
  | b :: bs, .nil, env, H, P, k, Q, hl, r, h, hk => by simp [exsLen] at hl
  | b :: bs, .cons e es, env, H, P, k, Q, hl, r, h, hk => by
    have hl' : bs.length = exsLen es := by simpa [exsLen] using hl
    unfold evs at h
    have h := post_bind.mp h
    unfold tPars
    cases b with
    | false =>
      refine tE_in r h fun d env1 q v H1 a1 rv => ?_
      refine par_in hl' a1.re (post_bind.mp q) fun ds env2 q vs H2 as a2 re nas pk => ?_
      refine hk _ env2 q (v :: vs) H2 as (a1.trans a2) re (fun c hc => a1.tr c (nas c hc)) (.val ?_ pk)
      exact rv.old.keep ((a2.ko.keep a1.re).mono fun _ z => z.1) fun c z => ⟨⟨z.1.1, fun hc => z.2 (nas c hc)⟩, fun w => z.1.2 (a2.less c w)⟩
    | true =>
      refine tG_in r h fun d env1 q v H1 a1 rv fr => ?_
      have hs : isSeq d = true ∨ isSeq d = false := by cases isSeq d <;> simp
      rcases hs with hs | hs
      · obtain ⟨b, rfl, nb, re1, ro⟩ := fr hs
        refine par_in (P := fun a => P a ∧ a ≠ b) hl' re1 (post_bind.mp q) fun ds env2 q vs H2 as a2 re nas pk => ?_
        obtain ⟨ws, there, _⟩ := ro.there
        have hb : b ∉ as := fun hc => by
          rw [nas b hc] at there
          cases there
        have pe : ∀ a, PB (fun a => P a ∧ a ≠ b) as a → PB P (b :: as) a := fun a z => ⟨z.1.1, fun hc => by
          rcases List.mem_cons.mp hc with rfl | hc
          · exact z.1.2 rfl
          · exact z.2 hc⟩
        have nob : ¬ OwnA env1 σ b := fun w => by
          obtain ⟨xs, e, _⟩ := r.ownAt (a1.less b w)
          rw [nb] at e
          cases e
        refine hk _ env2 q (.ref b :: vs) H2 (b :: as) (a1.trans (a2.weaken fun _ z => z.1)) (re.weaken pe) (fun c hc => ?_) (.own ?_ hb (pk.mono fun c z => ⟨pe c z.1, z.2⟩))
        · rcases List.mem_cons.mp hc with rfl | hc
          · exact nb
          · exact a1.tr c (nas c hc)
        · refine ro.old.keep (fun xs z _ => a2.ko _ _ z nob) ((a2.ko.keep re1).mono fun _ z => z.1) fun c z => ⟨pe c ⟨z.1.1, fun hc => z.2 (nas c hc)⟩, fun w => z.1.2 (a2.less c w)⟩
      · refine par_in hl' a1.re (post_bind.mp q) fun ds env2 q vs H2 as a2 re nas pk => ?_
        exact hk _ env2 q (v :: vs) H2 as (a1.trans a2) re (fun c hc => a1.tr c (nas c hc)) (.no hs pk)
/-- the slots are stored in -/
def storeV (σ : L2.St) : List (Nat × Bool) → List V → L2.St
  | p :: ps, v :: vs => storeV (σ.set p.1 (some v)) ps vs
  | _, _ => σ
theorem store_par {br : Bool} {P : Pa} {H : Hp} : ∀ {is : List (Nat × Bool)} {es : Exs} {vs : List V} {ds : List D} {as : List Addr} {env env2 : Fram} {σ : L2.St}, RE K (PB P as) env σ H → ParOk K H (Stb (PB P as) env σ) (is.map (·.2)) vs ds as → putAll br is es ds env = some env2 →
    (∀ b ∈ as, ¬ OwnA env σ b ∧ P b) → RE K P env2 (storeV σ is vs) H ∧ (∀ a, OwnA env2 (storeV σ is vs) a → OwnA env σ a ∨ a ∈ as) ∧ (br = true → (storeV σ is vs)[0]? = σ[0]?)
  | [], es, vs, ds, as, env, env2, σ, r, pk, h, nas => by
    cases pk
    cases es <;> simp [putAll] at h
    subst h
    exact ⟨r.weaken fun _ z => z.1, fun _ z => .inl z, fun _ => rfl⟩
  | (i, o) :: is, es, vs, ds, as, env, env2, σ, r, pk, h, nas => by
    have h0 : ∀ {d : D} {ds' : List D}, ds = d :: ds' → ∃ e es', es = .cons e es' ∧ (i < env.length ∧ (br = true → i ≠ 0) ∧ (o = true → isSeq d = true)) ∧ putAll br is es' ds' (env.set i (if o then .own d else .val d)) = some env2 := fun {d ds'} e => by
      subst e
      cases es with
      | nil => simp [putAll] at h
      | cons e es' =>
        refine ⟨e, es', rfl, ?_⟩
        unfold putAll at h
        split at h
        · rename_i hc
          refine ⟨?_, h⟩
          simp only [Bool.and_eq_true, decide_eq_true_eq, Bool.not_eq_true', Bool.or_eq_true, Bool.and_eq_false_iff, beq_eq_false_iff_ne] at hc
          obtain ⟨⟨h1, h2⟩, h3⟩ := hc
          refine ⟨h1, fun z => ?_, fun z => ?_⟩
          · rcases h2 with h | h
            · rw [z] at h
              cases h
            · exact h
          · rcases h3 with h | h
            · rw [z] at h
              cases h
            · exact h.2
        · cases h
    cases pk with
    | val rv pk =>
      obtain ⟨e, es', rfl, ⟨h1, h2, _⟩, h⟩ := h0 rfl
      obtain ⟨q1, q2, q3⟩ := store_par (r.setVal rv) (pk.mono fun a z => ⟨z.1, fun w => z.2 w.val⟩) h fun b hb => ⟨fun w => (nas b hb).1 w.val, (nas b hb).2⟩
      exact ⟨q1, fun a z => (q2 a z).imp_left OwnA.val, fun z => (q3 z).trans (List.getElem?_set_ne (h2 z))⟩
    | no hs pk =>
      obtain ⟨e, es', rfl, ⟨_, _, h3⟩, _⟩ := h0 rfl
      rw [h3 rfl] at hs
      cases hs
    | own ro hb pk =>
      rename_i b _ _ _ as
      obtain ⟨e, es', rfl, ⟨h1, h2, _⟩, h⟩ := h0 rfl
      have hl : i < σ.length := by
        rw [r.len]
        exact h1
      have eqv : ∀ a, PB P (b :: as) a ↔ PB P as a ∧ a ≠ b := fun a => ⟨fun z => ⟨⟨z.1, fun w => z.2 (List.mem_cons_of_mem _ w)⟩, fun w => z.2 (by simp [w])⟩, fun z => ⟨z.1.1, fun w => by
        rcases List.mem_cons.mp w with w | w
        · exact z.2 w
        · exact z.1.2 w⟩⟩
      have nb := nas b (by simp)
      have r' : RE K (fun a => PB P as a ∧ a ≠ b) env σ H := r.weaken fun a z => (eqv a).mp z
      have ro' : ROwn K H (Stb (fun a => PB P as a ∧ a ≠ b) env σ) b _ := ro.mono fun a z => ⟨(eqv a).mp z.1, z.2⟩
      have r2 := r'.setOwn h1 nb.1 ⟨nb.2, hb⟩ ro'
      obtain ⟨q1, q2, q3⟩ := store_par r2 (pk.mono fun a z => ⟨((eqv a).mp z.1).1, fun w => (w.own hl).elim z.2 ((eqv a).mp z.1).2⟩) h fun c hc => ⟨fun w => (w.own hl).elim (nas c (by simp [hc])).1 fun z => hb (z ▸ hc), (nas c (by simp [hc])).2⟩
      refine ⟨q1, fun a z => ?_, fun z => (q3 z).trans (List.getElem?_set_ne (h2 z))⟩
      rcases q2 a z with w | w
      · rcases w.own hl with w | w
        · exact .inl w
        · exact .inr (by simp [w])
      · exact .inr (by simp [w])
end
section
variable {Ph : CallF} {wf : Nat} {br : Bool} {K : PySem.W.Frag} {P0 : Pa} {σ : L2.St} {H : Hp} {D : Ends}
theorem ent_par {is : List (Nat × Bool)} {es : Exs} (hl : is.length = exsLen es) (h : tSt Ph wf br K P0 (.par is es) D σ H) : tPars Ph K (is.map (·.2)) es σ H fun vs H1 => vs.length = is.length ∧ ∀ H2, (∀ a o, H1 a = some o → H2 a = some o) → D.nx (storeV σ is vs) H2 := by
  obtain ⟨env, r, h⟩ := h
  unfold evS at h
  refine par_in (by simpa using hl) r (post_bind.mp h) fun ds env1 q vs H1 as a1 re nas pk => ?_
  obtain ⟨env2, e2, q⟩ := post_opt.mp (post_bind.mp q)
  have len := pk.length
  refine ⟨by simpa using len, fun H2 grow => ?_⟩
  have nas' : ∀ b ∈ as, ¬ OwnA env1 σ b ∧ P0 b := fun b hb => ⟨fun w => (by
    obtain ⟨xs, e, _⟩ := r.ownAt (a1.less b w)
    rw [nas b hb] at e
    cases e), r.new b (nas b hb)⟩
  obtain ⟨q1, q2, q3⟩ := store_par (re.grow grow) (pk.grow grow) e2 nas'
  refine q _ H2 ⟨q1, fun a o e n => grow a o (a1.ko a o e n), fun a w => ?_, fun a z => a1.tr a (none_grow grow a z), q3⟩
  rcases q2 a w with w | w
  · exact .inl (a1.less a w)
  · exact .inr (nas a w)
end
end PV
set_option Elab.async false
set_option linter.all false
set_option maxRecDepth 100000
set_option maxHeartbeats 2000000
/-! PV, part P: the matcher of statements; soundness. -/
namespace PV
open PySem PySem.Spec PyProof.Rows L2
variable [Wd]
section
variable {env : PySem.Env} {a b c : Expr} {x y z : Str} {px py pz pt pt2 : Pos} {kt k2 : Nat}
def foldOk (xs : List Expr) : Bool := xs.all (foldedForSure 8) || !xs.all (constantsAlone 8)
theorem star_any {xs : List Expr} (h : ∀ e ∈ xs, notStar e = true) {f : Expr → Bool} (hf : ∀ e, notStar e = true → f e = false) : xs.any f = false := by
  rw [List.any_eq_false]
  intro e he
  rw [hf e (h e he)]
  exact Bool.false_ne_true
theorem sw2 (hk : env.blockKind = .function) (ha : notStar a = true) (hb : notStar b = true) (hf : foldOk [a, b] = true) :
    swappedStores [.Tuple [.Name x px, .Name y py] kt pt] (.Tuple [a, b] k2 pt2) env = pure none ∨ ((env.kindOf x = some .local ∧ env.kindOf y = some .local ∧ x ≠ y) ∧ swappedStores [.Tuple [.Name x px, .Name y py] kt pt] (.Tuple [a, b] k2 pt2) env = pure (some [x, y])) := by
  unfold swappedStores
  simp only [hk, List.length_cons, List.length_nil]
  rw [if_neg (by decide)]
  rw [if_neg (by
    rw [star_any (xs := [a, b]) (fun e he => by
      rcases List.mem_cons.mp he with rfl | he
      · exact ha
      · rw [List.mem_singleton.mp he]
        exact hb) (fun e he => by cases e <;> first | rfl | cases he)]
    exact Bool.false_ne_true)]
  have hx : (Option.map (fun e : Expr => e.pos.line) [Expr.Name x px, Expr.Name y py].head?).getD 0 = px.line := rfl
  simp only [hx, List.filterMap_cons, List.filterMap_nil]
  cases h1 : (env.kindOf x == some NameKind.local && px.line == px.line) with
  | false =>
    left
    cases h2 : (env.kindOf y == some NameKind.local && py.line == px.line) <;> simp
  | true =>
    cases h2 : (env.kindOf y == some NameKind.local && py.line == px.line) with
    | false =>
      left
      simp
    | true =>
      simp only [Bool.and_eq_true, beq_iff_eq] at h1 h2
      by_cases e : x = y
      · left
        subst e
        have hd : [x, x].eraseDups = [x] := by simp [List.eraseDups_cons]
        simp [hd]
      · simp only [if_true]
        unfold foldOk at hf
        cases h3 : [a, b].all (foldedForSure 8) with
        | true =>
          left
          split <;> rfl
        | false =>
          right
          refine ⟨⟨h1.1, h2.1, e⟩, ?_⟩
          rw [h3, Bool.false_or, Bool.not_eq_true'] at hf
          rw [hf]
          have hd : [x, y].eraseDups = [x, y] := by
            have e' : y ≠ x := fun z => e z.symm
            simp [List.eraseDups_cons, e']
          simp [hd]
theorem sw3 (hk : env.blockKind = .function) (ha : notStar a = true) (hb : notStar b = true) (hc : notStar c = true) (hf : foldOk [a, b, c] = true) :
    swappedStores [.Tuple [.Name x px, .Name y py, .Name z pz] kt pt] (.Tuple [a, b, c] k2 pt2) env = pure none ∨ ((env.kindOf x = some .local ∧ env.kindOf y = some .local ∧ env.kindOf z = some .local ∧ x ≠ y ∧ x ≠ z ∧ y ≠ z) ∧ swappedStores [.Tuple [.Name x px, .Name y py, .Name z pz] kt pt] (.Tuple [a, b, c] k2 pt2) env = pure (some [x, y, z])) := by
  unfold swappedStores
  simp only [hk, List.length_cons, List.length_nil]
  rw [if_neg (by decide)]
  rw [if_neg (by
    rw [star_any (xs := [a, b, c]) (fun e he => by
      rcases List.mem_cons.mp he with rfl | he
      · exact ha
      · rcases List.mem_cons.mp he with rfl | he
        · exact hb
        · rw [List.mem_singleton.mp he]
          exact hc) (fun e he => by cases e <;> first | rfl | cases he)]
    exact Bool.false_ne_true)]
  have hx : (Option.map (fun e : Expr => e.pos.line) [Expr.Name x px, Expr.Name y py, Expr.Name z pz].head?).getD 0 = px.line := rfl
  simp only [hx, List.filterMap_cons, List.filterMap_nil]
  cases h1 : (env.kindOf x == some NameKind.local && px.line == px.line) with
  | false =>
    left
    cases h2 : (env.kindOf y == some NameKind.local && py.line == px.line) <;> cases h3 : (env.kindOf z == some NameKind.local && pz.line == px.line) <;> simp
  | true =>
    cases h2 : (env.kindOf y == some NameKind.local && py.line == px.line) with
    | false =>
      left
      cases h3 : (env.kindOf z == some NameKind.local && pz.line == px.line) <;> simp
    | true =>
      cases h3 : (env.kindOf z == some NameKind.local && pz.line == px.line) with
      | false =>
        left
        simp
      | true =>
        simp only [Bool.and_eq_true, beq_iff_eq] at h1 h2 h3
        by_cases e : x = y
        · left
          subst e
          by_cases e2 : z = x
          · have hd : [x, x, z].eraseDups.length ≠ 3 := by simp [List.eraseDups_cons, e2]
            simp [hd]
          · have hd : [x, x, z].eraseDups.length ≠ 3 := by simp [List.eraseDups_cons, e2]
            simp [hd]
        · have e' : y ≠ x := fun w => e w.symm
          by_cases e2 : z = x
          · left
            have hd : [x, y, z].eraseDups.length ≠ 3 := by simp [List.eraseDups_cons, e2, e']
            simp [hd]
          · by_cases e3 : z = y
            · left
              have hd : [x, y, z].eraseDups.length ≠ 3 := by simp [List.eraseDups_cons, e3, e']
              simp [hd]
            · simp only [if_true]
              unfold foldOk at hf
              have hd : [x, y, z].eraseDups = [x, y, z] := by simp [List.eraseDups_cons, e', e2, e3]
              cases h4 : [a, b, c].all (foldedForSure 8) with
              | true =>
                left
                split <;> rfl
              | false =>
                right
                refine ⟨⟨h1.1, h2.1, h3.1, e, fun w => e2 w.symm, fun w => e3 w.symm⟩, ?_⟩
                rw [h4, Bool.false_or, Bool.not_eq_true'] at hf
                rw [hf]
                simp [hd]
theorem sw_other {ts xs : List Expr} (h2 : ts.length ≠ 2) (h3 : ts.length ≠ 3) : swappedStores [.Tuple ts kt pt] (.Tuple xs k2 pt2) env = pure none := by
  unfold swappedStores
  have e : (ts.length == 2 || ts.length == 3) = false := by simp [h2, h3]
  simp [e]
end
end PV
set_option Elab.async false
set_option linter.all false
set_option maxRecDepth 100000
set_option maxHeartbeats 2000000
/-! PV, part Q: the matcher of statements; soundness. -/
namespace PV
open PySem PySem.Spec PyProof.Rows L2
variable [Wd]
/-! views -/
def vAsg : Stmt → Option (Expr × Expr)
  | .Assign [t] x _ => some (t, x)
  | _ => none
def vExprS : Stmt → Option Expr
  | .Expr x _ => some x
  | _ => none
def vRet : Stmt → Option (Option Expr)
  | .Return x _ => some x
  | _ => none
def vIfS : Stmt → Option (Expr × List Stmt × List Stmt)
  | .If c a b _ => some (c, a, b)
  | _ => none
def vWhile : Stmt → Option (Expr × List Stmt)
  | .While c a [] _ => some (c, a)
  | _ => none
def vFor : Stmt → Option (Expr × Expr × List Stmt)
  | .For t i b [] _ => some (t, i, b)
  | _ => none
def vMeth : Expr → Option (Str × Str × Expr)
  | .Call (.Attribute (.Name n _) m ap) [y] [] p => if ap.endLine == p.line then some (n, m, y) else none
  | _ => none
theorem vAsg_s {s : Stmt} {t x : Expr} (h : vAsg s = some (t, x)) : ∃ p, s = .Assign [t] x p := by
  unfold vAsg at h
  split at h
  · cases h
    exact ⟨_, rfl⟩
  · cases h
theorem vExprS_s {s : Stmt} {x : Expr} (h : vExprS s = some x) : ∃ p, s = .Expr x p := by
  unfold vExprS at h
  split at h
  · cases h
    exact ⟨_, rfl⟩
  · cases h
theorem vRet_s {s : Stmt} {x : Option Expr} (h : vRet s = some x) : ∃ p, s = .Return x p := by
  unfold vRet at h
  split at h
  · cases h
    exact ⟨_, rfl⟩
  · cases h
theorem vIfS_s {s : Stmt} {c : Expr} {a b : List Stmt} (h : vIfS s = some (c, a, b)) : ∃ p, s = .If c a b p := by
  unfold vIfS at h
  split at h
  · cases h
    exact ⟨_, rfl⟩
  · cases h
theorem vWhile_s {s : Stmt} {c : Expr} {a : List Stmt} (h : vWhile s = some (c, a)) : ∃ p, s = .While c a [] p := by
  unfold vWhile at h
  split at h
  · cases h
    exact ⟨_, rfl⟩
  · cases h
theorem vFor_s {s : Stmt} {t i : Expr} {a : List Stmt} (h : vFor s = some (t, i, a)) : ∃ p, s = .For t i a [] p := by
  unfold vFor at h
  split at h
  · cases h
    exact ⟨_, rfl⟩
  · cases h
theorem vMeth_s {e y : Expr} {n m : Str} (h : vMeth e = some (n, m, y)) : ∃ p1 ap p, e = .Call (.Attribute (.Name n p1) m ap) [y] [] p ∧ (ap.endLine == p.line) = true := by
  unfold vMeth at h
  split at h
  · split at h
    · rename_i hc
      cases h
      exact ⟨_, _, _, rfl, hc⟩
    · cases h
  · cases h
def notComp : Expr → Bool
  | .ListComp _ _ _ _ => false
  | .SetComp _ _ _ _ => false
  | .DictComp _ _ _ _ _ => false
  | _ => true
def isCompE : Exp → Bool
  | .comp _ _ _ _ _ => true
  | .dcomp _ _ _ _ => true
  | _ => false
def notTup : Expr → Bool
  | .Tuple _ _ _ => false
  | _ => true
def isVar : Exp → Bool
  | .var _ => true
  | _ => false
variable (M : Mt) (br : Bool)
def mNm (sc : Scope) (i : Nat) (x : Expr) : Bool := see (vName x) fun n => decide (M.N[i]? = some n) && locB sc sc n && (!br || decide (i ≠ 0))
def mVr (sc : Scope) (i : Nat) (x : Expr) : Bool := see (vName x) fun n => decide (M.N[i]? = some n) && visB sc n && !sayD n
def mPn (sc : Scope) : List (Nat × Bool) → List Expr → Bool
  | [], xs => xs.isEmpty
  | p :: ps, xs => see xs.head? fun x => mNm M br sc p.1 x && mPn sc ps xs.tail
def mPe : List (Nat × Bool) → Exs → Bool
  | [], _ => true
  | _ :: _, .nil => false
  | p :: ps, .cons e es => (!p.2 || makes e) && mPe ps es
mutual
def mS (sc : Scope) : Stm → Stmt → Bool
  | .expr e, s => see (vExprS s) fun x => mE M sc sc e x && notComp x
  | .set i e, s => see (vAsg s) fun p => mNm M br sc i p.1 && mE M sc sc e p.2 && (isCompE e || notComp p.2)
  | .own i e, s => see (vAsg s) fun p => mNm M br sc i p.1 && mE M sc sc e p.2 && (isCompE e || notComp p.2) && makes e
  | .unp ts e, s => see (vAsg s) fun p => mG M sc sc (.tup ts) p.1 && mE M sc sc e p.2 && notTup p.2 && (!br || decide (0 ∉ tgsSlots ts))
  | .par is es, s => see (vAsg s) fun p => see (vTup p.1) fun ts => see (vTup p.2) fun xs => mPn M br sc is ts && mEs M sc sc es xs && mPe is es && decide (is.length = exsLen es) && decide (exsLen es ≤ 1000) && foldOk xs
  | .setIx i ix e, s => see (vAsg s) fun p => see (vIdx p.1) fun q => mVr M sc i q.1 && mE M sc sc ix q.2 && notSlice q.2 && mE M sc sc e p.2
  | .jar i ix j e, s => see (vAsg s) fun p => see (vTup p.1) fun ts => see ts.head? fun t => see ts.tail.head? fun u => see (vIdx t) fun q => ts.tail.tail.isEmpty && mVr M sc i q.1 && mE M sc sc ix q.2 && notSlice q.2 && mNm M br sc j u && mE M sc sc e p.2 && notTup p.2
  | .append i e, s => see (vExprS s) fun x => see (vMeth x) fun p => decide (p.2.1 = "append") && mVr M sc i (.Name p.1 ⟨0, 0, 0, 0⟩) && mE M sc sc e p.2.2 && notStar p.2.2
  | .extend i e, s => see (vExprS s) fun x => see (vMeth x) fun p => decide (p.2.1 = "extend") && mVr M sc i (.Name p.1 ⟨0, 0, 0, 0⟩) && mE M sc sc e p.2.2 && notStar p.2.2 && makes e
  | .ret e, s => see (vRet s) fun x => see x fun x => mE M sc sc e x
  | .retN, s => see (vRet s) fun x => x.isNone
  | .iff c a b, s => see (vIfS s) fun p => mE M sc sc c p.1 && mSs sc a p.2.1 && mSs sc b p.2.2
  | .whil c b, s => see (vWhile s) fun p => mE M sc sc c p.1 && mSs sc b p.2
  | .forr tg it b, s => see (vFor s) fun p => mG M sc sc tg p.1 && mI M sc sc it p.2.1 && (match it with
      | .zip _ _ => isTup p.1
      | .enum _ => isTup p.1
      | _ => true) && notSet p.2.1 && mSs sc b p.2.2 && (!br || decide (0 ∉ tgSlots tg))
  | .brk, s => match s with
    | .Break _ => true
    | _ => false
  | .cont, s => match s with
    | .Continue _ => true
    | _ => false
  | .pass, s => match s with
    | .Pass _ => true
    | _ => false
  | .never, _ => true
def mSs (sc : Scope) : Sts → List Stmt → Bool
  | .nil, xs => xs.isEmpty
  | .cons s ss, xs => see xs.head? fun x => mS sc s x && mSs sc ss xs.tail
end
/-- what is known of the frame of a def -/
structure GS (M : Mt) (Ph : CallF) (X : Cx) (sc : Scope) : Prop extends GX M Ph X sc sc where
  bk : X.env.blockKind = .function
  po : PassesOwn (model X.prog X.w) X.A X.env X.xe
theorem PS.imp {X : Cx} {s : Stmt} {t t' : TS} (h : PS X s t) (m : ∀ D σ H, t' D σ H → t D σ H) : PS X s t' := ⟨fun pins s σ H D I q => h.run pins s σ H D I (m D σ H q)⟩
theorem PSs.imp {X : Cx} {s : List Stmt} {t t' : TS} (h : PSs X s t) (m : ∀ D σ H, t' D σ H → t D σ H) : PSs X s t' := ⟨fun pins s σ H D I q => h.run pins s σ H D I (m D σ H q)⟩
section
variable {M : Mt} {br : Bool} {Ph : CallF} {X : Cx} {sc : Scope} {wf : Nat} {P0 : Pa}
theorem mNm_s {i : Nat} {x : Expr} (G : GS M Ph X sc) (h : mNm M br sc i x = true) : ∃ n p, x = .Name n p ∧ X.N[i]? = some n ∧ L2.Loc X.env.scope n ∧ (X.fn n = true ∨ X.env.scope.names.lookup n = some .local) ∧ (br = true → i ≠ 0) := by
  obtain ⟨n, h1, h2⟩ := see_t h
  obtain ⟨p, rfl⟩ := vName_s h1
  simp only [Bool.and_eq_true, decide_eq_true_eq, Bool.or_eq_true, Bool.not_eq_true'] at h2
  obtain ⟨⟨h2, h3⟩, h4⟩ := h2
  obtain ⟨l1, l2⟩ := G.toGX.loc h3
  refine ⟨n, p, rfl, by rw [G.nm]; exact h2, l1, l2, fun z => ?_⟩
  rcases h4 with h4 | h4
  · rw [z] at h4
    cases h4
  · exact h4
theorem mVr_s {i : Nat} {x : Expr} (G : GS M Ph X sc) (h : mVr M sc i x = true) : ∃ n p, x = .Name n p ∧ ∀ p, PE X (.Name n p) (tVar i) := by
  obtain ⟨n, h1, h2⟩ := see_t h
  obtain ⟨p, rfl⟩ := vName_s h1
  simp only [Bool.and_eq_true, decide_eq_true_eq] at h2
  obtain ⟨⟨hn, hv⟩, hs⟩ := h2
  obtain ⟨s1, s2, s3⟩ := sayD_f hs
  exact ⟨n, p, rfl, fun p => pe_var (by rw [G.nm]; exact hn) (G.toGX.vis hv) s1 s2⟩
theorem notComp_sw {x : Expr} {t : Option Expr} {l : Nat} {env : PySem.Env} (h : notComp x = true) : swapsWith x t l env = pure false := by
  cases x <;> first | rfl | cases h
/-- name = {..} on one line, the name a local -/
theorem ps_setDc {i : Nat} {x : Str} {px : Pos} {kx vx tg iter : Expr} {scope : Scope} {own : List (Str × Nat)} {pos pos2 : Pos} {wi : TI} {g : TG} {tk tv : TE} (calm : X.calm = true) (nd : X.N.Nodup) (rm : RoomX X) (hx : X.N[i]? = some x) (loc : X.env.scope.names.lookup x = some .local)
    (sw : swapsWith (.DictComp kx vx [⟨tg, iter, [], 0⟩] scope pos) (some (.Name x px)) pos2.line X.env = pure true) (pit : PI X tg iter wi) (bl : BlkOk X.N X.env.scope scope own)
    (pgs : ∀ (t : Shared) (B : Hp) (Ca : Addr) (cl : List (Str × Addr)) (fp : List Addr), PG (X.blk t B scope (compEnvC scope cl Ca X.env) fp) tg g)
    (pks : ∀ (t : Shared) (B : Hp) (Ca : Addr) (cl : List (Str × Addr)) (fp : List Addr), PE (X.blk t B scope (compEnvC scope cl Ca X.env) fp) kx tk)
    (pvs : ∀ (t : Shared) (B : Hp) (Ca : Addr) (cl : List (Str × Addr)) (fp : List Addr), PE (X.blk t B scope (compEnvC scope cl Ca X.env) fp) vx tv) (fold : ∀ z, foldedSetIterable iter X.env z = pure z) :
    PS X (.Assign [.Name x px] (.DictComp kx vx [⟨tg, iter, [], 0⟩] scope pos) pos2) (tAsg (tDcR X.K wi g tk tv (own.map (·.2))) (gName i)) := by
  refine ⟨fun pins s0 σ G D J wish => ?_⟩
  rw [exec_Assign_Name_used _ _ _ _ sw]
  refine wpAny_bind (wpAny_standAt (wpAny_bind ?_))
  show wpAny _ X.A (do let _ ← comprehension (.DictComp kx vx [⟨tg, iter, [], 0⟩] scope pos) scope X.env (firstIterPos [⟨tg, iter, [], 0⟩] pos) newDict false (eval iter X.env) (some (assign (.Name x px) X.env))) _ _ s0
  replace wish : tDcR X.K wi g tk tv (own.map (·.2)) σ G (fun y G1 => gName i y σ G1 D.nx) := wish
  refine wpAny_bind (thn (dcR (Qf := fun _ t => SP X pins D .next t) calm nd rm J pit bl pgs pks pvs fold wish fun Z C t m G1 J1 go ns free => ?_) fun _ _ done => wpAny_pure (wpAny_pure done))
  show wpAny _ _ (assign (.Name x px) X.env (.ref Z)) _ _ _
  refine wpAny_assign_Name (store_ok2 (v := V.ref Z) J1 nd hx (.inl loc) rfl (fun t2 J2 ⟨b, same, hb⟩ => ?_) (.inr loc))
  obtain ⟨f0, f1, f2, f3, f4, f5⟩ := free
  have apart : C ≠ b := hb.elim (fun z => z.symm ▸ f1) fun z e => f4 x b z e.symm
  exact ⟨m, ns.sameBut same apart, fun h3 same3 => ⟨_, G1, J2.turned (t' := t2.toks) (fun c o hc e => (same3.2 c hc).trans e) f0 f1 f3 f4 f5, go⟩⟩
/-- what a dict comprehension asks of its parts -/
theorem se_dcomp {own : List (Str × Nat)} {i j : Nat} {a : Exp} {x : Expr} (G : GX M Ph X sc fs) (h : mE M sc fs (.dcomp own i j a) x = true) (ia : ∀ y, mE M sc fs a y = true → SE Ph W0 X a y) :
    ∃ kx vx tt ii scope p, x = .DictComp kx vx [⟨tt, ii, [], 0⟩] scope p ∧ PI X tt ii (iTup X.K (tE Ph X.K W0 a)) ∧ BlkOk X.N X.env.scope scope own ∧
      (∀ (s : Shared) (H : Hp) (C : Addr) (cl : List (Str × Addr)) (fp : List Addr), PG (X.blk s H scope (compEnvC scope cl C X.env) fp) tt (gTup X.K 2 (gCons (gName i) (gCons (gName j) gNil)))) ∧
      (∀ (s : Shared) (H : Hp) (C : Addr) (cl : List (Str × Addr)) (fp : List Addr), PE (X.blk s H scope (compEnvC scope cl C X.env) fp) kx (tVar i)) ∧
      (∀ (s : Shared) (H : Hp) (C : Addr) (cl : List (Str × Addr)) (fp : List Addr), PE (X.blk s H scope (compEnvC scope cl C X.env) fp) vx (tVar j)) ∧ (∀ x, foldedSetIterable ii X.env x = pure x) ∧ i ≠ j ∧ own.map (·.2) = [i, j] := by
  unfold mE at h
  obtain ⟨⟨k, v, it, scope, kk⟩, h1, h2⟩ := see_t h
  obtain ⟨p1, p2, p3, p4, p5, p6, rfl⟩ := vDictC_s h1
  simp only [Bool.and_eq_true, decide_eq_true_eq] at h2
  obtain ⟨⟨⟨⟨⟨⟨⟨⟨⟨⟨ho, hij⟩, ni⟩, nj⟩, li⟩, lj⟩, sk⟩, sv⟩, hs⟩, hb⟩, ha⟩ := h2
  have bo : BlkOk X.N X.env.scope scope own := by
    rw [G.nm, G.sc]
    exact blkOk_by hb
  obtain ⟨a1, a2, a3⟩ := sayD_f sk
  obtain ⟨b1, b2, b3⟩ := sayD_f sv
  have blk := fun (s : Shared) (H : Hp) (C : Addr) (cl : List (Str × Addr)) (fp : List Addr) => G.blk (s := s) (H := H) (scope := scope) (C := C) (cl := cl) (fp := fp)
  refine ⟨_, _, _, _, scope, p6, rfl, pi_tup (ia _ ha).e, bo, fun s H C cl fp => ?_, fun s H C cl fp => ?_, fun s H C cl fp => ?_, notSet_f hs, hij, ho⟩
  · have G2 := blk s H C cl fp
    have q1 := G2.loc li
    have q2 := G2.loc lj
    exact pg_tup (n := 2) G2.calm (pgs_cons (pg_name (by rw [G2.nm]; exact G2.nd) (by rw [G2.nm]; exact ni) q1.1 q1.2) (pgs_cons (pg_name (by rw [G2.nm]; exact G2.nd) (by rw [G2.nm]; exact nj) q2.1 q2.2) pgs_nil (by rfl)) (by rfl)) (by rfl) (by rfl)
  · have G2 := blk s H C cl fp
    exact pe_var (by rw [G2.nm]; exact ni) (G2.vis (loc_vis li)) a1 a2
  · have G2 := blk s H C cl fp
    exact pe_var (by rw [G2.nm]; exact nj) (G2.vis (loc_vis lj)) b1 b2
/-- name = value, on one line with a comprehension or not -/
theorem ps_name {i : Nat} {e : Exp} {x : Expr} {n : Str} {pn pos : Pos} {t : TE} (G : GS M Ph X sc) (hx : mE M sc sc e x = true) (hc : (isCompE e || notComp x) = true) (hi : X.N[i]? = some n) (hl : L2.Loc X.env.scope n) (hf : X.fn n = true ∨ X.env.scope.names.lookup n = some .local)
    (ht : PE X x t) (hm : ∀ σ H Q, t σ H Q → tG Ph X.K W0 e σ H Q) : PS X (.Assign [.Name n pn] x pos) (tAsg t (gName i)) := by
  have hN : X.N.Nodup := by
    rw [G.nm]
    exact G.nd
  have plain : swapsWith x (some (.Name n pn)) pos.line X.env = pure false → PS X (.Assign [.Name n pn] x pos) (tAsg t (gName i)) := fun hs => ps_set hN hi hl ht hs hf
  cases hcx : notComp x with
  | true => exact plain (notComp_sw hcx)
  | false =>
    rw [hcx, Bool.or_false] at hc
    cases e with
    | comp elt tg it cs own =>
      obtain ⟨el, tt, ii, ifs, scope, p, rfl, _, pi, bo, pg, pt, pe, hs, hp, hv⟩ := se_comp (W := W0) G.toGX hx (fun tg y hy ht => mI_s hW0 it G.toGX hy ht) (fun {X sc fs y} G h => mE_s hW0 elt G h) (fun {X sc fs y} G h => mT_s hW0 cs G h)
      have sw : swapsWith (.ListComp el [⟨tt, ii, ifs, 0⟩] scope p) (some (.Name n pn)) pos.line X.env = pure (X.env.blockKind == .function && X.env.kindOf n == some .local && pn.line == p.line && !(scope.names.any fun (m, k) => m == n && (k == .local || k == .cell))) := rfl
      cases hb : (X.env.blockKind == .function && X.env.kindOf n == some .local && pn.line == p.line && !(scope.names.any fun (m, k) => m == n && (k == .local || k == .cell))) with
      | false => exact plain (by rw [sw, hb])
      | true =>
        have hy : X.env.scope.names.lookup n = some .local := by
          simp only [Bool.and_eq_true, beq_iff_eq] at hb
          exact hb.1.1.2
        refine PS.imp (ps_setLc G.calm hN hi hy (by rw [sw, hb]) pi bo pg pt pe hs) fun D σ H h => ?_
        exact ent_lc hv hp (hm _ _ _ h)
    | dcomp own u w a =>
      obtain ⟨kx, vx, tt, ii, scope, p, rfl, pi, bo, pg, pk, pv, hs, hij, ho⟩ := se_dcomp G.toGX hx fun y => mE_s hW0 a G.toGX
      have sw : swapsWith (.DictComp kx vx [⟨tt, ii, [], 0⟩] scope p) (some (.Name n pn)) pos.line X.env = pure (X.env.blockKind == .function && X.env.kindOf n == some .local && pn.line == p.line && !(scope.names.any fun (m, k) => m == n && (k == .local || k == .cell))) := rfl
      cases hb : (X.env.blockKind == .function && X.env.kindOf n == some .local && pn.line == p.line && !(scope.names.any fun (m, k) => m == n && (k == .local || k == .cell))) with
      | false => exact plain (by rw [sw, hb])
      | true =>
        have hy : X.env.scope.names.lookup n = some .local := by
          simp only [Bool.and_eq_true, beq_iff_eq] at hb
          exact hb.1.1.2
        refine PS.imp (ps_setDc G.calm hN G.room hi hy (by rw [sw, hb]) pi bo pg pk pv hs) fun D σ H h => ?_
        exact ent_dcomp hij ho (hm _ _ _ h)
    | _ => cases hc
theorem sel_pars : ∀ {is : List (Nat × Bool)} {es : Exs} {xs : List Expr}, SEL Ph W0 X es xs → mPe is es = true → is.length = exsLen es → PA X xs (tPars Ph X.K (is.map (·.2)) es)
  | [], es, xs, s, h, hl => by
    cases s with
    | nil => exact pa_nil
    | cons _ _ _ => simp [exsLen] at hl
  | p :: ps, es, xs, s, h, hl => by
    cases s with
    | nil => cases h
    | cons s n r =>
      unfold mPe at h
      simp only [Bool.and_eq_true, Bool.or_eq_true, Bool.not_eq_true'] at h
      have rest := sel_pars r h.2 (by simpa [exsLen] using hl)
      unfold tPars
      refine pa_cons ?_ rest (star_f n)
      show PE X _ (if p.2 = true then _ else _)
      cases hp : p.2 with
      | false =>
        rw [if_neg Bool.false_ne_true]
        exact s.e
      | true =>
        rw [if_pos rfl]
        have hm := h.1
        rw [hp] at hm
        rcases hm with hm | hm
        · cases hm
        · exact s.g hm
def gNames : List (Nat × Bool) → TGs
  | [] => gNil
  | p :: ps => gCons (gName p.1) (gNames ps)
theorem gNames_in : ∀ {is : List (Nat × Bool)} {vs : List V} {σ : L2.St} {H : Hp} {Q : L2.St → Hp → Prop}, vs.length = is.length → Q (storeV σ is vs) H → gNames is vs σ H Q
  | [], vs, σ, H, Q, hl, q => by
    have e : vs = [] := by simpa using hl
    subst e
    exact ⟨rfl, q⟩
  | p :: ps, [], σ, H, Q, hl, q => by simp at hl
  | p :: ps, v :: vs, σ, H, Q, hl, q => ⟨v, vs, rfl, gNames_in (by simpa using hl) q⟩
theorem mPn_s (G : GS M Ph X sc) : ∀ {is : List (Nat × Bool)} {ts : List Expr}, mPn M br sc is ts = true → PGs X ts (gNames is) ∧ (assignEach ts X.env).length = is.length ∧ (assignEach ts X.env).findIdx? (·.1) = none ∧ ts.length = is.length
  | [], ts, h => by
    unfold mPn at h
    have e : ts = [] := by simpa using h
    subst e
    exact ⟨pgs_nil, rfl, rfl, rfl⟩
  | p :: ps, ts, h => by
    unfold mPn at h
    obtain ⟨x, h1, h2⟩ := see_t h
    cases ts with
    | nil => cases h1
    | cons y ys =>
      cases h1
      simp only [Bool.and_eq_true, List.tail_cons] at h2
      obtain ⟨n, q, rfl, e1, e2, e3, _⟩ := mNm_s G h2.1
      obtain ⟨r1, r2, r3, r4⟩ := mPn_s G h2.2
      refine ⟨pgs_cons (pg_name (by rw [G.nm]; exact G.nd) e1 e2 e3) r1 (by rfl), ?_, ?_, by simp [r4]⟩
      · show (_ :: assignEach ys X.env).length = _
        rw [List.length_cons, List.length_cons, r2]
      · show List.findIdx? (·.1) ((false, _) :: assignEach ys X.env) = none
        rw [List.findIdx?_cons, r3]
        rfl
theorem SEL.noStar : ∀ {es : Exs} {xs : List Expr}, SEL Ph W0 X es xs → ∀ e ∈ xs, notStar e = true
  | _, _, .nil, e, he => by cases he
  | _, _, .cons s n r, e, he => by
    rcases List.mem_cons.mp he with rfl | he
    · exact n
    · exact SEL.noStar r e he
theorem pars_mono {K : PySem.W.Frag} : ∀ {bs : List Bool} {es : Exs} {σ : L2.St} {H : Hp} {Q Q' : List V → Hp → Prop}, tPars Ph K bs es σ H Q → (∀ vs H, Q vs H → Q' vs H) → tPars Ph K bs es σ H Q'
  | [], es, σ, H, Q, Q', h, m => m _ _ h
  | b :: bs, .nil, σ, H, Q, Q', h, m => m _ _ h
  | b :: bs, .cons e es, σ, H, Q, Q', h, m => by
    unfold tPars at h ⊢
    have step : ∀ v H1, (tPars Ph K bs es σ H1 fun vs H2 => Q (v :: vs) H2) → tPars Ph K bs es σ H1 fun vs H2 => Q' (v :: vs) H2 := fun v H1 z => pars_mono z fun vs H2 w => m _ _ w
    cases b with
    | true =>
      obtain ⟨P, env, r, h⟩ := h
      exact ⟨P, env, r, h.imp (fun p q v H' a b c => step v H' (q v H' a b c)) fun _ _ x => x⟩
    | false =>
      obtain ⟨P, env, r, h⟩ := h
      exact ⟨P, env, r, h.imp (fun p q v H' a b => step v H' (q v H' a b)) fun _ _ x => x⟩
theorem ps_parM {is : List (Nat × Bool)} {es : Exs} {s : Stmt} (G : GS M Ph X sc) (h : mS M br sc (.par is es) s = true) : PS X s (tSt Ph wf br X.K P0 (.par is es)) := by
  unfold mS at h
  obtain ⟨⟨t, x⟩, h1, h2⟩ := see_t h
  obtain ⟨pos, rfl⟩ := vAsg_s h1
  obtain ⟨ts, h3, h2⟩ := see_t h2
  obtain ⟨xs, h4, h2⟩ := see_t h2
  have e3 : ∃ kt pt, t = .Tuple ts kt pt := vTup_s h3
  have e4 : ∃ kt pt, x = .Tuple xs kt pt := vTup_s h4
  have h5 : (mPn M br sc is ts && mEs M sc sc es xs && mPe is es && decide (is.length = exsLen es) && decide (exsLen es ≤ 1000) && foldOk xs) = true := h2
  clear h1 h2 h3 h4 h
  obtain ⟨kt, pt, rfl⟩ := e3
  obtain ⟨k2, pt2, rfl⟩ := e4
  simp only [Bool.and_eq_true, decide_eq_true_eq] at h5
  obtain ⟨⟨⟨⟨⟨hn, he⟩, hp⟩, hl⟩, hz⟩, hf⟩ := h5
  have sl := mEs_s hW0 es G.toGX he
  have pa := sel_pars sl hp hl
  obtain ⟨pg, g2, g3, g4⟩ := mPn_s G hn
  have hN : X.N.Nodup := by
    rw [G.nm]
    exact G.nd
  have gen : swappedStores [.Tuple ts kt pt] (.Tuple xs k2 pt2) X.env = pure none → PS X (.Assign [.Tuple ts kt pt] (.Tuple xs k2 pt2) pos) (tSt Ph wf br X.K P0 (.par is es)) := fun hw => by
    refine PS.imp (ps_asg (pe_tup pa) (pg_tup G.calm pg g2 g3) (by rfl) hw (by rfl)) fun D σ H h => ?_
    have q := ent_par (K := X.K) hl h
    refine pars_mono q fun vs H1 q => ⟨line_of (by rw [q.1, hl]; exact hz), fun p np => ?_⟩
    exact ⟨p, vs, rfl, .inl (.inl upd_same), q.1, gNames_in q.1 (q.2 _ (upd_all np))⟩
  by_cases l2 : ts.length = 2
  · obtain ⟨p, q, rfl⟩ : ∃ p q, is = [p, q] := by
      have g5 : is.length = 2 := by omega
      clear pa pg g2 g3 g4 hl hn hp gen
      rcases is with _ | ⟨p, _ | ⟨q, _ | ⟨r, is⟩⟩⟩ <;> simp at g5 <;> exact ⟨_, _, rfl⟩
    obtain ⟨a, b, rfl⟩ : ∃ a b, xs = [a, b] := by
      have := sl.length
      rcases xs with _ | ⟨a, _ | ⟨b, _ | ⟨c, xs⟩⟩⟩ <;> simp [← hl] at this <;> exact ⟨_, _, rfl⟩
    obtain ⟨t1, t2, rfl⟩ : ∃ a b, ts = [a, b] := by
      rcases ts with _ | ⟨a, _ | ⟨b, _ | ⟨c, xs⟩⟩⟩ <;> simp at l2 <;> exact ⟨_, _, rfl⟩
    unfold mPn at hn
    obtain ⟨u, hu, hn⟩ := see_t hn
    cases hu
    simp only [Bool.and_eq_true, List.tail_cons] at hn
    obtain ⟨m1, hn⟩ := hn
    unfold mPn at hn
    obtain ⟨u, hu, hn⟩ := see_t hn
    cases hu
    simp only [Bool.and_eq_true, List.tail_cons] at hn
    obtain ⟨m2, hn⟩ := hn
    obtain ⟨n1, q1, rfl, i1, _, _, _⟩ := mNm_s G m1
    obtain ⟨n2, q2, rfl, i2, _, _, _⟩ := mNm_s G m2
    have ns := sl.noStar
    rcases sw2 (x := n1) (y := n2) (px := q1) (py := q2) (kt := kt) (pt := pt) (k2 := k2) (pt2 := pt2) G.bk (ns a (by simp)) (ns b (by simp)) hf with w | ⟨⟨k1, k2', ne⟩, w⟩
    · exact gen w
    · refine PS.imp (ps_par G.calm hN i1 i2 (fun z => ne (by
        rw [z] at i1
        rw [i1] at i2
        cases i2
        rfl)) k1 k2' pa w (by rfl)) fun D σ H h => ?_
      refine pars_mono (ent_par (K := X.K) hl h) fun vs H1 q => ?_
      obtain ⟨v, w', rfl⟩ : ∃ a b, vs = [a, b] := by
        have := q.1
        rcases vs with _ | ⟨a, _ | ⟨b, _ | ⟨c, xs⟩⟩⟩ <;> simp at this <;> exact ⟨_, _, rfl⟩
      exact ⟨v, w', rfl, q.2 H1 fun _ _ z => z⟩
  · by_cases l3 : ts.length = 3
    · obtain ⟨p, q, r, rfl⟩ : ∃ p q r, is = [p, q, r] := by
        have g5 : is.length = 3 := by omega
        clear pa pg g2 g3 g4 hl hn hp gen
        rcases is with _ | ⟨p, _ | ⟨q, _ | ⟨r, _ | ⟨u, is⟩⟩⟩⟩ <;> simp at g5 <;> exact ⟨_, _, _, rfl⟩
      obtain ⟨a, b, c, rfl⟩ : ∃ a b c, xs = [a, b, c] := by
        have := sl.length
        rcases xs with _ | ⟨a, _ | ⟨b, _ | ⟨c, _ | ⟨u, xs⟩⟩⟩⟩ <;> simp [← hl] at this <;> exact ⟨_, _, _, rfl⟩
      obtain ⟨t1, t2, t3, rfl⟩ : ∃ a b c, ts = [a, b, c] := by
        rcases ts with _ | ⟨a, _ | ⟨b, _ | ⟨c, _ | ⟨u, xs⟩⟩⟩⟩ <;> simp at l3 <;> exact ⟨_, _, _, rfl⟩
      unfold mPn at hn
      obtain ⟨u, hu, hn⟩ := see_t hn
      cases hu
      simp only [Bool.and_eq_true, List.tail_cons] at hn
      obtain ⟨m1, hn⟩ := hn
      unfold mPn at hn
      obtain ⟨u, hu, hn⟩ := see_t hn
      cases hu
      simp only [Bool.and_eq_true, List.tail_cons] at hn
      obtain ⟨m2, hn⟩ := hn
      unfold mPn at hn
      obtain ⟨u, hu, hn⟩ := see_t hn
      cases hu
      simp only [Bool.and_eq_true, List.tail_cons] at hn
      obtain ⟨m3, hn⟩ := hn
      obtain ⟨n1, q1, rfl, i1, _, _, _⟩ := mNm_s G m1
      obtain ⟨n2, q2, rfl, i2, _, _, _⟩ := mNm_s G m2
      obtain ⟨n3, q3, rfl, i3, _, _, _⟩ := mNm_s G m3
      have ns := sl.noStar
      have dif : ∀ {i j : Nat} {m n : Str}, X.N[i]? = some m → X.N[j]? = some n → m ≠ n → i ≠ j := fun {i j m n} e1 e2 ne z => ne (by
        rw [z, e2] at e1
        cases e1
        rfl)
      rcases sw3 (x := n1) (y := n2) (z := n3) (px := q1) (py := q2) (pz := q3) (kt := kt) (pt := pt) (k2 := k2) (pt2 := pt2) G.bk (ns a (by simp)) (ns b (by simp)) (ns c (by simp)) hf with w | ⟨⟨k1, k2', k3, ne1, ne2, ne3⟩, w⟩
      · exact gen w
      · refine PS.imp (ps_par3 G.calm hN i1 i2 i3 (dif i1 i2 ne1) (dif i1 i3 ne2) (dif i2 i3 ne3) k1 k2' k3 pa w (by rfl)) fun D σ H h => ?_
        refine pars_mono (ent_par (K := X.K) hl h) fun vs H1 q => ?_
        obtain ⟨v, w', w'', rfl⟩ : ∃ a b c, vs = [a, b, c] := by
          have := q.1
          rcases vs with _ | ⟨a, _ | ⟨b, _ | ⟨c, _ | ⟨u, xs⟩⟩⟩⟩ <;> simp at this <;> exact ⟨_, _, _, rfl⟩
        exact ⟨v, w', w'', rfl, q.2 H1 fun _ _ z => z⟩
    · exact gen (sw_other l2 l3)
theorem sub_assign {o i : Expr} {pos : Pos} {env : PySem.Env} (h : notSlice i = true) : ∀ v, assign (.Subscript o i pos) env v = (do
      let ov ← holding [v] (eval o env)
      let iv ← holding [v, ov] (eval i env)
      standAt pos
      holding [v, ov, iv] (setItem ov iv v)
      release [v, ov, iv] []) := by
  intro v
  cases i <;> first | rfl | cases h
theorem swt {x : Expr} {ts : List Expr} {k : Nat} {p : Pos} {l : Nat} {env : PySem.Env} : swapsWithSole [.Tuple ts k p] x l env = pure false := by
  cases x <;> rfl
theorem sws {x o i : Expr} {p : Pos} {l : Nat} {env : PySem.Env} : swapsWithSole [.Subscript o i p] x l env = pure false := by
  cases x <;> rfl
theorem swn {x : Expr} {ts : List Expr} {k : Nat} {p : Pos} {env : PySem.Env} (h : notTup x = true) : swappedStores [.Tuple ts k p] x env = pure none := by
  cases x <;> first | rfl | cases h
mutual
theorem mS_s (G : GS M Ph X sc) : ∀ {s : Stm} {st : Stmt}, mS M br sc s st = true → PS X st (tSt Ph wf br X.K P0 s)
  | .expr e, st, h => by
    unfold mS at h
    obtain ⟨x, h1, h2⟩ := see_t h
    obtain ⟨p, rfl⟩ := vExprS_s h1
    simp only [Bool.and_eq_true] at h2
    exact PS.imp (ps_expr (mE_s hW0 e G.toGX h2.1).e (notComp_sw h2.2)) fun _ _ _ h => ent_expr h
  | .set i e, st, h => by
    unfold mS at h
    obtain ⟨⟨t, x⟩, h1, h2⟩ := see_t h
    obtain ⟨p, rfl⟩ := vAsg_s h1
    simp only [Bool.and_eq_true] at h2
    obtain ⟨⟨hn, he⟩, hc⟩ := h2
    obtain ⟨n, q, rfl, e1, e2, e3, _⟩ := mNm_s G hn
    exact PS.imp (ps_name G he hc e1 e2 e3 (mE_s hW0 e G.toGX he).e fun _ _ _ h => tG_of h) fun _ _ _ h => ent_set h
  | .own i e, st, h => by
    unfold mS at h
    obtain ⟨⟨t, x⟩, h1, h2⟩ := see_t h
    obtain ⟨p, rfl⟩ := vAsg_s h1
    simp only [Bool.and_eq_true] at h2
    obtain ⟨⟨⟨hn, he⟩, hc⟩, hm⟩ := h2
    obtain ⟨n, q, rfl, e1, e2, e3, _⟩ := mNm_s G hn
    exact PS.imp (ps_name G he hc e1 e2 e3 ((mE_s hW0 e G.toGX he).g hm) fun _ _ _ h => h) fun _ _ _ h => ent_own h
  | .unp ts e, st, h => by
    unfold mS at h
    obtain ⟨⟨t, x⟩, h1, h2⟩ := see_t h
    obtain ⟨p, rfl⟩ := vAsg_s h1
    simp only [Bool.and_eq_true, Bool.or_eq_true, Bool.not_eq_true', decide_eq_true_eq] at h2
    obtain ⟨⟨⟨hg, he⟩, hn⟩, hz⟩ := h2
    have pg := mG_s G.toGX hg
    unfold mG at hg
    obtain ⟨xs, h3, _⟩ := see_t hg
    have h3 : ∃ k p, t = .Tuple xs k p := vTup_s h3
    obtain ⟨k, p', rfl⟩ := h3
    refine PS.imp (ps_asg (mE_s hW0 e G.toGX he).e pg swt (swn hn) (by rfl)) fun _ _ _ h => ent_unp (fun z => ?_) h
    rcases hz with hz | hz
    · rw [z] at hz
      cases hz
    · exact hz
  | .par is es, st, h => ps_parM G h
  | .setIx i ix e, st, h => by
    unfold mS at h
    obtain ⟨⟨t, x⟩, h1, h2⟩ := see_t h
    obtain ⟨p, rfl⟩ := vAsg_s h1
    obtain ⟨⟨o, k⟩, h3, h2⟩ := see_t h2
    have h3 : ∃ p, t = .Subscript o k p := vIdx_s h3
    obtain ⟨p', rfl⟩ := h3
    simp only [Bool.and_eq_true] at h2
    obtain ⟨⟨⟨hv, hk⟩, hs⟩, he⟩ := h2
    obtain ⟨n, q, rfl, pv⟩ := mVr_s G hv
    exact PS.imp (ps_asg (mE_s hW0 e G.toGX he).e (pg_sub (pv q) (mE_s hW0 ix G.toGX hk).e (set_any G.toGX.room) (sub_assign hs)) sws (by rfl) (by rfl)) fun _ _ _ h => ent_setIx h
  | .jar i ix j e, st, h => by
    unfold mS at h
    obtain ⟨⟨t, x⟩, h1, h2⟩ := see_t h
    obtain ⟨p, rfl⟩ := vAsg_s h1
    obtain ⟨ts, h3, h2⟩ := see_t h2
    obtain ⟨t1, h4, h2⟩ := see_t h2
    obtain ⟨t2, h5, h2⟩ := see_t h2
    obtain ⟨⟨o, k⟩, h6, h9⟩ := see_t h2
    have h3 : ∃ k p, t = .Tuple ts k p := vTup_s h3
    obtain ⟨kt, p', rfl⟩ := h3
    have h6 : ∃ p, t1 = .Subscript o k p := vIdx_s h6
    obtain ⟨p'', rfl⟩ := h6
    simp only [Bool.and_eq_true] at h9
    obtain ⟨⟨⟨⟨⟨⟨hl, hv⟩, hk⟩, hs⟩, hm⟩, he⟩, hn⟩ := h9
    have e2 := two_f h4 h5 hl
    subst e2
    obtain ⟨n, q, rfl, pv⟩ := mVr_s G hv
    obtain ⟨n2, q2, rfl, e1, e2, e3, e4⟩ := mNm_s G hm
    have g1 : PG X (.Subscript (.Name n q) k p'') (gSub (tVar i) (tE Ph X.K W0 ix) rSetL) := pg_sub (pv q) (mE_s hW0 ix G.toGX hk).e set_list (sub_assign hs)
    have g2 : PG X (.Name n2 q2) (gName j) := pg_name (by rw [G.nm]; exact G.nd) e1 e2 e3
    exact PS.imp (ps_asg (mE_s hW0 e G.toGX he).e (pg_tup (n := 2) G.calm (pgs_cons g1 (pgs_cons g2 pgs_nil (by rfl)) (by rfl)) (by rfl) (by rfl)) swt (swn hn) (by rfl)) fun _ _ _ h => ent_jar e4 h
  | .append i e, st, h => by
    unfold mS at h
    obtain ⟨x, h1, h2⟩ := see_t h
    obtain ⟨p, rfl⟩ := vExprS_s h1
    obtain ⟨⟨n, m, y⟩, h3, h9⟩ := see_t h2
    obtain ⟨p1, ap, p2, rfl, hl⟩ := vMeth_s h3
    simp only [Bool.and_eq_true, decide_eq_true_eq] at h9
    obtain ⟨⟨⟨rfl, hv⟩, he⟩, hs⟩ := h9
    obtain ⟨n', q, e1, pv⟩ := mVr_s G hv
    cases e1
    refine PS.imp (ps_expr (pe_bm PySem.F.plainAttrs_list PySem.F.slot_list_append PySem.F.type_list_append mt_append (pv p1) (pa_cons (mE_s hW0 e G.toGX he).e pa_nil (star_f hs)) (by rfl) (by rw [star_f hs]; rfl) hl (star_f hs) (by rfl)) (by rfl)) fun _ _ _ h => ent_append h
  | .extend i e, st, h => by
    unfold mS at h
    obtain ⟨x, h1, h2⟩ := see_t h
    obtain ⟨p, rfl⟩ := vExprS_s h1
    obtain ⟨⟨n, m, y⟩, h3, h9⟩ := see_t h2
    obtain ⟨p1, ap, p2, rfl, hl⟩ := vMeth_s h3
    simp only [Bool.and_eq_true, decide_eq_true_eq] at h9
    obtain ⟨⟨⟨⟨rfl, hv⟩, he⟩, hs⟩, hm⟩ := h9
    obtain ⟨n', q, e1, pv⟩ := mVr_s G hv
    cases e1
    refine PS.imp (ps_expr (pe_bm PySem.F.plainAttrs_list PySem.F.slot_list_extend PySem.F.type_list_extend mt_extend (pv p1) (pa_cons ((mE_s hW0 e G.toGX he).g hm) pa_nil (star_f hs)) (by rfl) (by rw [star_f hs]; rfl) hl (star_f hs) (by rfl)) (by rfl)) fun _ _ _ h => ent_extend h
  | .ret e, st, h => by
    unfold mS at h
    obtain ⟨x, h1, h2⟩ := see_t h
    obtain ⟨p, rfl⟩ := vRet_s h1
    obtain ⟨y, rfl, h2⟩ := see_t h2
    cases hm : makes e with
    | true => exact PS.imp (ps_ret ((mE_s hW0 e G.toGX h2).g hm)) fun _ _ _ h => ent_ret2 hm h
    | false =>
      cases e with
      | var i =>
        obtain ⟨n, q, rfl, pv⟩ := mVr_s (i := i) G (by
          unfold mE at h2
          exact h2)
        exact PS.imp (ps_ret (pv q)) fun _ _ _ h => ent_ret3 h
      | _ => exact PS.imp (ps_ret (mE_s hW0 _ G.toGX h2).e) fun _ _ _ h => ent_ret1 (fun _ z => by cases z) hm h
  | .retN, st, h => by
    unfold mS at h
    obtain ⟨x, h1, h2⟩ := see_t h
    obtain ⟨p, rfl⟩ := vRet_s h1
    have e : x = none := by simpa using h2
    subst e
    exact PS.imp ps_retN fun _ _ _ h => ent_retN h
  | .iff c a b, st, h => by
    unfold mS at h
    obtain ⟨⟨x, xa, xb⟩, h1, h2⟩ := see_t h
    obtain ⟨p, rfl⟩ := vIfS_s h1
    simp only [Bool.and_eq_true] at h2
    exact PS.imp (ps_if (mE_s hW0 c G.toGX h2.1.1).t (mSs_s G h2.1.2) (mSs_s G h2.2)) fun _ _ _ h => ent_iff h
  | .whil c b, st, h => by
    unfold mS at h
    obtain ⟨⟨x, xb⟩, h1, h2⟩ := see_t h
    obtain ⟨p, rfl⟩ := vWhile_s h1
    simp only [Bool.and_eq_true] at h2
    exact PS.imp (ps_while G.po (mE_s hW0 c G.toGX h2.1).t (mSs_s G h2.2)) fun _ _ _ h => ent_whil h
  | .forr tg it b, st, h => by
    unfold mS at h
    obtain ⟨⟨t, i, xb⟩, h1, h2⟩ := see_t h
    obtain ⟨p, rfl⟩ := vFor_s h1
    simp only [Bool.and_eq_true, Bool.or_eq_true, Bool.not_eq_true', decide_eq_true_eq] at h2
    obtain ⟨⟨⟨⟨⟨hg, hi⟩, ht⟩, hs⟩, hb⟩, hz⟩ := h2
    have pi := mI_s (W := W0) hW0 it (tg := t) G.toGX hi (by
      cases it <;> first | trivial | exact ht)
    refine PS.imp (ps_for G.po G.calm pi (mG_s G.toGX hg) (mSs_s G hb) (notSet_f hs)) fun _ _ _ h => ent_forr (fun z => ?_) (pairs_tg (it := it) hg (by
      cases it <;> first | trivial | exact ht)) h
    rcases hz with hz | hz
    · rw [z] at hz
      cases hz
    · exact hz
  | .brk, st, h => by
    unfold mS at h
    split at h
    · exact PS.imp ps_break fun _ _ _ h => ent_brk h
    · cases h
  | .cont, st, h => by
    unfold mS at h
    split at h
    · exact PS.imp ps_continue fun _ _ _ h => ent_cont h
    · cases h
  | .pass, st, h => by
    unfold mS at h
    split at h
    · exact PS.imp ps_pass fun _ _ _ h => ent_pass h
    · cases h
  | .never, st, h => PS.imp ps_never fun _ _ _ h => ent_never h
theorem mSs_s (G : GS M Ph X sc) : ∀ {s : Sts} {st : List Stmt}, mSs M br sc s st = true → PSs X st (tSs Ph wf br X.K P0 s)
  | .nil, st, h => by
    unfold mSs at h
    have e : st = [] := by simpa using h
    subst e
    exact PSs.imp pss_nil fun _ _ _ h => ent_ssnil h
  | .cons s ss, st, h => by
    unfold mSs at h
    obtain ⟨x, h1, h2⟩ := see_t h
    cases st with
    | nil => cases h1
    | cons y ys =>
      cases h1
      simp only [Bool.and_eq_true, List.tail_cons] at h2
      exact PSs.imp (pss_cons (mS_s G h2.1) (mSs_s G h2.2)) fun _ _ _ h => ent_sscons h
end
end
end PV
set_option Elab.async false
set_option linter.all false
set_option maxRecDepth 100000
set_option maxHeartbeats 2000000
/-! PV, part R: a text's defs, all together. -/
namespace PV
open PySem PySem.Spec PyProof.Rows L2
variable [Wd]
/-- a def of the text: the name that it is called by, its own name, its datum, its statement -/
structure Row where
  x : Str
  own : Str
  fn : Def
  st : Stmt
def psOf (st : Stmt) : List Str := (C8.fnArgs st).args.map (·.arg)
/-- the text ahead of its run -/
structure Tx where
  rows : List Row
  con : List (Str × D)
  blt : List Str
  gcd : Bool
  kw : List (Str × Nat × List Str × List Nat)
/-- a def that tells a rank -/
def rankR (r : Row) : Bool := match psOf r.st with
  | [x] => C8.scC r.fn.N [x] (C8.fnScope r.st) && rankT x (C8.fnScope r.st) (C8.fnBody r.st)
  | _ => false
def Tx.mt (T : Tx) (fn : Def) : Mt := ⟨fn.N, T.rows.map fun r => (r.x, r.fn), T.con, T.blt, T.gcd, T.kw, if T.blt.contains "sum" then (T.rows.filter rankR).map (·.x) else []⟩
def Tx.defs (T : Tx) : List Def := T.rows.map (·.fn)
/-- one def: its text is its datum's -/
def rowC (T : Tx) (r : Row) : Bool := C8.scC r.fn.N (psOf r.st) (C8.fnScope r.st) && decide ((psOf r.st).length = r.fn.params) && mSs (T.mt r.fn) r.fn.br (C8.fnScope r.st) r.fn.body (C8.fnBody r.st) &&
  (!r.fn.fresh || !r.fn.br) && (!r.fn.br || decide (r.fn.params ≠ 0)) && decide (r.fn.name = r.x)
def BindOk (r : Row) : Prop := ∀ (kV doc pm : Value) (an : Option Addr) (cdv ct : Value) (us : List Value), us.length = (psOf r.st).length →
  bindArgs (PySem.W.fnOf r.own r.own (C8.fnArgs r.st) (C8.fnBody r.st) (C8.fnScope r.st) .none kV doc pm an cdv ct) ⟨us, []⟩ = pure ((psOf r.st).zip us)
def KwOk (r : Row) (q : Str × Nat × List Str × List Nat) : Prop := ∀ (kV doc pm : Value) (an : Option Addr) (cdv ct : Value) (us ws : List Value), us.length = q.2.1 → ws.length = q.2.2.1.length →
  bindArgs (PySem.W.fnOf r.own r.own (C8.fnArgs r.st) (C8.fnBody r.st) (C8.fnScope r.st) .none kV doc pm an cdv ct) ⟨us, q.2.2.1.zip ws⟩ = pure ((psOf r.st).zip (us ++ permV q.2.2.2 ws))
abbrev RowFun (K : PySem.W.Frag) (r : Row) (fd : FuncData) : Prop := FunD K r.own r.own (C8.fnArgs r.st) (C8.fnBody r.st) (C8.fnScope r.st) [] [] (He.ga K r.x) fd
/-- what the head tells of the module's names -/
structure Known (T : Tx) (K : PySem.W.Frag) (mg : Str → Option Value) : Prop where
  fns : ∀ r ∈ T.rows, (∃ fd, RowFun K r fd) ∧ mg r.x = some (.ref (He.ga K r.x))
  con : ∀ p ∈ T.con, ∃ u v, mg p.1 = some u ∧ RelV v u ∧ ∀ H P, RP K H P v p.2
  blt : ∀ x ∈ T.blt, mg x = none
  gcd : T.gcd = true → mg "gcd" = some (.builtin "math.gcd")
section
variable {P : Program} {w : World} {K : PySem.W.Frag} {mg : Str → Option Value} {base : Heap} {T : Tx} {wf : Nat}
theorem find_self {rows : List Row} (hn : (rows.map (·.x)).Nodup) (hx : ∀ r ∈ rows, r.fn.name = r.x) : ∀ r ∈ rows, (rows.map (·.fn)).find? (fun g => g.name == r.fn.name) = some r.fn := by
  induction rows with
  | nil => exact fun r h => by cases h
  | cons a as ih =>
    intro r h
    rw [List.map_cons, List.nodup_cons] at hn
    rw [List.map_cons, List.find?_cons]
    rcases List.mem_cons.mp h with rfl | h
    · simp
    · have ne : (a.fn.name == r.fn.name) = false := by
        rw [beq_eq_false_iff_ne, hx a (by simp), hx r (by simp [h])]
        exact fun z => hn.1 (z ▸ List.mem_map_of_mem h)
      rw [ne]
      exact ih hn.2 (fun q hq => hx q (by simp [hq])) r h
theorem lookup_row {rows : List Row} {x : Str} {fn : Def} (h : (rows.map fun r => (r.x, r.fn)).lookup x = some fn) : ∃ r ∈ rows, r.x = x ∧ r.fn = fn := by
  have q := PySem.mem_of_lookup h
  obtain ⟨r, hr, e⟩ := List.mem_map.mp q
  cases e
  exact ⟨r, hr, rfl, rfl⟩
theorem lt_get {A B : Type} (f : A → B) (xs : List A) (k : Nat) (z : B) (i : Nat) : (xs.map f ++ List.replicate k z)[i]? = if h : i < xs.length then some (f xs[i]) else if i < xs.length + k then some z else none := by
  by_cases h : i < xs.length
  · rw [dif_pos h, List.getElem?_append_left (by simpa using h)]
    simp [h]
  · rw [dif_neg h, List.getElem?_append_right (by simpa using h), List.getElem?_replicate]
    simp only [List.length_map]
    by_cases h2 : i < xs.length + k
    · rw [if_pos (by omega), if_pos h2]
    · rw [if_neg (by omega), if_neg h2]
/-- the frame at a call -/
theorem re_begin {H : Hp} {Pp : Pa} {fn : Def} {vs : List V} {ds : List D} (new : ∀ b, H b = none → Pp b) (a : ArgOk K H Pp fn.br vs ds) (hl : vs.length ≤ fn.N.length) :
    RE K Pp (begin fn ds) (start fn.N vs) H ∧ (∀ c, OwnA (begin fn ds) (start fn.N vs) c → fn.br = true ∧ vs.head? = some (.ref c)) ∧ (fn.br = true → ∃ c, vs.head? = some (.ref c) ∧ (start fn.N vs)[0]? = some (some (.ref c))) := by
  generalize hbr : fn.br = br at a
  cases a with
  | val rs =>
    have l := rs.length
    have eb : begin fn ds = ds.map .val ++ List.replicate (fn.N.length - ds.length) .non := by
      unfold begin
      rw [hbr]
    have no : ∀ (i : Nat) (d : D), (begin fn ds)[i]? ≠ some (Slot.own d) := fun i d h => by
      rw [eb, lt_get] at h
      split at h
      · cases h
      · split at h <;> cases h
    refine ⟨⟨?_, fun i d h => ?_, fun i d h => absurd h (no i d), fun i j d e c h => absurd h (no i d), new, fun i d c h0 h => absurd h (no i d)⟩, fun c ⟨i, d, h, _⟩ => absurd h (no i d), fun z => by cases z⟩
    · rw [eb]
      unfold L2.start
      simp only [List.length_append, List.length_map, List.length_replicate]
      omega
    · rw [eb, lt_get] at h
      split at h
      · rename_i hi
        cases h
        obtain ⟨v, h1, h2⟩ := rs.get (i := i) (d := ds[i]) (by simp)
        refine ⟨v, ?_, h2.mono fun a z => ⟨z, fun ⟨j, e, hj, _⟩ => absurd hj (no j e)⟩⟩
        unfold L2.start
        rw [List.getElem?_append_left (by simp; omega), List.getElem?_map, h1]
        rfl
      · split at h <;> cases h
  | own np ro rs =>
    rename_i c vs d ds
    have l := rs.length
    have eb : begin fn (d :: ds) = Slot.own d :: (ds.map Slot.val ++ List.replicate (fn.N.length - (ds.length + 1)) Slot.non) := by
      unfold begin
      rw [hbr]
      rfl
    have es : start fn.N (.ref c :: vs) = some (.ref c) :: (vs.map some ++ List.replicate (fn.N.length - (vs.length + 1)) none) := rfl
    have only : ∀ (i : Nat) (e : D), (begin fn (d :: ds))[i]? = some (Slot.own e) → i = 0 ∧ e = d := fun i e h => by
      rw [eb] at h
      cases i with
      | zero =>
        cases h
        exact ⟨rfl, rfl⟩
      | succ i =>
        rw [List.getElem?_cons_succ, lt_get] at h
        split at h
        · cases h
        · split at h <;> cases h
    have own1 : ∀ a, OwnA (begin fn (d :: ds)) (start fn.N (.ref c :: vs)) a → a = c := fun a ⟨i, e, h1, h2⟩ => by
      obtain ⟨rfl, rfl⟩ := only i e h1
      rw [es] at h2
      cases h2
      rfl
    have m : ∀ a, Pp a → Stb Pp (begin fn (d :: ds)) (start fn.N (.ref c :: vs)) a := fun a z => ⟨z, fun w => np (by rw [← own1 a w]; exact z)⟩
    refine ⟨⟨?_, fun i e h => ?_, fun i e h => ?_, fun i j e f a h1 h2 _ _ => ?_, new, fun i e a h0 h => absurd (only i e h).1 h0⟩, fun a z => ⟨rfl, by rw [own1 a z]; rfl⟩, fun _ => ⟨c, rfl, by rw [es]; rfl⟩⟩
    · rw [eb, es]
      simp only [List.length_cons, List.length_append, List.length_map, List.length_replicate]
      simp only [List.length_cons] at hl
      omega
    · rw [eb] at h
      cases i with
      | zero => cases h
      | succ i =>
        rw [List.getElem?_cons_succ, lt_get] at h
        split at h
        · rename_i hi
          cases h
          obtain ⟨v, h1, h2⟩ := rs.get (i := i) (d := ds[i]) (by simp)
          refine ⟨v, ?_, h2.mono m⟩
          rw [es, List.getElem?_cons_succ, List.getElem?_append_left (by simp; omega), List.getElem?_map, h1]
          rfl
        · split at h <;> cases h
    · obtain ⟨rfl, rfl⟩ := only i e h
      exact ⟨c, by rw [es]; rfl, ro.mono m⟩
    · rw [(only i e h1).1, (only j f h2).1]
/-- each def keeps its promise, to any depth of calls -/
theorem kwB_of {r : Row} {fd : FuncData} {q : Str × Nat × List Str × List Nat} (F : RowFun K r fd) (h : KwOk r q) : KwB K fd (psOf r.st) q.2.1 q.2.2.1 q.2.2.2 := by
  obtain ⟨oc, od, dV, kV, doc, pm, an, cdv, ct, osl, rfl, lk, hcd, hD, hK⟩ := F.ex
  rcases hD with ⟨_, rfl⟩ | ⟨e, _⟩
  · exact fun s us ws _ l1 l2 => .of_eq (h kV doc pm an cdv ct us ws l1 l2)
  · exact absurd rfl e
theorem tabG (hP : P = Wd.prog ∧ w = Wd.w) (hK : Known T K mg) (hrows : ∀ r ∈ T.rows, rowC T r = true) (hbind : ∀ r ∈ T.rows, BindOk r) (hkw : ∀ q ∈ T.kw, ∀ r ∈ T.rows, r.x = q.1 → KwOk r q) (hn : (T.rows.map (·.x)).Nodup) :
    ∀ n, ∀ r ∈ T.rows, ∀ fd, RowFun K r fd → FnG P w K mg base n (He.ga K r.x) fd (psOf r.st) (spF (callN T.defs wf n) K r.fn) := by
  have chk : ∀ r ∈ T.rows, (C8.scC r.fn.N (psOf r.st) (C8.fnScope r.st) = true ∧ (psOf r.st).length = r.fn.params ∧ mSs (T.mt r.fn) r.fn.br (C8.fnScope r.st) r.fn.body (C8.fnBody r.st) = true ∧ (r.fn.fresh = true → r.fn.br = false)) ∧ r.fn.name = r.x := fun r hr => by
    have h := hrows r hr
    unfold rowC at h
    simp only [Bool.and_eq_true, decide_eq_true_eq, Bool.or_eq_true, Bool.not_eq_true'] at h
    obtain ⟨⟨⟨⟨⟨h1, h2⟩, h3⟩, h4⟩, h5⟩, h6⟩ := h
    exact ⟨⟨h1, h2, h3, fun z => by
      rcases h4 with h4 | h4
      · rw [z] at h4
        cases h4
      · exact h4⟩, h6⟩
  have len : ∀ n, ∀ r ∈ T.rows, ∀ vs H Q E, spF (callN T.defs wf n) K r.fn vs H Q E → vs.length = (psOf r.st).length := fun n r hr vs H Q E h => by
    obtain ⟨_, ds, hl, _⟩ := h
    rw [hl, (chk r hr).1.2.1]
  intro n
  induction n with
  | zero =>
    intro r hr fd F
    refine ⟨len 0 r hr, fun A outer s H args us vs Q E _ _ _ _ _ h => ?_⟩
    obtain ⟨_, _, _, _, _, h⟩ := h
    unfold callN at h
    exact h.elim
  | succ n ih =>
    intro r hr fd F
    obtain ⟨⟨h1, h2, h3, h4⟩, hname⟩ := chk r hr
    have S := C8.fnScope_by h1
    have hps : (psOf r.st).length ≤ r.fn.N.length := by
      have := congrArg List.length S.pre
      rw [List.length_take] at this
      omega
    obtain ⟨oc, od, dV, kV, doc, pm, an, cdv, ct, osl, rfl, lk, hcd, hD, hKw⟩ := F.ex
    refine fnG_of lk hcd S (len (n + 1) r hr) fun A outer s H vs Q E room guards h => ?_
    obtain ⟨Pp, ds, hl, new, arg, h⟩ := h
    obtain ⟨re, own0, at0⟩ := re_begin (K := K) new arg (by rw [hl, ← h2]; exact hps)
    have dl : ds.length = r.fn.params := by
      rw [← hl]
      generalize r.fn.br = b at arg
      cases arg with
      | val rs => exact rs.length.symm
      | own _ _ rs => simp [rs.length]
    have G : GS (T.mt r.fn) (callN T.defs wf n) (cxOf CX0 P w K mg base r.fn.N r.own (C8.fnScope r.st) (He.ga K r.x) cdv A outer s H E) (C8.fnScope r.st) := {
      nm := rfl
      nd := S.nd
      sc := rfl
      fn := fun _ _ => rfl
      calm := rfl
      room := ⟨by
        have := room.un
        show (A.deeper _).units + 100 < cLine
        omega, guards, hP⟩
      con := hK.con
      blt := hK.blt
      gcd := hK.gcd
      fns := fun x fn' e => by
        obtain ⟨q, hq, rfl, rfl⟩ := lookup_row e
        obtain ⟨⟨fd', F'⟩, hm⟩ := hK.fns q hq
        exact ⟨n, _, fd', psOf q.st, ih q hq fd' F', room, hm, F'.kp, F'.bindsN (hbind q hq), fun z hz e => kwB_of F' (hkw z hz q hq e.symm)⟩
      rank := fun x hx => by
        have hx : x ∈ (if T.blt.contains "sum" then (T.rows.filter rankR).map (·.x) else []) := hx
        split at hx
        · rename_i hsum
          obtain ⟨q, hq, rfl⟩ := List.mem_map.mp hx
          obtain ⟨hq, hr⟩ := List.mem_filter.mp hq
          obtain ⟨⟨fd', F'⟩, hm⟩ := hK.fns q hq
          refine ⟨_, hm, ?_, room.hd, by have := room.dp; show A.depth + 1 < _; have d2 : (A.deeper (envOfC r.own (C8.fnScope r.st) s.heap.objs.size (He.ga K r.x) cdv)).depth = A.depth + 1 := rfl; omega⟩
          unfold rankR at hr
          split at hr
          · rename_i y ey
            simp only [Bool.and_eq_true] at hr
            obtain ⟨oc, od, dV, kV, doc, pm, an, cdv', ct, osl, rfl, lk', hcd', hD', hK'⟩ := F'.ex
            have bind := F'.bindsN (hbind q hq)
            rw [ey] at bind
            refine rankOk_of (P := P) (w := w) (mg := mg) (base := base) lk' hcd' (C8.fnScope_by hr.1) hr.2 (fun s us ik l => ?_) (hK.blt _ (by simpa using hsum))
            have b := bind s us ik (by simpa using l)
            rw [List.append_nil] at b
            exact b
          · cases hr
        · cases hx
      bk := by
        show (if (C8.fnScope r.st).kind.isAnnotationScope then ScopeKind.function else (C8.fnScope r.st).kind) = .function
        rw [S.kind]
        rfl
      po := PassesOwn.leaving }
    refine ⟨tSs (callN T.defs wf n) wf r.fn.br K Pp r.fn.body, mSs_s G h3, begin r.fn ds, re, ?_⟩
    have hc : callN T.defs wf (n + 1) r.fn.name ds = runFn (callN T.defs wf n) wf r.fn ds := by
      unfold callN
      have e : T.defs.find? (fun g => g.name == r.fn.name) = some r.fn := find_self hn (fun q hq => (chk q hq).2) r hr
      rw [e]
    rw [hc] at h
    unfold runFn at h
    rw [if_pos dl] at h
    have keepA : ∀ {env' : Fram} {σ' : L2.St} {H' : Hp}, AS K Pp r.fn.br (begin r.fn ds) (start r.fn.N vs) H env' σ' H' → ∀ a o, H a = some o → (r.fn.br = true → vs.head? ≠ some (.ref a)) → H' a = some o := fun a b o e z => a.ko b o e fun w => (z (own0 b w).1) (own0 b w).2
    have ownA : ∀ {env' : Fram} {σ' : L2.St} {H' : Hp} {d0 : D}, AS K Pp r.fn.br (begin r.fn ds) (start r.fn.N vs) H env' σ' H' → out0 r.fn.br env' = some d0 → r.fn.br = true → ∀ a, vs.head? = some (.ref a) → ROwn K H' Pp a d0 := fun {env' σ' H' d0} as e z a ha => by
      unfold out0 at e
      rw [z] at e
      have e : (match env'[0]? with
        | some (Slot.own d) => some d
        | _ => none) = some d0 := e
      split at e
      · rename_i d hd
        cases e
        obtain ⟨b, e1, e2⟩ := as.re.own 0 _ hd
        rw [as.s0 z] at e1
        obtain ⟨c, e3, e4⟩ := at0 z
        rw [e4] at e1
        cases e1
        rw [ha] at e3
        cases e3
        exact e2.mono fun _ y => y.1
      · cases e
    cases ee : evSs (callN T.defs wf n) wf r.fn.br r.fn.body (begin r.fn ds) with
    | bad =>
      rw [ee] at h
      exact h.elim
    | exc z e =>
      rw [ee] at h
      exact h.elim
    | ok p =>
      rw [ee] at h
      obtain ⟨fl, env'⟩ := p
      cases fl with
      | brk => exact h.elim
      | cont => exact h.elim
      | nx =>
        have h : Post (if r.fn.fresh = true then Res.bad else (opt (out0 r.fn.br env')).bind fun d0 => Res.ok (PyData.none, d0)) _ _ := h
        cases hf : r.fn.fresh with
        | true =>
          rw [hf, if_pos rfl] at h
          exact h.elim
        | false =>
          rw [hf, if_neg Bool.false_ne_true] at h
          obtain ⟨d0, e0, h⟩ := post_opt.mp (post_bind.mp h)
          exact fun σ' H' as => h .non H' ⟨keepA as, as.tr, fun _ => .non, (fun z => by cases z), ownA as e0⟩
      | ret d f =>
        have h : Post (if (r.fn.fresh && !f) = true then Res.bad else (opt (out0 r.fn.br env')).bind fun d0 => Res.ok (d, d0)) _ _ := h
        cases hf : (r.fn.fresh && !f) with
        | true =>
          rw [hf, if_pos rfl] at h
          exact h.elim
        | false =>
          rw [hf, if_neg Bool.false_ne_true] at h
          obtain ⟨d0, e0, h⟩ := post_opt.mp (post_bind.mp h)
          refine fun v σ' H' as rv => h v H' ⟨keepA as, as.tr, fun _ => rv.rp, fun z => ?_, ownA as e0⟩
          have f1 : f = true := by
            rw [z] at hf
            simpa using hf
          obtain ⟨b, e1, e2, e3⟩ := rv.new f1
          refine ⟨b, e1, e2.resolve_left fun w => ?_, e3⟩
          have := (own0 b w).1
          rw [h4 z] at this
          cases this
end
end PV
set_option Elab.async false
set_option linter.all false
set_option maxRecDepth 100000
set_option maxHeartbeats 2000000
/-! PV, part S: a law's end. -/
namespace PV
open PySem PySem.Spec PyProof.Rows L2
/-- the script's list, as it stands -/
abbrev scrO (vs : List Value) : Obj := { cls := .type "list", data := .seq vs.toArray }
def scrH (K : PySem.W.Frag) (a : Addr) (vs : List Value) (ns : List Int) : Hp := fun b => if b = a ∧ K.lookup a = none then some (.frz (scrO vs) (.lst (ns.map V.int))) else none
theorem lawRun {P : Program} {w : World} {K : PySem.W.Frag} {mg mb : Str → Option Value} {k : Nat} {fa a : Addr} {fd : FuncData} {x : Str} {sp : Sp} {s : Shared} {vs : List Value} {ns : List Int}
    (kin : K.In s.heap) (gns : s.heap.Ns mainGlobals mg) (bns : s.heap.Ns builtinsNs mb) (boot : ∀ x : Str, x ≠ "__name__" → mb x = bootBuiltins x) (lim : s.heap.NoLimit) (gens : s.gens = #[])
    (there : s.heap.get? a = some (scrO vs)) (hin : IntsAre vs ns) (few : ns.length ≤ sizeLine) (room : Room k callerA)
    (F : ∀ base : Heap, K.In base → base.Ns mainGlobals mg → FnG P w K mg base k fa fd [x] sp) (bind : ∀ (s : Shared) (u : Value), BindsTo s fd ⟨[u], []⟩ [(x, u)])
    (wish : ∀ H : Hp, SqL K H a (ns.map V.int) → sp [.ref a] H (fun v _ => v = .bl true) fun _ _ _ => False) :
    codeAny (model P w) callerA (.call (.ref fa) ⟨[.ref a], []⟩) (fun r s' => r = .ok (.ret (.bool true)) ∧ OldK s.heap s'.heap ∧ s'.os = s.os ∧ AllBare s'.gens) s := by
  have vals : Vals (ns.map V.int) vs := vals_ints hin
  have only : ∀ b, scrH K a vs ns b ≠ none → b = a ∧ K.lookup a = none := fun b h => by
    by_cases c : b = a ∧ K.lookup a = none
    · exact c
    · exact absurd (if_neg c) h
  have val : ∀ b u, scrH K a vs ns b = some u → b = a ∧ u = .frz (scrO vs) (.lst (ns.map V.int)) := fun b u h => by
    have c := only b (by rw [h]; simp)
    have e : scrH K a vs ns b = _ := if_pos c
    rw [e] at h
    cases h
    exact ⟨c.1, rfl⟩
  have ok : HOk P w (scrH K a vs ns) s.heap := fun b u h => by
    obtain ⟨rfl, rfl⟩ := val b u h
    exact ⟨there, by rw [List.length_map]; exact few, vs, _, vals, there⟩
  have seq : SqL K (scrH K a vs ns) a (ns.map V.int) := by
    cases c : K.lookup a with
    | none => exact .inl (.inr ⟨scrO vs, if_pos ⟨rfl, c⟩⟩)
    | some o =>
      have e := kin a o c
      rw [there] at e
      cases e
      exact .inr ⟨_, vs.toArray, _, c, rfl, rfl, rfl, by rw [List.size_toArray, ← vals.length, List.length_map]; exact few, by simpa using vals⟩
  have free : ∀ {b : Addr} {o : Obj} {es : Array DictEntry} {ep : Nat}, s.heap.get? b = some o → o.data = .dict es ep → scrH K a vs ns b = none := fun {b o es ep} e d => by
    cases q : scrH K a vs ns b with
    | none => rfl
    | some u =>
      obtain ⟨rfl, _⟩ := val b u q
      rw [there] at e
      cases e
      cases d
  have ns' : ∀ {b : Addr} {m : Str → Option Value}, s.heap.Ns b m → (hidT s.heap (scrH K a vs ns)).Ns b m := fun {b m} ⟨o, es, ep, e, d, r⟩ => ⟨o, es, ep, hidT_get e (free e d), d, r⟩
  have kin' : K.In (hidT s.heap (scrH K a vs ns)) := fun b o e => hidT_get (kin b o e) (by
    cases q : scrH K a vs ns b with
    | none => rfl
    | some u =>
      obtain ⟨rfl, h⟩ := only b (by rw [q]; simp)
      rw [h] at e
      cases e)
  obtain ⟨mc, l1, l2⟩ := lim
  have mod : Mod K mg (hidT s.heap (scrH K a vs ns)) := ⟨kin', ns' gns, ⟨mb, ns' bns, boot⟩, ⟨mc, ns' l1, l2⟩⟩
  have start0 : Env0 P w K mg (hidT s.heap (scrH K a vs ns)) callerA [] s (scrH K a vs ns) :=
    ⟨rfl, mod, fun b o e => of_hidT e, Nat.le_of_eq (hidT_size _ _), trivial, fun b hb => (List.not_mem_nil hb).elim, ok, .of_eq gens⟩
  have main := (F _ kin' (ns' gns)).run callerA [] s (scrH K a vs ns) ⟨[.ref a], []⟩ [.ref a] [.ref a] _ _ room rfl start0 (bind s (.ref a)) (.cons rfl .nil) (wish _ seq)
  refine codeAny_mono main fun r s' h => ?_
  cases r with
  | error e => exact h.elim
  | ok fl =>
    cases fl with
    | ret u =>
      obtain ⟨v, H', os, bare, un, ok', ru, q⟩ := h
      have q : v = .bl true := q
      subst q
      have eu : u = Value.bool true := ru
      subst eu
      refine ⟨rfl, OldK.of_keep fun b o e => ?_, os, bare⟩
      cases q : scrH K a vs ns b with
      | none => exact un.keep b o e q (fun z => (List.not_mem_nil z).elim) (fun z => (List.not_mem_nil z).elim)
      | some u =>
        obtain ⟨rfl, rfl⟩ := val b u q
        have z2 := un.frzs _ _ _ q
        obtain ⟨e1, _⟩ := ok _ _ q
        obtain ⟨e2, _⟩ := ok' _ _ z2
        rw [e] at e1
        cases e1
        exact e2
    | _ => exact h.elim
/-! ### constants of the module -/
mutual
def valB (K : PySem.W.Frag) : D → Value → Bool
  | .none, .none => true
  | .bool b, .bool c => b == c
  | .int i, .int j _ => decide (i = j)
  | .str x, .str y _ => decide (x = y)
  | .tuple ds, .ref a => (match K.lookup a with
    | some ⟨.type c, none, .seq its _, _⟩ => decide (c = "tuple") && (decide (its.size ≤ sizeLine) && valsB K ds its.toList)
    | _ => false)
  | _, _ => false
def valsB (K : PySem.W.Frag) : List D → List Value → Bool
  | [], [] => true
  | d :: ds, v :: vs => valB K d v && valsB K ds vs
  | _, _ => false
end
section
variable [Wd]
mutual
theorem valB_ok {K : PySem.W.Frag} : ∀ {d : D} {u : Value}, valB K d u = true → ∃ v, RelV v u ∧ ∀ H P, RP K H P v d
  | .none, u, h => by
    cases u <;> simp [valB] at h
    exact ⟨.non, rfl, fun _ _ => .non⟩
  | .bool b, u, h => by
    cases u <;> simp [valB] at h
    subst h
    exact ⟨.bl b, rfl, fun _ _ => .bl b⟩
  | .int i, u, h => by
    cases u <;> simp [valB] at h
    subst h
    exact ⟨.int i, ⟨_, rfl⟩, fun _ _ => .int i⟩
  | .str i, u, h => by
    cases u <;> simp [valB] at h
    subst h
    exact ⟨.str i, ⟨_, rfl⟩, fun _ _ => .str i⟩
  | .list _, u, h => by cases u <;> simp [valB] at h
  | .dict _, u, h => by cases u <;> simp [valB] at h
  | .tuple ds, u, h => by
    cases u with
    | ref a =>
      unfold valB at h
      split at h
      · rename_i c its n sl e
        simp only [Bool.and_eq_true, decide_eq_true_eq] at h
        obtain ⟨rfl, hz, hv⟩ := h
        obtain ⟨xs, r1, r2⟩ := valsB_ok hv
        exact ⟨.ref a, rfl, fun H P => .tup (.inr ⟨_, its, n, e, rfl, rfl, rfl, hz, r1⟩) (r2 H P)⟩
      · cases h
    | _ => simp [valB] at h
theorem valsB_ok {K : PySem.W.Frag} : ∀ {ds : List D} {us : List Value}, valsB K ds us = true → ∃ vs, Vals vs us ∧ ∀ H P, RPs K H P vs ds
  | [], us, h => by
    cases us <;> simp [valsB] at h
    exact ⟨[], .nil, fun _ _ => .nil⟩
  | d :: ds, us, h => by
    cases us with
    | nil => simp [valsB] at h
    | cons u us =>
      simp only [valsB, Bool.and_eq_true] at h
      obtain ⟨v, a1, a2⟩ := valB_ok h.1
      obtain ⟨vs, b1, b2⟩ := valsB_ok h.2
      exact ⟨v :: vs, .cons a1 b1, fun H P => .cons (a2 H P) (b2 H P)⟩
end
end
def conB (K : PySem.W.Frag) (p : Str × D) : Bool := match PySem.W.nsIn K mainGlobals p.1 with
  | some (some u) => valB K p.2 u
  | _ => false
/-! ### what the head tells -/
def Tx.dd (T : Tx) : List He.DefD := T.rows.map fun r => ⟨(r.x, none), r.own, r.own, C8.fnArgs r.st, C8.fnBody r.st, C8.fnScope r.st, [], []⟩
def Tx.fa (T : Tx) : List He.Fa := (T.rows.map fun r => .glo r.x) ++ T.blt.map .free
def Tx.more (T : Tx) (K : PySem.W.Frag) : Bool := T.con.all (conB K) && (!T.gcd || He.eqO (PySem.W.nsIn K mainGlobals "gcd") (some (some (.builtin "math.gcd"))))
def Tx.obs (T : Tx) (K : PySem.W.Frag) : He.AlD := (T.more K && (He.obsD T.fa T.dd K).1, (He.obsD T.fa T.dd K).2)
def Tx.says (T : Tx) (K : PySem.W.Frag) : Prop := T.obs K = He.valD T.dd
def Tx.obsG (T : Tx) (n : Nat) (g : Addr → Option Obj) : He.AlD := T.obs (He.frG g (He.asD g n))
def Tx.hook (T : Tx) (n : Nat) : PySem.W.Hook where
  α := He.AlD
  obs := fun s => T.obsG n s.heap.get?
  val := fun _ => He.valD T.dd
  says := fun _ h => ∃ K : PySem.W.Frag, K.In h ∧ T.says K
  of := fun _ _ e => ⟨_, He.frG_in, e⟩
  keeps := fun _ _ _ ⟨K, kin, c⟩ q => ⟨K, PySem.W.Frag.In.keeps kin q, c⟩
theorem Tx.obsG_eq {T : Tx} {n : Nat} {g : Addr → Option Obj} {s : Shared} (h : ∀ a, g a = s.heap.get? a) : T.obsG n g = (T.hook n).obs s := by
  have e : g = s.heap.get? := funext h
  rw [e]
  rfl
theorem Tx.known [Wd] {T : Tx} {K : PySem.W.Frag} {h : Heap} {mg : Str → Option Value} (kin : K.In h) (G : h.Ns mainGlobals mg) (c : T.says K) : Known T K mg := by
  have c1 : (T.more K && (He.obsD T.fa T.dd K).1) = true := congrArg (fun z : He.AlD => z.1) c
  rw [Bool.and_eq_true] at c1
  obtain ⟨m, o1⟩ := c1
  have c2 : (He.obsD T.fa T.dd K).2 = T.dd.map He.DefD.val := congrArg (fun z : He.AlD => z.2) c
  have sd : He.SaysD T.fa T.dd K := Prod.ext o1 c2
  unfold Tx.more at m
  simp only [Bool.and_eq_true, List.all_eq_true, Bool.or_eq_true, Bool.not_eq_true'] at m
  have facts : ∀ f ∈ T.fa, f.ok K = true := fun f hf => by
    obtain ⟨i, hi⟩ := List.getElem?_of_mem hf
    exact sd.fact i hi
  refine ⟨fun r hr => ⟨?_, ?_⟩, fun p hp => ?_, fun x hx => ?_, fun z => ?_⟩
  · have : (⟨(r.x, none), r.own, r.own, C8.fnArgs r.st, C8.fnBody r.st, C8.fnScope r.st, [], []⟩ : He.DefD) ∈ T.dd := List.mem_map.mpr ⟨r, hr, rfl⟩
    obtain ⟨i, hi⟩ := List.getElem?_of_mem this
    exact sd.def_ i hi
  · exact He.glo_ok kin G (facts (.glo r.x) (List.mem_append_left _ (List.mem_map.mpr ⟨r, hr, rfl⟩)))
  · have q := m.1 p hp
    unfold conB at q
    split at q
    · rename_i u e
      obtain ⟨v, h1, h2⟩ := valB_ok q
      exact ⟨u, v, PySem.W.mg_of kin G e, h1, h2⟩
    · cases q
  · exact He.free_ok kin G (facts (.free x) (List.mem_append_right _ (List.mem_map.mpr ⟨x, hx, rfl⟩)))
  · rcases m.2 with m2 | m2
    · rw [z] at m2
      cases m2
    · exact PySem.W.mg_of kin G (He.eqO_ok m2)
/-- the end: the evaluator says True -/
theorem walkEnd {l : PySem.W.OpenLaw} {T : Tx} {wf k n : Nat} {q : Program} {loose : List Str} {XP : (Str → Option Value) → Heap → Prop} {d : DefRec} {r : Row} (hn : l.most = some 63) (hdf : d.params.defaults = []) (room : Room k callerA)
    (hname : d.name = r.x) (hr : r ∈ T.rows) (hps : (psOf r.st).length = 1) (hbr : r.fn.br = false) (hfr : r.fn.fresh = false) (hpar : r.fn.params = 1)
    (hrows : ∀ r ∈ T.rows, rowC T r = true) (hbind : ∀ r ∈ T.rows, BindOk r) (hkw : ∀ q ∈ T.kw, ∀ r ∈ T.rows, r.x = q.1 → KwOk r q) (hnd : (T.rows.map (·.x)).Nodup)
    (hev : ∀ ns : List Int, ns.length ≤ 63 → ∃ d0, callN T.defs wf k r.fn.name [.list (ns.map .int)] = .ok (.bool true, d0)) :
    PySem.W.WalkO q loose XP (T.hook n).says l.row.toRowW d [] (fun f vs => PySem.call f vs) := by
  refine Att.attach_call hn hdf fun w s₀ s₁ mg mb fa o pm cd doc a vs ns G Y ho hd hcd hmg hobj hin hlen hg => ?_
  letI : Wd := ⟨l.prog, w⟩
  obtain ⟨K, kin, c⟩ := Y
  have kn := Tx.known kin G.T.g c
  obtain ⟨⟨fd, F⟩, hm⟩ := kn.fns r hr
  rw [hname, hm] at hmg
  cases hmg
  obtain ⟨x, hx⟩ : ∃ x, psOf r.st = [x] := by
    rcases hq : psOf r.st with _ | ⟨x, _ | ⟨y, ys⟩⟩ <;> rw [hq] at hps <;> simp at hps
    exact ⟨x, rfl⟩
  have b := hbind r hr
  refine lawRun (x := x) (sp := spF (callN T.defs wf k) K r.fn) (k := k) (fd := fd) kin G.T.g G.T.b G.T.builtins G.T.nolimit hg hobj hin (Nat.le_trans hlen (by rw [sizeLine_eq]; omega)) room (fun base kb gb => ?_) (fun s u => ?_) fun H sq => ?_
  · have := tabG (P := l.prog) (w := w) (base := base) (wf := wf) ⟨rfl, rfl⟩ kn hrows hbind hkw hnd k r hr fd F
    rw [hx] at this
    exact this
  · have := F.bindsA (ps := psOf r.st) b s [u] (by rw [hps]; rfl)
    rw [hx] at this
    exact this
  · refine ⟨fun _ => True, [.list (ns.map .int)], by rw [hpar]; rfl, fun _ _ => trivial, ?_, ?_⟩
    · rw [hbr]
      have ri : ∀ ms : List Int, RPs K H (fun _ => True) (ms.map V.int) (ms.map PyData.int) := fun ms => by
        induction ms with
        | nil => exact .nil
        | cons m ms ih => exact .cons (.int m) ih
      refine .val (.cons ?_ .nil)
      rcases sq with sq | sq
      · exact .lst trivial sq (ri ns)
      · exact .lit (.inr sq) (ri ns)
    · obtain ⟨d0, e⟩ := hev ns hlen
      rw [e]
      intro v H' ro
      have q := ro.val hfr
      cases q
      rfl
end PV
set_option Elab.async false
set_option linter.all false
set_option maxRecDepth 100000
/-! PM, part A: the evaluator's equations, one by one, for simp; what follows a step is told by a name, so that simp leaves it alone till the step is done. -/
namespace PV.M
open PySem PV
theorem bcongr {A B : Type} {r : Res A} {f g : A → Res B} (h : ∀ a, f a = g a) : r.bind f = r.bind g := by rw [funext h]
/-- an option as an expression's result -/
def optR (o : Option D) (e : Fram) : Res (D × Fram) := match o with
  | some d => .ok (d, e)
  | none => .bad
@[simp] theorem optR_some {d : D} {e : Fram} : optR (some d) e = .ok (d, e) := rfl
theorem optR_eq {o : Option D} {e : Fram} : ((opt o).bind fun z => .ok (z, e)) = optR o e := by cases o <;> rfl
def bind2 (o p : Option D) (f : D → D → Option D) : Option D := match o, p with
  | some x, some y => f x y
  | _, _ => none
@[simp] theorem bind2_some {x y : D} {f : D → D → Option D} : bind2 (some x) (some y) f = f x y := rfl
theorem bind2_eq {A : Type} {o p : Option D} {f : D → D → Option D} {g : D → Res A} : ((opt o).bind fun x => (opt p).bind fun y => (opt (f x y)).bind g) = (opt (bind2 o p f)).bind g := by
  cases o <;> cases p <;> rfl
def bind1 (o : Option D) (f : D → Option D) : Option D := match o with
  | some x => f x
  | none => none
@[simp] theorem bind1_some {x : D} {f : D → Option D} : bind1 (some x) f = f x := rfl
theorem bind1_eq {A : Type} {o : Option D} {f : D → Option D} {g : D → Res A} : ((opt o).bind fun x => (opt (f x)).bind g) = (opt (bind1 o f)).bind g := by cases o <;> rfl
section
variable {Ph : CallF} {wf : Nat} {br : Bool} {env e : Fram} {d : D}
/-! expressions -/
@[simp] theorem ev_var {i : Nat} : ev Ph (.var i) env = readVar i env := rfl
@[simp] theorem ev_int {i : Int} : ev Ph (.int i) env = .ok (.int i, env) := rfl
@[simp] theorem ev_str {s : Str} : ev Ph (.str s) env = .ok (.str s, env) := rfl
@[simp] theorem ev_bl {b : Bool} : ev Ph (.bl b) env = .ok (.bool b, env) := rfl
@[simp] theorem ev_non : ev Ph .non env = .ok (.none, env) := rfl
@[simp] theorem ev_glob {x : Str} {d : D} : ev Ph (.glob x d) env = .ok (d, env) := rfl
def kTup (p : List D × Fram) : Res (D × Fram) := .ok (.tuple p.1, p.2)
@[simp] theorem kTup_eq {ds : List D} : kTup (ds, e) = .ok (.tuple ds, e) := rfl
@[simp] theorem ev_tup {es : Exs} : ev Ph (.tup es) env = (evs Ph es env).bind kTup := rfl
def kLst (p : List D × Fram) : Res (D × Fram) := .ok (.list p.1, p.2)
@[simp] theorem kLst_eq {ds : List D} : kLst (ds, e) = .ok (.list ds, e) := rfl
@[simp] theorem ev_lst {es : Exs} : ev Ph (.lst es) env = (evs Ph es env).bind kLst := rfl
@[simp] theorem ev_dict0 : ev Ph .dict0 env = .ok (.dict [], env) := rfl
/-- the second operand's end -/
def kB2 (f : D → D → Option D) (x : Opd) (p : Opd × Fram) : Res (D × Fram) := optR (bind2 (deref p.2 x) (deref p.2 p.1) f) p.2
@[simp] theorem kB2_eq {f : D → D → Option D} {x y : Opd} : kB2 f x (y, e) = optR (bind2 (deref e x) (deref e y) f) e := rfl
def kB1 (Ph : CallF) (f : D → D → Option D) (b : Exp) (p : Opd × Fram) : Res (D × Fram) := (opd b p.2 (ev Ph b p.2)).bind (kB2 f p.1)
@[simp] theorem kB1_eq {f : D → D → Option D} {b : Exp} {x : Opd} : kB1 Ph f b (x, e) = (opd b e (ev Ph b e)).bind (kB2 f x) := rfl
@[simp] theorem ev_bin {o : Bop} {a b : Exp} : ev Ph (.bin o a b) env = (opd a env (ev Ph a env)).bind (kB1 Ph (binF o) b) := by
  refine bcongr fun p => bcongr fun q => ?_
  show ((opt (deref q.2 p.1)).bind fun x => (opt (deref q.2 q.1)).bind fun y => (opt (binF o x y)).bind fun z => .ok (z, q.2)) = _
  rw [bind2_eq, optR_eq]
  rfl
/-- a value's end -/
def kU (f : D → Option D) (p : D × Fram) : Res (D × Fram) := optR (f p.1) p.2
@[simp] theorem kU_eq {f : D → Option D} {x : D} : kU f (x, e) = optR (f x) e := rfl
def kO (f : D → Option D) (p : Opd × Fram) : Res (D × Fram) := optR (bind1 (deref p.2 p.1) f) p.2
@[simp] theorem kO_eq {f : D → Option D} {x : Opd} : kO f (x, e) = optR (bind1 (deref e x) f) e := rfl
/-- - x -/
def negF : D → Option D
  | .int i => some (.int (-i))
  | _ => none
@[simp] theorem negF_int {i : Int} : negF (.int i) = some (.int (-i)) := rfl
@[simp] theorem ev_neg {a : Exp} : ev Ph (.neg a) env = (ev Ph a env).bind (kU negF) := by
  refine bcongr fun p => ?_
  rcases p with ⟨d, e⟩
  cases d <;> rfl
/-- not x -/
def notF : D → Option D
  | .bool b => some (.bool (!b))
  | _ => none
@[simp] theorem notF_bool {b : Bool} : notF (.bool b) = some (.bool (!b)) := rfl
@[simp] theorem ev_nott {a : Exp} : ev Ph (.nott a) env = (ev Ph a env).bind (kU notF) := by
  refine bcongr fun p => ?_
  rcases p with ⟨d, e⟩
  cases d <;> rfl
@[simp] theorem ev_conj {es : Exs} : ev Ph (.conj es) env = evAnd Ph es env := rfl
@[simp] theorem ev_disj {es : Exs} : ev Ph (.disj es) env = evOr Ph es env := rfl
def isNF (d : D) : Option D := some (.bool (isNoneD d))
@[simp] theorem isNF_eq {x : D} : isNF x = some (.bool (isNoneD x)) := rfl
def notNF (d : D) : Option D := some (.bool (!isNoneD d))
@[simp] theorem notNF_eq {x : D} : notNF x = some (.bool (!isNoneD x)) := rfl
@[simp] theorem isNoneD_none : isNoneD .none = true := rfl
@[simp] theorem isNoneD_int {i : Int} : isNoneD (.int i) = false := rfl
@[simp] theorem isNoneD_bool {b : Bool} : isNoneD (.bool b) = false := rfl
@[simp] theorem isNoneD_str {x : Str} : isNoneD (.str x) = false := rfl
@[simp] theorem isNoneD_tuple {xs : List D} : isNoneD (.tuple xs) = false := rfl
@[simp] theorem isNoneD_list {xs : List D} : isNoneD (.list xs) = false := rfl
@[simp] theorem isNoneD_dict {xs : List (D × D)} : isNoneD (.dict xs) = false := rfl
@[simp] theorem ev_isN {a b : Exp} : ev Ph (.cmp .isN a b) env = (opd a env (ev Ph a env)).bind (kO isNF) := by
  refine bcongr fun p => ?_
  show ((opt (deref p.2 p.1)).bind fun x => .ok (.bool (isNoneD x), p.2)) = optR (bind1 (deref p.2 p.1) isNF) p.2
  cases deref p.2 p.1 <;> rfl
@[simp] theorem ev_notN {a b : Exp} : ev Ph (.cmp .notN a b) env = (opd a env (ev Ph a env)).bind (kO notNF) := by
  refine bcongr fun p => ?_
  show ((opt (deref p.2 p.1)).bind fun x => .ok (.bool (!isNoneD x), p.2)) = optR (bind1 (deref p.2 p.1) notNF) p.2
  cases deref p.2 p.1 <;> rfl
/-- a comparison's datum -/
def cmpD (o : Cop) (x y : D) : Option D := (cmpF o x y).map .bool
@[simp] theorem cmpD_eq {o : Cop} {x y : D} : cmpD o x y = (cmpF o x y).map .bool := rfl
theorem ev_cmpD {o : Cop} {a b : Exp} : ((opd a env (ev Ph a env)).bind fun p => (opd b p.2 (ev Ph b p.2)).bind fun q => (opt (deref q.2 p.1)).bind fun x => (opt (deref q.2 q.1)).bind fun y => (opt (cmpF o x y)).bind fun z => .ok (.bool z, q.2)) = (opd a env (ev Ph a env)).bind (kB1 Ph (cmpD o) b) := by
  refine bcongr fun p => bcongr fun q => ?_
  show _ = optR (bind2 (deref q.2 p.1) (deref q.2 q.1) (cmpD o)) q.2
  cases deref q.2 p.1 with
  | none => rfl
  | some x => cases deref q.2 q.1 with
    | none => rfl
    | some y =>
      show ((opt (cmpF o x y)).bind fun z => .ok (.bool z, q.2)) = optR ((cmpF o x y).map .bool) q.2
      cases cmpF o x y <;> rfl
@[simp] theorem ev_eq {a b : Exp} : ev Ph (.cmp .eq a b) env = (opd a env (ev Ph a env)).bind (kB1 Ph (cmpD .eq) b) := ev_cmpD
@[simp] theorem ev_ne {a b : Exp} : ev Ph (.cmp .ne a b) env = (opd a env (ev Ph a env)).bind (kB1 Ph (cmpD .ne) b) := ev_cmpD
@[simp] theorem ev_lt {a b : Exp} : ev Ph (.cmp .lt a b) env = (opd a env (ev Ph a env)).bind (kB1 Ph (cmpD .lt) b) := ev_cmpD
@[simp] theorem ev_le {a b : Exp} : ev Ph (.cmp .le a b) env = (opd a env (ev Ph a env)).bind (kB1 Ph (cmpD .le) b) := ev_cmpD
@[simp] theorem ev_gt {a b : Exp} : ev Ph (.cmp .gt a b) env = (opd a env (ev Ph a env)).bind (kB1 Ph (cmpD .gt) b) := ev_cmpD
@[simp] theorem ev_ge {a b : Exp} : ev Ph (.cmp .ge a b) env = (opd a env (ev Ph a env)).bind (kB1 Ph (cmpD .ge) b) := ev_cmpD
@[simp] theorem ev_inn {a b : Exp} : ev Ph (.cmp .inn a b) env = (opd a env (ev Ph a env)).bind (kB1 Ph (cmpD .inn) b) := ev_cmpD
@[simp] theorem ev_notin {a b : Exp} : ev Ph (.cmp .notin a b) env = (opd a env (ev Ph a env)).bind (kB1 Ph (cmpD .notin) b) := ev_cmpD
/-- the parts of a < b < c -/
def kD2 (f : D → D → Option D) (x : D) (p : D × Fram) : Res (D × Fram) := optR (f x p.1) p.2
@[simp] theorem kD2_eq {f : D → D → Option D} {x y : D} : kD2 f x (y, e) = optR (f x y) e := rfl
def kC3 (Ph : CallF) (o' : Cop) (c : Exp) (y : D) (env : Fram) : Option Bool → Res (D × Fram)
  | some true => (ev Ph c env).bind (kD2 (cmpD o') y)
  | some false => .ok (.bool false, env)
  | none => .bad
@[simp] theorem kC3_eq {o' : Cop} {c : Exp} {y : D} {b : Bool} : kC3 Ph o' c y env (some b) = if b = true then (ev Ph c env).bind (kD2 (cmpD o') y) else .ok (.bool false, env) := by cases b <;> rfl
def kC2 (Ph : CallF) (o o' : Cop) (c : Exp) (x : D) (p : D × Fram) : Res (D × Fram) := kC3 Ph o' c p.1 p.2 (cmpF o x p.1)
@[simp] theorem kC2_eq {o o' : Cop} {c : Exp} {x y : D} : kC2 Ph o o' c x (y, e) = kC3 Ph o' c y e (cmpF o x y) := rfl
def kC1 (Ph : CallF) (o o' : Cop) (b c : Exp) (p : D × Fram) : Res (D × Fram) := (ev Ph b p.2).bind (kC2 Ph o o' c p.1)
@[simp] theorem kC1_eq {o o' : Cop} {b c : Exp} {x : D} : kC1 Ph o o' b c (x, e) = (ev Ph b e).bind (kC2 Ph o o' c x) := rfl
@[simp] theorem ev_cmp2 {o o' : Cop} {a b c : Exp} : ev Ph (.cmp2 o o' a b c) env = (ev Ph a env).bind (kC1 Ph o o' b c) := by
  refine bcongr fun p => bcongr fun q => ?_
  show (opt (cmpF o p.1 q.1)).bind _ = kC3 Ph o' c q.1 q.2 (cmpF o p.1 q.1)
  cases cmpF o p.1 q.1 with
  | none => rfl
  | some z => cases z with
    | false => rfl
    | true =>
      show ((ev Ph c q.2).bind fun r => (opt (cmpF o' q.1 r.1)).bind fun z' => .ok (.bool z', r.2)) = (ev Ph c q.2).bind (kD2 (cmpD o') q.1)
      refine bcongr fun r => ?_
      show _ = optR ((cmpF o' q.1 r.1).map .bool) r.2
      cases cmpF o' q.1 r.1 <;> rfl
/-! tests -/
@[simp] theorem ite_and {A : Type} {p : Prop} [Decidable p] {c : Bool} {e : A} : (if p then Res.ok (PyData.bool c, e) else .ok (.bool false, e)) = .ok (.bool (decide p && c), e) := by
  by_cases h : p <;> simp [h]
@[simp] theorem ite_or {A : Type} {p : Prop} [Decidable p] {c : Bool} {e : A} : (if p then Res.ok (PyData.bool true, e) else .ok (.bool c, e)) = .ok (.bool (decide p || c), e) := by
  by_cases h : p <;> simp [h]
def kIte (Ph : CallF) (a b : Exp) (p : D × Fram) : Res (D × Fram) := match p.1 with
  | .bool true => ev Ph a p.2
  | .bool false => ev Ph b p.2
  | _ => .bad
@[simp] theorem kIte_eq {a b : Exp} {c : Bool} : kIte Ph a b (.bool c, e) = if c = true then ev Ph a e else ev Ph b e := by cases c <;> rfl
@[simp] theorem ev_ite {c a b : Exp} : ev Ph (.ite c a b) env = (ev Ph c env).bind (kIte Ph a b) := by
  refine bcongr fun p => ?_
  rcases p with ⟨d, e⟩
  cases d with
  | bool b => cases b <;> rfl
  | _ => rfl
def kI2 (f : D → D → Option D) (x : Opd) (p : D × Fram) : Res (D × Fram) := optR (bind2 (deref p.2 x) (some p.1) f) p.2
@[simp] theorem kI2_eq {f : D → D → Option D} {x : Opd} {y : D} : kI2 f x (y, e) = optR (bind2 (deref e x) (some y) f) e := rfl
def kI1 (Ph : CallF) (i : Exp) (p : Opd × Fram) : Res (D × Fram) := (ev Ph i p.2).bind (kI2 idxF p.1)
@[simp] theorem kI1_eq {i : Exp} {x : Opd} : kI1 Ph i (x, e) = (ev Ph i e).bind (kI2 idxF x) := rfl
@[simp] theorem ev_idx {a i : Exp} : ev Ph (.idx a i) env = (opd a env (ev Ph a env)).bind (kI1 Ph i) := by
  refine bcongr fun p => bcongr fun q => ?_
  show ((opt (deref q.2 p.1)).bind fun x => (opt (idxF x q.1)).bind fun z => .ok (z, q.2)) = optR (bind2 (deref q.2 p.1) (some q.1) idxF) q.2
  cases deref q.2 p.1 with
  | none => rfl
  | some x => exact optR_eq
def sliceG (l h : Option Int) (x : D) : Option D := sliceF x l h
@[simp] theorem sliceG_eq {l h : Option Int} {x : D} : sliceG l h x = sliceF x l h := rfl
def kS3 (x : Opd) (l : Option Int) (p : Option Int × Fram) : Res (D × Fram) := optR (bind1 (deref p.2 x) (sliceG l p.1)) p.2
@[simp] theorem kS3_eq {x : Opd} {l h : Option Int} : kS3 x l (h, e) = optR (bind1 (deref e x) (sliceG l h)) e := rfl
def kS2 (Ph : CallF) (hi : Exo) (x : Opd) (p : Option Int × Fram) : Res (D × Fram) := (evo Ph hi p.2).bind (kS3 x p.1)
@[simp] theorem kS2_eq {hi : Exo} {x : Opd} {l : Option Int} : kS2 Ph hi x (l, e) = (evo Ph hi e).bind (kS3 x l) := rfl
def kS1 (Ph : CallF) (lo hi : Exo) (p : Opd × Fram) : Res (D × Fram) := (evo Ph lo p.2).bind (kS2 Ph hi p.1)
@[simp] theorem kS1_eq {lo hi : Exo} {x : Opd} : kS1 Ph lo hi (x, e) = (evo Ph lo e).bind (kS2 Ph hi x) := rfl
@[simp] theorem ev_slice {a : Exp} {lo hi : Exo} : ev Ph (.slice a lo hi) env = (opd a env (ev Ph a env)).bind (kS1 Ph lo hi) := by
  refine bcongr fun p => bcongr fun q => bcongr fun r => ?_
  show ((opt (deref r.2 p.1)).bind fun x => (opt (sliceF x q.1 r.1)).bind fun z => .ok (z, r.2)) = optR (bind1 (deref r.2 p.1) (sliceG q.1 r.1)) r.2
  cases deref r.2 p.1 with
  | none => rfl
  | some x => exact optR_eq
/-- xs[::-1] -/
def revF : D → Option D
  | .list xs => some (.list xs.reverse)
  | .tuple xs => some (.tuple xs.reverse)
  | _ => none
@[simp] theorem revF_list {xs : List D} : revF (.list xs) = some (.list xs.reverse) := rfl
@[simp] theorem revF_tuple {xs : List D} : revF (.tuple xs) = some (.tuple xs.reverse) := rfl
@[simp] theorem ev_rev {a : Exp} : ev Ph (.rev a) env = (opd a env (ev Ph a env)).bind (kO revF) := by
  refine bcongr fun p => ?_
  show (opt (deref p.2 p.1)).bind _ = optR (bind1 (deref p.2 p.1) revF) p.2
  cases deref p.2 p.1 with
  | none => rfl
  | some x => cases x <;> rfl
/-! calls -/
/-- what a call's result is, the callee has no list to change -/
def callV (sl : Bool) (env : Fram) : Res (D × D) → Res (D × Fram)
  | .ok (d, _) => if sl && !flat d then .bad else .ok (d, env)
  | .exc x _ => .exc x env
  | .bad => .bad
@[simp] theorem callV_f {d d0 : D} : callV false env (.ok (d, d0)) = .ok (d, env) := rfl
@[simp] theorem callV_t {d d0 : D} : callV true env (.ok (d, d0)) = if (!flat d) = true then .bad else .ok (d, env) := rfl
/-- the same, the callee may change the first slot's list -/
def callB (env : Fram) : Res (D × D) → Res (D × Fram)
  | .ok (d, d0) => .ok (d, env.set 0 (.own d0))
  | _ => .bad
@[simp] theorem callB_ok {d d0 : D} : callB env (.ok (d, d0)) = .ok (d, env.set 0 (.own d0)) := rfl
def callO (Ph : CallF) (f : Str) (sl : Bool) (env : Fram) : Option (List D) → Res (D × Fram)
  | some ds => callV sl env (Ph f ds)
  | none => .bad
@[simp] theorem callO_some {f : Str} {sl : Bool} {ds : List D} : callO Ph f sl env (some ds) = callV sl env (Ph f ds) := rfl
def callP (Ph : CallF) (f : Str) (ok : Bool) (env : Fram) : Option (List D) → Res (D × Fram)
  | some ds => if ok = true then callB env (Ph f ds) else .bad
  | none => .bad
@[simp] theorem callP_some {f : Str} {ok : Bool} {ds : List D} : callP Ph f ok env (some ds) = if ok = true then callB env (Ph f ds) else .bad := rfl
@[simp] theorem callE_f {f : Str} {os : List Opd} : callE Ph f false os env = callO Ph f (anySlot os) env (derefs env os) := by
  unfold callE
  cases derefs env os with
  | none => rfl
  | some ds =>
    show ((match Ph f ds with
      | .ok (d, _) => if anySlot os && !flat d then .bad else .ok (d, env)
      | .exc x _ => .exc x env
      | .bad => .bad) : Res (D × Fram)) = callV (anySlot os) env (Ph f ds)
    cases Ph f ds with
    | ok p => rfl
    | _ => rfl
@[simp] theorem callE_t {f : Str} {i : Nat} {os : List Opd} : callE Ph f true (.slot i :: os) env = callP Ph f (decide (i = 0) && isOwn env 0 && !anySlot os) env (derefs env (.slot i :: os)) := by
  unfold callE
  cases derefs env (.slot i :: os) with
  | none => rfl
  | some ds =>
    show ((if (decide (i = 0) && isOwn env 0 && !anySlot os) = true then (match Ph f ds with
      | .ok (d, d0) => .ok (d, env.set 0 (.own d0))
      | _ => .bad) else .bad) : Res (D × Fram)) = (if (decide (i = 0) && isOwn env 0 && !anySlot os) = true then callB env (Ph f ds) else .bad)
    split
    · cases Ph f ds with
      | ok p => rfl
      | _ => rfl
    · rfl
def kCall (Ph : CallF) (f : Str) (b : Bool) (p : List Opd × Fram) : Res (D × Fram) := callE Ph f b p.1 p.2
@[simp] theorem kCall_eq {f : Str} {b : Bool} {os : List Opd} : kCall Ph f b (os, e) = callE Ph f b os e := rfl
@[simp] theorem ev_call {f : Str} {b : Bool} {es : Exs} : ev Ph (.call f b es) env = (evp Ph es env).bind (kCall Ph f b) := rfl
def kCK2 (Ph : CallF) (f : Str) (perm : List Nat) (os : List Opd) (p : List Opd × Fram) : Res (D × Fram) := callE Ph f false (os ++ permV perm p.1) p.2
@[simp] theorem kCK2_eq {f : Str} {perm : List Nat} {os ps : List Opd} : kCK2 Ph f perm os (ps, e) = callE Ph f false (os ++ permV perm ps) e := rfl
def kCK1 (Ph : CallF) (f : Str) (kes : Exs) (perm : List Nat) (p : List Opd × Fram) : Res (D × Fram) := (evp Ph kes p.2).bind (kCK2 Ph f perm p.1)
@[simp] theorem kCK1_eq {f : Str} {kes : Exs} {perm : List Nat} {os : List Opd} : kCK1 Ph f kes perm (os, e) = (evp Ph kes e).bind (kCK2 Ph f perm os) := rfl
@[simp] theorem ev_callK {f : Str} {b : Bool} {es kes : Exs} {ks : List Str} {perm : List Nat} : ev Ph (.callK f b es kes ks perm) env = (evp Ph es env).bind (kCK1 Ph f kes perm) := rfl
@[simp] theorem permV_nil {A : Type} {xs : List A} : permV [] xs = [] := rfl
@[simp] theorem permV_cons {A : Type} {i : Nat} {is : List Nat} {xs : List A} : permV (i :: is) xs = (match xs[i]? with
  | some x => x :: permV is xs
  | none => permV is xs) := by
  unfold permV
  rw [List.filterMap_cons]
  cases xs[i]? <;> rfl
/-- a value handed on -/
def okV {A : Type} (env : Fram) : Res (D × A) → Res (D × Fram)
  | .ok (d, _) => .ok (d, env)
  | _ => .bad
@[simp] theorem okV_ok {A : Type} {d : D} {a : A} : okV env (.ok (d, a)) = .ok (d, env) := rfl
/-- a new jar, handed to a def -/
def jarCall (Ph : CallF) (f : Str) (env : Fram) : Res (D × D) → Res (D × Fram)
  | .ok (j, _) => okV env (Ph f [j])
  | _ => .bad
@[simp] theorem jarCall_ok {f : Str} {j d0 : D} : jarCall Ph f env (.ok (j, d0)) = okV env (Ph f [j]) := rfl
def kCJ (Ph : CallF) (f g : Str) (p : List D × Fram) : Res (D × Fram) := jarCall Ph f p.2 (Ph g p.1)
@[simp] theorem kCJ_eq {f g : Str} {ds : List D} : kCJ Ph f g (ds, e) = jarCall Ph f e (Ph g ds) := rfl
@[simp] theorem ev_callJ {f g : Str} {es : Exs} : ev Ph (.callJ f g es) env = (evs Ph es env).bind (kCJ Ph f g) := by
  refine bcongr fun p => ?_
  show ((match Ph g p.1 with
    | .ok (j, _) => (match Ph f [j] with
      | .ok (d, _) => .ok (d, p.2)
      | _ => .bad)
    | _ => .bad) : Res (D × Fram)) = jarCall Ph f p.2 (Ph g p.1)
  cases Ph g p.1 with
  | ok q =>
    rcases q with ⟨j, d0⟩
    show ((match Ph f [j] with
      | .ok (d, _) => .ok (d, p.2)
      | _ => .bad) : Res (D × Fram)) = okV p.2 (Ph f [j])
    cases Ph f [j] with
    | ok q => rfl
    | _ => rfl
  | _ => rfl
def bltO (b : Blt) : Option (List D) → Option D
  | some ds => bltF b ds
  | none => none
@[simp] theorem bltO_some {b : Blt} {ds : List D} : bltO b (some ds) = bltF b ds := rfl
def kBlt (b : Blt) (p : List Opd × Fram) : Res (D × Fram) := optR (bltO b (derefs p.2 p.1)) p.2
@[simp] theorem kBlt_eq {b : Blt} {os : List Opd} : kBlt b (os, e) = optR (bltO b (derefs e os)) e := rfl
@[simp] theorem ev_blt {b : Blt} {es : Exs} : ev Ph (.blt b es) env = (evp Ph es env).bind (kBlt b) := by
  refine bcongr fun p => ?_
  show ((opt (derefs p.2 p.1)).bind fun ds => (opt (bltF b ds)).bind fun z => .ok (z, p.2)) = optR (bltO b (derefs p.2 p.1)) p.2
  cases derefs p.2 p.1 with
  | none => rfl
  | some ds => exact optR_eq
def isG (t : Ty) (x : D) : Option D := some (.bool (isF t x))
@[simp] theorem isG_eq {t : Ty} {x : D} : isG t x = some (.bool (isF t x)) := rfl
@[simp] theorem ev_isi {a : Exp} {t : Ty} : ev Ph (.isi a t) env = (opd a env (ev Ph a env)).bind (kO (isG t)) := by
  refine bcongr fun p => ?_
  show ((opt (deref p.2 p.1)).bind fun x => .ok (.bool (isF t x), p.2)) = optR (bind1 (deref p.2 p.1) (isG t)) p.2
  cases deref p.2 p.1 <;> rfl
def kDct (p : D × Fram) : Res (D × Fram) := optR (dictOfF p.1) p.2
@[simp] theorem kDct_eq {x : D} : kDct (x, e) = optR (dictOfF x) e := rfl
@[simp] theorem ev_dictof {a : Exp} : ev Ph (.dictof a) env = (ev Ph a env).bind kDct := by
  refine bcongr fun p => ?_
  exact optR_eq
@[simp] theorem ev_dcomp {own : List (Str × Nat)} {i j : Nat} {a : Exp} : ev Ph (.dcomp own i j a) env = if (decide (i < env.length) && decide (j < env.length)) = true then (ev Ph a env).bind kDct else .bad := by
  show (if (decide (i < env.length) && decide (j < env.length)) = true then (ev Ph a env).bind fun p => (opt (dictOfF p.1)).bind fun z => .ok (z, p.2) else .bad) = _
  congr 1
  refine bcongr fun p => ?_
  exact optR_eq
def kM2 (m : Met) (x : D) (q : List D × Fram) : Res (D × Fram) := optR (methF m x q.1) q.2
@[simp] theorem kM2_eq {m : Met} {x : D} {ys : List D} : kM2 m x (ys, e) = optR (methF m x ys) e := rfl
def kM1 (Ph : CallF) (m : Met) (es : Exs) (p : D × Fram) : Res (D × Fram) := if p.1.isTuple = true then (evs Ph es p.2).bind (kM2 m p.1) else .bad
@[simp] theorem kM1_eq {m : Met} {es : Exs} {xs : List D} : kM1 Ph m es (.tuple xs, e) = (evs Ph es e).bind (kM2 m (.tuple xs)) := rfl
@[simp] theorem ev_meth {m : Met} {o : Exp} {es : Exs} : ev Ph (.meth m o es) env = (ev Ph o env).bind (kM1 Ph m es) := by
  refine bcongr fun p => ?_
  show (if p.1.isTuple = true then (evs Ph es p.2).bind fun q => (opt (methF m p.1 q.1)).bind fun z => .ok (z, q.2) else .bad) = _
  unfold kM1
  congr 1
  refine bcongr fun q => ?_
  exact optR_eq
def kPop (i : Nat) (p : D × Fram) : Res (D × Fram) := match p.2[i]?, p.1 with
  | some (.own (.list xs)), .int k => (match place xs.length k with
    | some j => (match xs[j]? with
      | some y => if xs.length ≤ LINE then .ok (y, p.2.set i (.own (.list (xs.eraseIdx j)))) else .bad
      | none => .bad)
    | none => .bad)
  | _, _ => .bad
theorem kPop_list {i : Nat} {xs : List D} {k : Int} {j : Nat} {y : D} (h : e[i]? = some (.own (.list xs))) (hk : place xs.length k = some j) (hy : xs[j]? = some y) (hl : xs.length ≤ LINE) : kPop i (.int k, e) = .ok (y, e.set i (.own (.list (xs.eraseIdx j)))) := by
  unfold kPop
  show (match e[i]?, PyData.int k with
    | some (.own (.list xs)), .int k => (match place xs.length k with
      | some j => (match xs[j]? with
        | some y => if xs.length ≤ LINE then Res.ok (y, e.set i (.own (.list (xs.eraseIdx j)))) else .bad
        | none => .bad)
      | none => .bad)
    | _, _ => .bad) = _
  rw [h]
  show (match place xs.length k with
      | some j => (match xs[j]? with
        | some y => if xs.length ≤ LINE then Res.ok (y, e.set i (.own (.list (xs.eraseIdx j)))) else .bad
        | none => .bad)
      | none => .bad) = _
  rw [hk]
  show (match xs[j]? with
        | some y => if xs.length ≤ LINE then Res.ok (y, e.set i (.own (.list (xs.eraseIdx j)))) else .bad
        | none => .bad) = _
  rw [hy]
  exact if_pos hl
@[simp] theorem ev_popAt {i : Nat} {a : Exp} : ev Ph (.popAt i a) env = if (!isOwnL env i) = true then .bad else (ev Ph a env).bind (kPop i) := rfl
def kG3 (i : Nat) (y : D) (q : D × Fram) : Res (D × Fram) := optR (bind1 (look q.2 i) fun x => getF x y q.1) q.2
@[simp] theorem kG3_eq {i : Nat} {y z : D} : kG3 i y (z, e) = optR (bind1 (look e i) fun x => getF x y z) e := rfl
def kG2 (Ph : CallF) (i : Nat) (b : Exp) (p : D × Fram) : Res (D × Fram) := (ev Ph b p.2).bind (kG3 i p.1)
@[simp] theorem kG2_eq {i : Nat} {b : Exp} {y : D} : kG2 Ph i b (y, e) = (ev Ph b e).bind (kG3 i y) := rfl
def isDO : Option D → Bool
  | some (.dict _) => true
  | _ => false
@[simp] theorem isDO_dict {kvs : List (D × D)} : isDO (some (.dict kvs)) = true := rfl
@[simp] theorem ev_get2 {i : Nat} {a b : Exp} : ev Ph (.get2 i a b) env = if isDO (look env i) = true then (ev Ph a env).bind (kG2 Ph i b) else .bad := by
  show (match look env i with
    | some (.dict _) => (ev Ph a env).bind fun p => (ev Ph b p.2).bind fun q => (opt (look q.2 i)).bind fun x => (opt (getF x p.1 q.1)).bind fun z => .ok (z, q.2)
    | _ => .bad) = _
  split
  · rename_i h
    rw [h, isDO_dict, if_pos rfl]
    refine bcongr fun p => bcongr fun q => ?_
    rw [bind1_eq (f := fun x => getF x p.1 q.1)]
    exact optR_eq
  · rename_i h
    rw [if_neg]
    intro z
    unfold isDO at z
    split at z
    · rename_i kvs e
      exact h kvs e
    · cases z
/-! comprehensions -/
def kT3 (own : List Nat) (p : D × Fram) : Res (Option D × Fram) := .ok (some p.1, wipeF p.2 own)
@[simp] theorem kT3_eq {own : List Nat} {x : D} : kT3 own (x, e) = .ok (some x, wipeF e own) := rfl
def kT2 (Ph : CallF) (elt : Exp) (own : List Nat) (q : Bool × Fram) : Res (Option D × Fram) := match q.1 with
  | true => (ev Ph elt q.2).bind (kT3 own)
  | false => .ok (none, wipeF q.2 own)
@[simp] theorem kT2_eq {elt : Exp} {own : List Nat} {b : Bool} : kT2 Ph elt own (b, e) = if b = true then (ev Ph elt e).bind (kT3 own) else .ok (none, wipeF e own) := by cases b <;> rfl
def kT1 (Ph : CallF) (elt : Exp) (cs : Exs) (own : List Nat) : Option Fram → Res (Option D × Fram)
  | some e => (evTests Ph cs e).bind (kT2 Ph elt own)
  | none => .bad
@[simp] theorem kT1_some {elt : Exp} {cs : Exs} {own : List Nat} : kT1 Ph elt cs own (some e) = (evTests Ph cs e).bind (kT2 Ph elt own) := rfl
/-- one turn of a comprehension -/
def cTurn (Ph : CallF) (elt : Exp) (tg : Tg) (cs : Exs) (own : List Nat) (x : D) (e : Fram) : Res (Option D × Fram) := noExc (kT1 Ph elt cs own (store tg x e))
theorem cTurn_eq {elt : Exp} {tg : Tg} {cs : Exs} {own : List Nat} {x : D} : cTurn Ph elt tg cs own x e = noExc (kT1 Ph elt cs own (store tg x e)) := rfl
def kComp2 (env : Fram) (own : List Nat) (p : List D × Fram) : Res (D × Fram) := .ok (.list p.1, restore p.2 env own)
@[simp] theorem kComp2_eq {own : List Nat} {ds : List D} : kComp2 env own (ds, e) = .ok (.list ds, restore e env own) := rfl
/-- a comprehension over what is there -/
def cRun (Ph : CallF) (elt : Exp) (tg : Tg) (cs : Exs) (own : List Nat) (xs : List D) (env : Fram) : Res (D × Fram) := if (own.all fun v => !isOwn env v) && decide (xs.length ≤ LINE) then
  (compLoop (cTurn Ph elt tg cs own) xs [] (wipeF env own)).bind (kComp2 env own) else .bad
theorem cRun_eq {elt : Exp} {tg : Tg} {cs : Exs} {own : List Nat} {xs : List D} (h : (own.all fun v => !isOwn env v) = true) (hl : xs.length ≤ LINE) : cRun Ph elt tg cs own xs env = (compLoop (cTurn Ph elt tg cs own) xs [] (wipeF env own)).bind (kComp2 env own) := by
  unfold cRun
  rw [h, decide_eq_true hl]
  rfl
/-- a comprehension that draws nothing: a map, a filter -/
theorem cRun_map {elt : Exp} {tg : Tg} {cs : Exs} {own : List Nat} {xs : List D} (g : D → Option D) (h : (own.all fun v => !isOwn env v) = true) (hl : xs.length ≤ LINE)
    (ht : ∀ x ∈ xs, cTurn Ph elt tg cs own x (wipeF env own) = .ok (g x, wipeF env own)) (hr : restore (wipeF env own) env own = env) : cRun Ph elt tg cs own xs env = .ok (.list (xs.filterMap g), env) := by
  rw [cRun_eq h hl]
  have : ∀ {ys acc : List D}, (∀ x ∈ ys, cTurn Ph elt tg cs own x (wipeF env own) = .ok (g x, wipeF env own)) → compLoop (cTurn Ph elt tg cs own) ys acc (wipeF env own) = .ok (acc ++ ys.filterMap g, wipeF env own) := by
    intro ys
    induction ys with
    | nil =>
      intro acc _
      simp
      rfl
    | cons y ys ih =>
      intro acc hy
      have h1 := hy y (List.mem_cons_self ..)
      show (cTurn Ph elt tg cs own y (wipeF env own)).bind _ = _
      rw [h1]
      show compLoop _ ys (match g y with
        | some y => acc ++ [y]
        | none => acc) _ = _
      rw [List.filterMap_cons]
      cases g y with
      | none => exact ih fun x hx => hy x (List.mem_cons_of_mem _ hx)
      | some z =>
        show compLoop _ ys (acc ++ [z]) _ = .ok (acc ++ z :: _, _)
        rw [ih fun x hx => hy x (List.mem_cons_of_mem _ hx)]
        simp
  rw [this ht]
  show Res.ok (PyData.list _, restore (wipeF env own) env own) = _
  rw [hr, List.nil_append]
theorem cRun_map1 {elt : Exp} {tg : Tg} {cs : Exs} {own : List Nat} {xs : List D} (g : D → D) (h : (own.all fun v => !isOwn env v) = true) (hl : xs.length ≤ LINE)
    (ht : ∀ x ∈ xs, cTurn Ph elt tg cs own x (wipeF env own) = .ok (some (g x), wipeF env own)) (hr : restore (wipeF env own) env own = env) : cRun Ph elt tg cs own xs env = .ok (.list (xs.map g), env) := by
  rw [cRun_map (fun x => some (g x)) h hl ht hr]
  simp
def kComp (Ph : CallF) (elt : Exp) (tg : Tg) (cs : Exs) (own : List Nat) (p : List D × Fram) : Res (D × Fram) := cRun Ph elt tg cs own p.1 p.2
@[simp] theorem kComp_eq {elt : Exp} {tg : Tg} {cs : Exs} {own : List Nat} {xs : List D} : kComp Ph elt tg cs own (xs, e) = cRun Ph elt tg cs own xs e := rfl
@[simp] theorem ev_comp {elt : Exp} {tg : Tg} {it : Itx} {cs : Exs} {own : List (Str × Nat)} : ev Ph (.comp elt tg it cs own) env = (evIt Ph it env).bind (kComp Ph elt tg cs (own.map (·.2))) := by
  refine bcongr fun p => ?_
  show (if ((own.map (·.2)).all fun v => !isOwn p.2 v) && decide (p.1.length ≤ LINE) then _ else _) = cRun Ph elt tg cs (own.map (·.2)) p.1 p.2
  unfold cRun
  split
  · have : (fun x e => noExc ((opt (store tg x e)).bind fun e1 => (evTests Ph cs e1).bind fun q => match q.1 with
      | true => (ev Ph elt q.2).bind fun r => .ok (some r.1, wipeF r.2 (own.map (·.2)))
      | false => .ok (none, wipeF q.2 (own.map (·.2))))) = cTurn Ph elt tg cs (own.map (·.2)) := by
      funext x e
      unfold cTurn
      congr 1
      cases store tg x e with
      | none => rfl
      | some e1 =>
        show (evTests Ph cs e1).bind _ = (evTests Ph cs e1).bind _
        refine bcongr fun q => ?_
        rcases q with ⟨b, e⟩
        cases b <;> rfl
    show (compLoop _ p.1 [] _).bind _ = (compLoop _ p.1 [] _).bind _
    exact congrArg (fun t => Res.bind (compLoop t p.1 [] (wipeF p.2 (own.map (·.2)))) (kComp2 p.2 (own.map (·.2)))) this
  · rfl
/-! arguments -/
def kCons (d : D) (p : List D × Fram) : Res (List D × Fram) := .ok (d :: p.1, p.2)
@[simp] theorem kCons_eq {x : D} {xs : List D} : kCons x (xs, e) = .ok (x :: xs, e) := rfl
def kEvs (Ph : CallF) (es : Exs) (p : D × Fram) : Res (List D × Fram) := (evs Ph es p.2).bind (kCons p.1)
@[simp] theorem kEvs_eq {es : Exs} {x : D} : kEvs Ph es (x, e) = (evs Ph es e).bind (kCons x) := rfl
@[simp] theorem evs_nil : evs Ph .nil env = .ok ([], env) := rfl
@[simp] theorem evs_cons {a : Exp} {es : Exs} : evs Ph (.cons a es) env = (ev Ph a env).bind (kEvs Ph es) := rfl
def kConp (d : Opd) (p : List Opd × Fram) : Res (List Opd × Fram) := .ok (d :: p.1, p.2)
@[simp] theorem kConp_eq {x : Opd} {xs : List Opd} : kConp x (xs, e) = .ok (x :: xs, e) := rfl
def kEvp (Ph : CallF) (es : Exs) (p : Opd × Fram) : Res (List Opd × Fram) := (evp Ph es p.2).bind (kConp p.1)
@[simp] theorem kEvp_eq {es : Exs} {x : Opd} : kEvp Ph es (x, e) = (evp Ph es e).bind (kConp x) := rfl
@[simp] theorem evp_nil : evp Ph .nil env = .ok ([], env) := rfl
@[simp] theorem evp_cons {a : Exp} {es : Exs} : evp Ph (.cons a es) env = (opd a env (ev Ph a env)).bind (kEvp Ph es) := rfl
@[simp] theorem evo_non : evo Ph .non env = .ok (none, env) := rfl
def kInt (p : D × Fram) : Res (Option Int × Fram) := match p.1 with
  | .int i => .ok (some i, p.2)
  | _ => .bad
@[simp] theorem kInt_eq {i : Int} : kInt (.int i, e) = .ok (some i, e) := rfl
@[simp] theorem evo_som {a : Exp} : evo Ph (.som a) env = (ev Ph a env).bind kInt := rfl
/-! and, or -/
def kAnd (Ph : CallF) (es : Exs) (p : D × Fram) : Res (D × Fram) := match p.1 with
  | .bool false => .ok (.bool false, p.2)
  | .bool true => evAnd Ph es p.2
  | _ => .bad
@[simp] theorem kAnd_eq {es : Exs} {b : Bool} : kAnd Ph es (.bool b, e) = if b = true then evAnd Ph es e else .ok (.bool false, e) := by cases b <;> rfl
def kBool (p : D × Fram) : Res (D × Fram) := match p.1 with
  | .bool b => .ok (.bool b, p.2)
  | _ => .bad
@[simp] theorem kBool_eq {b : Bool} : kBool (.bool b, e) = .ok (.bool b, e) := rfl
@[simp] theorem evAnd_one {a : Exp} : evAnd Ph (.cons a .nil) env = (ev Ph a env).bind kBool := by
  refine bcongr fun p => ?_
  rcases p with ⟨d, e⟩
  cases d with
  | bool b => cases b <;> rfl
  | _ => rfl
@[simp] theorem evAnd_more {a e2 : Exp} {es : Exs} : evAnd Ph (.cons a (.cons e2 es)) env = (ev Ph a env).bind (kAnd Ph (.cons e2 es)) := by
  refine bcongr fun p => ?_
  rcases p with ⟨d, e⟩
  cases d with
  | bool b => cases b <;> rfl
  | _ => rfl
def kOr (Ph : CallF) (es : Exs) (p : D × Fram) : Res (D × Fram) := match p.1 with
  | .bool true => .ok (.bool true, p.2)
  | .bool false => evOr Ph es p.2
  | _ => .bad
@[simp] theorem kOr_eq {es : Exs} {b : Bool} : kOr Ph es (.bool b, e) = if b = true then .ok (.bool true, e) else evOr Ph es e := by cases b <;> rfl
@[simp] theorem evOr_one {a : Exp} : evOr Ph (.cons a .nil) env = (ev Ph a env).bind kBool := by
  refine bcongr fun p => ?_
  rcases p with ⟨d, e⟩
  cases d with
  | bool b => cases b <;> rfl
  | _ => rfl
@[simp] theorem evOr_more {a e2 : Exp} {es : Exs} : evOr Ph (.cons a (.cons e2 es)) env = (ev Ph a env).bind (kOr Ph (.cons e2 es)) := by
  refine bcongr fun p => ?_
  rcases p with ⟨d, e⟩
  cases d with
  | bool b => cases b <;> rfl
  | _ => rfl
@[simp] theorem evTests_nil : evTests Ph .nil env = .ok (true, env) := rfl
def kTest (p : D × Fram) : Res (Bool × Fram) := match p.1 with
  | .bool b => .ok (b, p.2)
  | _ => .bad
@[simp] theorem kTest_eq {b : Bool} : kTest (.bool b, e) = .ok (b, e) := rfl
@[simp] theorem evTests_one {a : Exp} : evTests Ph (.cons a .nil) env = (ev Ph a env).bind kTest := by
  refine bcongr fun p => ?_
  rcases p with ⟨d, e⟩
  cases d with
  | bool b => cases b <;> rfl
  | _ => rfl
/-! what is walked -/
def optL (o : Option (List D)) (e : Fram) : Res (List D × Fram) := match o with
  | some d => .ok (d, e)
  | none => .bad
@[simp] theorem optL_some {d : List D} : optL (some d) e = .ok (d, e) := rfl
theorem optL_eq {o : Option (List D)} : ((opt o).bind fun z => .ok (z, e)) = optL o e := by cases o <;> rfl
def kW (f : D → Option (List D)) (p : D × Fram) : Res (List D × Fram) := optL (f p.1) p.2
@[simp] theorem kW_eq {f : D → Option (List D)} {x : D} : kW f (x, e) = optL (f x) e := rfl
@[simp] theorem evIt_seq {a : Exp} : evIt Ph (.seq a) env = (ev Ph a env).bind (kW walk?) := bcongr fun p => optL_eq
/-- a range's numbers -/
def rng1 : D → Option (List D)
  | .int j => if -(2 ^ 62) ≤ j ∧ j ≤ LINE then some (rangeD 0 j) else none
  | _ => none
theorem rng1_int {j : Int} (h1 : -(2 ^ 62) ≤ j) (h2 : j ≤ LINE) : rng1 (.int j) = some (rangeD 0 j) := if_pos ⟨h1, h2⟩
@[simp] theorem evIt_range1 {a : Exp} : evIt Ph (.range1 a) env = (ev Ph a env).bind (kW rng1) := by
  refine bcongr fun p => ?_
  rcases p with ⟨d, e⟩
  cases d with
  | int j =>
    show (if -(2 ^ 62) ≤ j ∧ j ≤ LINE then Res.ok (rangeD 0 j, e) else .bad) = optL (if -(2 ^ 62) ≤ j ∧ j ≤ LINE then some (rangeD 0 j) else none) e
    split <;> rfl
  | _ => rfl
def rng2 : D → D → Option (List D)
  | .int i, .int j => if (-(2 ^ 62) ≤ i ∧ i < 2 ^ 62 ∧ -(2 ^ 62) ≤ j ∧ j < 2 ^ 62) ∧ j - i ≤ LINE then some (rangeD i j) else none
  | _, _ => none
theorem rng2_int {i j : Int} (h : (-(2 ^ 62) ≤ i ∧ i < 2 ^ 62 ∧ -(2 ^ 62) ≤ j ∧ j < 2 ^ 62) ∧ j - i ≤ LINE) : rng2 (.int i) (.int j) = some (rangeD i j) := if_pos h
def kR2 (f : D → D → Option (List D)) (x : D) (p : D × Fram) : Res (List D × Fram) := optL (f x p.1) p.2
@[simp] theorem kR2_eq {f : D → D → Option (List D)} {x y : D} : kR2 f x (y, e) = optL (f x y) e := rfl
def kR1 (Ph : CallF) (f : D → D → Option (List D)) (b : Exp) (p : D × Fram) : Res (List D × Fram) := (ev Ph b p.2).bind (kR2 f p.1)
@[simp] theorem kR1_eq {f : D → D → Option (List D)} {b : Exp} {x : D} : kR1 Ph f b (x, e) = (ev Ph b e).bind (kR2 f x) := rfl
@[simp] theorem evIt_range2 {a b : Exp} : evIt Ph (.range2 a b) env = (ev Ph a env).bind (kR1 Ph rng2 b) := by
  refine bcongr fun p => bcongr fun q => ?_
  rcases p with ⟨d, e⟩
  rcases q with ⟨d', e'⟩
  cases d with
  | int i => cases d' with
    | int j =>
      show (if (-(2 ^ 62) ≤ i ∧ i < 2 ^ 62 ∧ -(2 ^ 62) ≤ j ∧ j < 2 ^ 62) ∧ j - i ≤ LINE then Res.ok (rangeD i j, e') else .bad) = optL (if (-(2 ^ 62) ≤ i ∧ i < 2 ^ 62 ∧ -(2 ^ 62) ≤ j ∧ j < 2 ^ 62) ∧ j - i ≤ LINE then some (rangeD i j) else none) e'
      split <;> rfl
    | _ => rfl
  | _ => rfl
def zipF (x y : D) : Option (List D) := match items? x, items? y with
  | some xs, some ys => some (zipD xs ys)
  | _, _ => none
@[simp] theorem zipF_eq {x y : D} : zipF x y = (match items? x, items? y with
  | some xs, some ys => some (zipD xs ys)
  | _, _ => none) := rfl
@[simp] theorem evIt_zip {a b : Exp} : evIt Ph (.zip a b) env = (ev Ph a env).bind (kR1 Ph zipF b) := by
  refine bcongr fun p => bcongr fun q => ?_
  show ((opt (items? p.1)).bind fun xs => (opt (items? q.1)).bind fun ys => .ok (zipD xs ys, q.2)) = optL (zipF p.1 q.1) q.2
  unfold zipF
  cases items? p.1 with
  | none => rfl
  | some xs => cases items? q.1 <;> rfl
def enumF (x : D) : Option (List D) := (items? x).map (enumD 0)
@[simp] theorem enumF_eq {x : D} : enumF x = (items? x).map (enumD 0) := rfl
@[simp] theorem evIt_enum {a : Exp} : evIt Ph (.enum a) env = (ev Ph a env).bind (kW enumF) := by
  refine bcongr fun p => ?_
  show ((opt (items? p.1)).bind fun xs => .ok (enumD 0 xs, p.2)) = optL ((items? p.1).map (enumD 0)) p.2
  cases items? p.1 <;> rfl
/-! operands -/
/-- an operand that is no variable -/
def kOpv (p : D × Fram) : Res (Opd × Fram) := .ok (.val p.1, p.2)
@[simp] theorem kOpv_eq {x : D} : kOpv (x, e) = .ok (.val x, e) := rfl
@[simp] theorem opd_var {i : Nat} {r : Res (D × Fram)} : opd (.var i) env r = if isOwn env i = true then .ok (.slot i, env) else r.bind kOpv := rfl
@[simp] theorem opd_int {x0 : Int} {r : Res (D × Fram)} : opd (.int x0) env r = r.bind kOpv := rfl
@[simp] theorem opd_str {x0 : Str} {r : Res (D × Fram)} : opd (.str x0) env r = r.bind kOpv := rfl
@[simp] theorem opd_bl {x0 : Bool} {r : Res (D × Fram)} : opd (.bl x0) env r = r.bind kOpv := rfl
@[simp] theorem opd_non  {r : Res (D × Fram)} : opd (.non) env r = r.bind kOpv := rfl
@[simp] theorem opd_glob {x0 : Str} {x1 : D} {r : Res (D × Fram)} : opd (.glob x0 x1) env r = r.bind kOpv := rfl
@[simp] theorem opd_tup {x0 : Exs} {r : Res (D × Fram)} : opd (.tup x0) env r = r.bind kOpv := rfl
@[simp] theorem opd_lst {x0 : Exs} {r : Res (D × Fram)} : opd (.lst x0) env r = r.bind kOpv := rfl
@[simp] theorem opd_dict0  {r : Res (D × Fram)} : opd (.dict0) env r = r.bind kOpv := rfl
@[simp] theorem opd_bin {x0 : Bop} {x1 : Exp} {x2 : Exp} {r : Res (D × Fram)} : opd (.bin x0 x1 x2) env r = r.bind kOpv := rfl
@[simp] theorem opd_neg {x0 : Exp} {r : Res (D × Fram)} : opd (.neg x0) env r = r.bind kOpv := rfl
@[simp] theorem opd_nott {x0 : Exp} {r : Res (D × Fram)} : opd (.nott x0) env r = r.bind kOpv := rfl
@[simp] theorem opd_conj {x0 : Exs} {r : Res (D × Fram)} : opd (.conj x0) env r = r.bind kOpv := rfl
@[simp] theorem opd_disj {x0 : Exs} {r : Res (D × Fram)} : opd (.disj x0) env r = r.bind kOpv := rfl
@[simp] theorem opd_cmp {x0 : Cop} {x1 : Exp} {x2 : Exp} {r : Res (D × Fram)} : opd (.cmp x0 x1 x2) env r = r.bind kOpv := rfl
@[simp] theorem opd_cmp2 {x0 : Cop} {x1 : Cop} {x2 : Exp} {x3 : Exp} {x4 : Exp} {r : Res (D × Fram)} : opd (.cmp2 x0 x1 x2 x3 x4) env r = r.bind kOpv := rfl
@[simp] theorem opd_ite {x0 : Exp} {x1 : Exp} {x2 : Exp} {r : Res (D × Fram)} : opd (.ite x0 x1 x2) env r = r.bind kOpv := rfl
@[simp] theorem opd_idx {x0 : Exp} {x1 : Exp} {r : Res (D × Fram)} : opd (.idx x0 x1) env r = r.bind kOpv := rfl
@[simp] theorem opd_slice {x0 : Exp} {x1 : Exo} {x2 : Exo} {r : Res (D × Fram)} : opd (.slice x0 x1 x2) env r = r.bind kOpv := rfl
@[simp] theorem opd_rev {x0 : Exp} {r : Res (D × Fram)} : opd (.rev x0) env r = r.bind kOpv := rfl
@[simp] theorem opd_call {x0 : Str} {x1 : Bool} {x2 : Exs} {r : Res (D × Fram)} : opd (.call x0 x1 x2) env r = r.bind kOpv := rfl
@[simp] theorem opd_callK {x0 : Str} {x1 : Bool} {x2 : Exs} {x3 : Exs} {x4 : List Str} {x5 : List Nat} {r : Res (D × Fram)} : opd (.callK x0 x1 x2 x3 x4 x5) env r = r.bind kOpv := rfl
@[simp] theorem opd_callJ {x0 : Str} {x1 : Str} {x2 : Exs} {r : Res (D × Fram)} : opd (.callJ x0 x1 x2) env r = r.bind kOpv := rfl
@[simp] theorem opd_blt {x0 : Blt} {x1 : Exs} {r : Res (D × Fram)} : opd (.blt x0 x1) env r = r.bind kOpv := rfl
@[simp] theorem opd_isi {x0 : Exp} {x1 : Ty} {r : Res (D × Fram)} : opd (.isi x0 x1) env r = r.bind kOpv := rfl
@[simp] theorem opd_get2 {x0 : Nat} {x1 : Exp} {x2 : Exp} {r : Res (D × Fram)} : opd (.get2 x0 x1 x2) env r = r.bind kOpv := rfl
@[simp] theorem opd_dictof {x0 : Exp} {r : Res (D × Fram)} : opd (.dictof x0) env r = r.bind kOpv := rfl
@[simp] theorem opd_dcomp {x0 : List (Str × Nat)} {x1 : Nat} {x2 : Nat} {x3 : Exp} {r : Res (D × Fram)} : opd (.dcomp x0 x1 x2 x3) env r = r.bind kOpv := rfl
@[simp] theorem opd_meth {x0 : Met} {x1 : Exp} {x2 : Exs} {r : Res (D × Fram)} : opd (.meth x0 x1 x2) env r = r.bind kOpv := rfl
@[simp] theorem opd_pop {x0 : Nat} {r : Res (D × Fram)} : opd (.pop x0) env r = r.bind kOpv := rfl
@[simp] theorem opd_popAt {x0 : Nat} {x1 : Exp} {r : Res (D × Fram)} : opd (.popAt x0 x1) env r = r.bind kOpv := rfl
@[simp] theorem opd_comp {x0 : Exp} {x1 : Tg} {x2 : Itx} {x3 : Exs} {x4 : List (Str × Nat)} {r : Res (D × Fram)} : opd (.comp x0 x1 x2 x3 x4) env r = r.bind kOpv := rfl
@[simp] theorem deref_val {d : D} : deref env (.val d) = some d := rfl
@[simp] theorem deref_slot {i : Nat} : deref env (.slot i) = look env i := rfl
def consO (o : Option D) (os : Option (List D)) : Option (List D) := match o, os with
  | some d, some ds => some (d :: ds)
  | _, _ => none
@[simp] theorem consO_some {d : D} {ds : List D} : consO (some d) (some ds) = some (d :: ds) := rfl
@[simp] theorem derefs_nil : derefs env [] = some [] := rfl
@[simp] theorem derefs_cons {o : Opd} {os : List Opd} : derefs env (o :: os) = consO (deref env o) (derefs env os) := by
  show (deref env o).bind _ = _
  cases deref env o with
  | none => rfl
  | some d =>
    show (derefs env os).map _ = _
    cases derefs env os <;> rfl
@[simp] theorem anySlot_nil : anySlot [] = false := rfl
@[simp] theorem anySlot_slot {i : Nat} {os : List Opd} : anySlot (.slot i :: os) = true := rfl
@[simp] theorem anySlot_val {d : D} {os : List Opd} : anySlot (.val d :: os) = anySlot os := rfl
/-! statements -/
def kExpr (p : D × Fram) : Res (Flw × Fram) := .ok (.nx, p.2)
@[simp] theorem kExpr_eq {x : D} : kExpr (x, e) = .ok (.nx, e) := rfl
@[simp] theorem evS_expr {a : Exp} : evS Ph wf br (.expr a) env = (ev Ph a env).bind kExpr := rfl
def kSet (br : Bool) (i : Nat) (p : D × Fram) : Res (Flw × Fram) := if i < p.2.length && !(br && i == 0) then .ok (.nx, p.2.set i (.val p.1)) else .bad
@[simp] theorem kSet_eq {i : Nat} {x : D} : kSet br i (x, e) = if (decide (i < e.length) && !(br && i == 0)) = true then .ok (.nx, e.set i (.val x)) else .bad := rfl
@[simp] theorem evS_set {i : Nat} {a : Exp} : evS Ph wf br (.set i a) env = (ev Ph a env).bind (kSet br i) := rfl
def kOwn (br : Bool) (i : Nat) (mk : Bool) (p : D × Fram) : Res (Flw × Fram) := if i < p.2.length && !(br && i == 0) && mk && isSeq p.1 then .ok (.nx, p.2.set i (.own p.1)) else .bad
@[simp] theorem kOwn_eq {i : Nat} {mk : Bool} {x : D} : kOwn br i mk (x, e) = if (decide (i < e.length) && !(br && i == 0) && mk && isSeq x) = true then .ok (.nx, e.set i (.own x)) else .bad := rfl
@[simp] theorem evS_own {i : Nat} {a : Exp} : evS Ph wf br (.own i a) env = (ev Ph a env).bind (kOwn br i (makes a)) := rfl
def kUnp (ts : List Tg) (p : D × Fram) : Res (Flw × Fram) := match p.1 with
  | .tuple ds => (match stores ts ds p.2 with
    | some e => .ok (.nx, e)
    | none => .bad)
  | _ => .bad
def optS (o : Option Fram) : Res (Flw × Fram) := match o with
  | some e => .ok (.nx, e)
  | none => .bad
@[simp] theorem optS_some : optS (some e) = .ok (.nx, e) := rfl
theorem optS_eq {o : Option Fram} : ((opt o).bind fun e1 => .ok (.nx, e1)) = optS o := by cases o <;> rfl
@[simp] theorem kUnp_eq {ts : List Tg} {ds : List D} : kUnp ts (.tuple ds, e) = optS (stores ts ds e) := rfl
@[simp] theorem evS_unp {ts : List Tg} {a : Exp} : evS Ph wf br (.unp ts a) env = (ev Ph a env).bind (kUnp ts) := by
  refine bcongr fun p => ?_
  rcases p with ⟨d, e⟩
  cases d with
  | tuple ds => exact optS_eq
  | _ => rfl
def kPar (br : Bool) (is : List (Nat × Bool)) (es : Exs) (p : List D × Fram) : Res (Flw × Fram) := optS (putAll br is es p.1 p.2)
@[simp] theorem kPar_eq {is : List (Nat × Bool)} {es : Exs} {ds : List D} : kPar br is es (ds, e) = optS (putAll br is es ds e) := rfl
@[simp] theorem evS_par {is : List (Nat × Bool)} {es : Exs} : evS Ph wf br (.par is es) env = (evs Ph es env).bind (kPar br is es) := bcongr fun _ => optS_eq
/-- an item of a frame's list, dict is stored -/
def setF (i : Nat) (env : Fram) (y x : D) : Res (Flw × Fram) := match env[i]?, y with
  | some (.own (.list xs)), .int k => (match place xs.length k with
    | some j => .ok (.nx, env.set i (.own (.list (xs.set j x))))
    | none => .bad)
  | some (.own (.dict kvs)), y => (match key? y with
    | some k => if kvs.length < LINE then .ok (.nx, env.set i (.own (.dict (dPut kvs k y x)))) else .bad
    | none => .bad)
  | _, _ => .bad
theorem setF_list {i : Nat} {xs : List D} {k : Int} {j : Nat} {x : D} (h : env[i]? = some (.own (.list xs))) (hp : place xs.length k = some j) : setF i env (.int k) x = .ok (.nx, env.set i (.own (.list (xs.set j x)))) := by
  unfold setF
  rw [h]
  show (match place xs.length k with
    | some j => Res.ok (Flw.nx, env.set i (.own (.list (xs.set j x))))
    | none => .bad) = _
  rw [hp]
theorem setF_dict {i : Nat} {kvs : List (D × D)} {y x : D} {k : NestedKey} (h : env[i]? = some (.own (.dict kvs))) (hk : key? y = some k) (hl : kvs.length < LINE) : setF i env y x = .ok (.nx, env.set i (.own (.dict (dPut kvs k y x)))) := by
  unfold setF
  rw [h]
  show (match key? y with
    | some k => if kvs.length < LINE then Res.ok (Flw.nx, env.set i (.own (.dict (dPut kvs k y x)))) else .bad
    | none => .bad) = _
  rw [hk]
  exact if_pos hl
def kIx2 (i : Nat) (x : D) (p : D × Fram) : Res (Flw × Fram) := setF i p.2 p.1 x
@[simp] theorem kIx2_eq {i : Nat} {x y : D} : kIx2 i x (y, e) = setF i e y x := rfl
def kIx1 (Ph : CallF) (i : Nat) (ix : Exp) (p : D × Fram) : Res (Flw × Fram) := if !isOwn p.2 i then .bad else (ev Ph ix p.2).bind (kIx2 i p.1)
@[simp] theorem kIx1_eq {i : Nat} {ix : Exp} {x : D} : kIx1 Ph i ix (x, e) = if (!isOwn e i) = true then .bad else (ev Ph ix e).bind (kIx2 i x) := rfl
@[simp] theorem evS_setIx {i : Nat} {ix a : Exp} : evS Ph wf br (.setIx i ix a) env = (ev Ph a env).bind (kIx1 Ph i ix) := rfl
/-- divmod into an item and a name -/
def jarF (i j : Nat) (env : Fram) (k x y : D) : Res (Flw × Fram) := match env[i]?, k with
  | some (.own (.list xs)), .int k => (match place xs.length k with
    | some m => (opt (store (.name j) y (env.set i (.own (.list (xs.set m x)))))).bind fun e1 => .ok (.nx, e1)
    | none => .bad)
  | _, _ => .bad
theorem jarF_list {i j : Nat} {xs : List D} {k : Int} {m : Nat} {x y : D} (h : env[i]? = some (.own (.list xs))) (hp : place xs.length k = some m) : jarF i j env (.int k) x y = optS (store (.name j) y (env.set i (.own (.list (xs.set m x))))) := by
  unfold jarF
  rw [h]
  show (match place xs.length k with
    | some m => (opt (store (.name j) y (env.set i (.own (.list (xs.set m x)))))).bind fun e1 => Res.ok (Flw.nx, e1)
    | none => .bad) = _
  rw [hp]
  exact optS_eq
def kJar2 (i j : Nat) (x y : D) (p : D × Fram) : Res (Flw × Fram) := jarF i j p.2 p.1 x y
@[simp] theorem kJar2_eq {i j : Nat} {x y k : D} : kJar2 i j x y (k, e) = jarF i j e k x y := rfl
def kJar1 (Ph : CallF) (i : Nat) (ix : Exp) (j : Nat) (p : D × Fram) : Res (Flw × Fram) := match p.1 with
  | .tuple [x, y] => if !isOwn p.2 i then .bad else (ev Ph ix p.2).bind (kJar2 i j x y)
  | _ => .bad
@[simp] theorem kJar1_eq {i j : Nat} {ix : Exp} {x y : D} : kJar1 Ph i ix j (.tuple [x, y], e) = if (!isOwn e i) = true then .bad else (ev Ph ix e).bind (kJar2 i j x y) := rfl
@[simp] theorem evS_jar {i j : Nat} {ix a : Exp} : evS Ph wf br (.jar i ix j a) env = (ev Ph a env).bind (kJar1 Ph i ix j) := by
  refine bcongr fun p => ?_
  rcases p with ⟨d, e⟩
  cases d with
  | tuple ds =>
    match ds with
    | [] => rfl
    | [_] => rfl
    | [x, y] =>
      show (if (!isOwn e i) = true then Res.bad else _) = (if (!isOwn e i) = true then Res.bad else _)
      by_cases h : (!isOwn e i) = true
      · rw [if_pos h, if_pos h]
      · rw [if_neg h, if_neg h]
        rfl
    | _ :: _ :: _ :: _ => rfl
  | _ => rfl
/-- a list grows -/
def kApp (i : Nat) (p : D × Fram) : Res (Flw × Fram) := match p.2[i]? with
  | some (.own (.list xs)) => if xs.length < LINE then .ok (.nx, p.2.set i (.own (.list (xs ++ [p.1])))) else .bad
  | _ => .bad
theorem kApp_list {i : Nat} {xs : List D} {x : D} (h : e[i]? = some (.own (.list xs))) (hl : xs.length < LINE) : kApp i (x, e) = .ok (.nx, e.set i (.own (.list (xs ++ [x])))) := by
  unfold kApp
  show (match e[i]? with
    | some (.own (.list xs)) => if xs.length < LINE then Res.ok (Flw.nx, e.set i (.own (.list (xs ++ [x])))) else .bad
    | _ => .bad) = _
  rw [h]
  exact if_pos hl
@[simp] theorem evS_append {i : Nat} {a : Exp} : evS Ph wf br (.append i a) env = if (!isOwnL env i) = true then .bad else (ev Ph a env).bind (kApp i) := rfl
def kExt (i : Nat) (p : D × Fram) : Res (Flw × Fram) := match p.2[i]?, p.1 with
  | some (.own (.list xs)), .list ys => if xs.length + ys.length ≤ LINE then .ok (.nx, p.2.set i (.own (.list (xs ++ ys)))) else .bad
  | _, _ => .bad
theorem kExt_list {i : Nat} {xs ys : List D} (h : e[i]? = some (.own (.list xs))) (hl : xs.length + ys.length ≤ LINE) : kExt i (.list ys, e) = .ok (.nx, e.set i (.own (.list (xs ++ ys)))) := by
  unfold kExt
  show (match e[i]?, PyData.list ys with
    | some (.own (.list xs)), .list ys => if xs.length + ys.length ≤ LINE then Res.ok (Flw.nx, e.set i (.own (.list (xs ++ ys)))) else .bad
    | _, _ => .bad) = _
  rw [h]
  exact if_pos hl
@[simp] theorem evS_extend {i : Nat} {a : Exp} : evS Ph wf br (.extend i a) env = if (!isOwnL env i) = true then .bad else (ev Ph a env).bind (kExt i) := rfl
@[simp] theorem evS_retN : evS Ph wf br .retN env = .ok (.ret .none false, env) := rfl
def kIf (Ph : CallF) (wf : Nat) (br : Bool) (a b : Sts) (p : D × Fram) : Res (Flw × Fram) := match p.1 with
  | .bool true => evSs Ph wf br a p.2
  | .bool false => evSs Ph wf br b p.2
  | _ => .bad
@[simp] theorem kIf_eq {a b : Sts} {c : Bool} : kIf Ph wf br a b (.bool c, e) = if c = true then evSs Ph wf br a e else evSs Ph wf br b e := by cases c <;> rfl
@[simp] theorem evS_iff {c : Exp} {a b : Sts} : evS Ph wf br (.iff c a b) env = (ev Ph c env).bind (kIf Ph wf br a b) := by
  refine bcongr fun p => ?_
  rcases p with ⟨d, e⟩
  cases d with
  | bool b => cases b <;> rfl
  | _ => rfl
/-- a loop's test, its body -/
def wTest (Ph : CallF) (c : Exp) (e : Fram) : Res (D × Fram) := ev Ph c e
@[simp] theorem wTest_eq {c : Exp} : wTest Ph c e = ev Ph c e := rfl
def wBody (Ph : CallF) (wf : Nat) (br : Bool) (b : Sts) (e : Fram) : Res (Flw × Fram) := evSs Ph wf br b e
@[simp] theorem wBody_eq {b : Sts} : wBody Ph wf br b e = evSs Ph wf br b e := rfl
@[simp] theorem evS_whil {c : Exp} {b : Sts} : evS Ph wf br (.whil c b) env = whileLoop (wTest Ph c) (wBody Ph wf br b) wf env := rfl
/-- one turn of a loop -/
def fTurn (Ph : CallF) (wf : Nat) (br : Bool) (tg : Tg) (b : Sts) (x : D) (e : Fram) : Res (Flw × Fram) := match store tg x e with
  | some e => evSs Ph wf br b e
  | none => .bad
theorem fTurn_eq {tg : Tg} {b : Sts} {x : D} : fTurn Ph wf br tg b x e = (match store tg x e with
  | some e => evSs Ph wf br b e
  | none => .bad) := rfl
def kFor (Ph : CallF) (wf : Nat) (br : Bool) (tg : Tg) (b : Sts) (p : List D × Fram) : Res (Flw × Fram) := forLoop (fTurn Ph wf br tg b) p.1 p.2
@[simp] theorem kFor_eq {tg : Tg} {b : Sts} {xs : List D} : kFor Ph wf br tg b (xs, e) = forLoop (fTurn Ph wf br tg b) xs e := rfl
@[simp] theorem evS_forr {tg : Tg} {it : Itx} {b : Sts} : evS Ph wf br (.forr tg it b) env = (evIt Ph it env).bind (kFor Ph wf br tg b) := by
  refine bcongr fun p => ?_
  show forLoop _ p.1 p.2 = forLoop _ p.1 p.2
  congr 1
  funext x e
  unfold fTurn
  cases store tg x e <;> rfl
@[simp] theorem evS_brk : evS Ph wf br .brk env = .ok (.brk, env) := rfl
@[simp] theorem evS_cont : evS Ph wf br .cont env = .ok (.cont, env) := rfl
@[simp] theorem evS_pass : evS Ph wf br .pass env = .ok (.nx, env) := rfl
@[simp] theorem evS_never : evS Ph wf br .never env = .bad := rfl
/-- a return's value -/
def kRet (mk : Bool) (p : D × Fram) : Res (Flw × Fram) := .ok (.ret p.1 (mk && isSeq p.1), p.2)
@[simp] theorem kRet_eq {mk : Bool} {x : D} : kRet mk (x, e) = .ok (.ret x (mk && isSeq x), e) := rfl
def kRetv (p : D × Fram) : Res (Flw × Fram) := .ok (.ret p.1 false, p.2)
@[simp] theorem kRetv_eq {x : D} : kRetv (x, e) = .ok (.ret x false, e) := rfl
def optT (o : Option D) (e : Fram) : Res (Flw × Fram) := match o with
  | some d => .ok (.ret d true, e)
  | none => .bad
@[simp] theorem optT_some {x : D} : optT (some x) e = .ok (.ret x true, e) := rfl
@[simp] theorem evS_retv {i : Nat} : evS Ph wf br (.ret (.var i)) env = if (isOwn env i && !(i == 0)) = true then optT (look env i) env else (readVar i env).bind kRetv := by
  show (if isOwn env i && !(i == 0) then (opt (look env i)).bind _ else _) = _
  split
  · cases look env i <;> rfl
  · rfl
@[simp] theorem ret_int {x0 : Int} : evS Ph wf br (.ret (.int x0)) env = (ev Ph (.int x0) env).bind (kRet (makes (.int x0))) := rfl
@[simp] theorem makes_int {x0 : Int} : makes (.int x0) = false := rfl
@[simp] theorem ret_str {x0 : Str} : evS Ph wf br (.ret (.str x0)) env = (ev Ph (.str x0) env).bind (kRet (makes (.str x0))) := rfl
@[simp] theorem makes_str {x0 : Str} : makes (.str x0) = false := rfl
@[simp] theorem ret_bl {x0 : Bool} : evS Ph wf br (.ret (.bl x0)) env = (ev Ph (.bl x0) env).bind (kRet (makes (.bl x0))) := rfl
@[simp] theorem makes_bl {x0 : Bool} : makes (.bl x0) = false := rfl
@[simp] theorem ret_non  : evS Ph wf br (.ret .non) env = (ev Ph .non env).bind (kRet (makes .non)) := rfl
@[simp] theorem makes_non  : makes .non = false := rfl
@[simp] theorem ret_glob {x0 : Str} {x1 : D} : evS Ph wf br (.ret (.glob x0 x1)) env = (ev Ph (.glob x0 x1) env).bind (kRet (makes (.glob x0 x1))) := rfl
@[simp] theorem makes_glob {x0 : Str} {x1 : D} : makes (.glob x0 x1) = false := rfl
@[simp] theorem ret_tup {x0 : Exs} : evS Ph wf br (.ret (.tup x0)) env = (ev Ph (.tup x0) env).bind (kRet (makes (.tup x0))) := rfl
@[simp] theorem makes_tup {x0 : Exs} : makes (.tup x0) = false := rfl
@[simp] theorem ret_lst {x0 : Exs} : evS Ph wf br (.ret (.lst x0)) env = (ev Ph (.lst x0) env).bind (kRet (makes (.lst x0))) := rfl
@[simp] theorem makes_lst {x0 : Exs} : makes (.lst x0) = true := rfl
@[simp] theorem ret_dict0  : evS Ph wf br (.ret .dict0) env = (ev Ph .dict0 env).bind (kRet (makes .dict0)) := rfl
@[simp] theorem makes_dict0  : makes .dict0 = true := rfl
@[simp] theorem ret_bin {x0 : Bop} {x1 : Exp} {x2 : Exp} : evS Ph wf br (.ret (.bin x0 x1 x2)) env = (ev Ph (.bin x0 x1 x2) env).bind (kRet (makes (.bin x0 x1 x2))) := rfl
@[simp] theorem ret_neg {x0 : Exp} : evS Ph wf br (.ret (.neg x0)) env = (ev Ph (.neg x0) env).bind (kRet (makes (.neg x0))) := rfl
@[simp] theorem makes_neg {x0 : Exp} : makes (.neg x0) = false := rfl
@[simp] theorem ret_nott {x0 : Exp} : evS Ph wf br (.ret (.nott x0)) env = (ev Ph (.nott x0) env).bind (kRet (makes (.nott x0))) := rfl
@[simp] theorem makes_nott {x0 : Exp} : makes (.nott x0) = false := rfl
@[simp] theorem ret_conj {x0 : Exs} : evS Ph wf br (.ret (.conj x0)) env = (ev Ph (.conj x0) env).bind (kRet (makes (.conj x0))) := rfl
@[simp] theorem makes_conj {x0 : Exs} : makes (.conj x0) = false := rfl
@[simp] theorem ret_disj {x0 : Exs} : evS Ph wf br (.ret (.disj x0)) env = (ev Ph (.disj x0) env).bind (kRet (makes (.disj x0))) := rfl
@[simp] theorem makes_disj {x0 : Exs} : makes (.disj x0) = false := rfl
@[simp] theorem ret_cmp {x0 : Cop} {x1 : Exp} {x2 : Exp} : evS Ph wf br (.ret (.cmp x0 x1 x2)) env = (ev Ph (.cmp x0 x1 x2) env).bind (kRet (makes (.cmp x0 x1 x2))) := rfl
@[simp] theorem makes_cmp {x0 : Cop} {x1 : Exp} {x2 : Exp} : makes (.cmp x0 x1 x2) = false := rfl
@[simp] theorem ret_cmp2 {x0 : Cop} {x1 : Cop} {x2 : Exp} {x3 : Exp} {x4 : Exp} : evS Ph wf br (.ret (.cmp2 x0 x1 x2 x3 x4)) env = (ev Ph (.cmp2 x0 x1 x2 x3 x4) env).bind (kRet (makes (.cmp2 x0 x1 x2 x3 x4))) := rfl
@[simp] theorem makes_cmp2 {x0 : Cop} {x1 : Cop} {x2 : Exp} {x3 : Exp} {x4 : Exp} : makes (.cmp2 x0 x1 x2 x3 x4) = false := rfl
@[simp] theorem ret_ite {x0 : Exp} {x1 : Exp} {x2 : Exp} : evS Ph wf br (.ret (.ite x0 x1 x2)) env = (ev Ph (.ite x0 x1 x2) env).bind (kRet (makes (.ite x0 x1 x2))) := rfl
@[simp] theorem makes_ite {x0 : Exp} {x1 : Exp} {x2 : Exp} : makes (.ite x0 x1 x2) = false := rfl
@[simp] theorem ret_idx {x0 : Exp} {x1 : Exp} : evS Ph wf br (.ret (.idx x0 x1)) env = (ev Ph (.idx x0 x1) env).bind (kRet (makes (.idx x0 x1))) := rfl
@[simp] theorem makes_idx {x0 : Exp} {x1 : Exp} : makes (.idx x0 x1) = false := rfl
@[simp] theorem ret_slice {x0 : Exp} {x1 : Exo} {x2 : Exo} : evS Ph wf br (.ret (.slice x0 x1 x2)) env = (ev Ph (.slice x0 x1 x2) env).bind (kRet (makes (.slice x0 x1 x2))) := rfl
@[simp] theorem makes_slice {x0 : Exp} {x1 : Exo} {x2 : Exo} : makes (.slice x0 x1 x2) = true := rfl
@[simp] theorem ret_rev {x0 : Exp} : evS Ph wf br (.ret (.rev x0)) env = (ev Ph (.rev x0) env).bind (kRet (makes (.rev x0))) := rfl
@[simp] theorem makes_rev {x0 : Exp} : makes (.rev x0) = true := rfl
@[simp] theorem ret_call {x0 : Str} {x1 : Bool} {x2 : Exs} : evS Ph wf br (.ret (.call x0 x1 x2)) env = (ev Ph (.call x0 x1 x2) env).bind (kRet (makes (.call x0 x1 x2))) := rfl
@[simp] theorem makes_call {x0 : Str} {x1 : Bool} {x2 : Exs} : makes (.call x0 x1 x2) = false := rfl
@[simp] theorem ret_callK {x0 : Str} {x1 : Bool} {x2 : Exs} {x3 : Exs} {x4 : List Str} {x5 : List Nat} : evS Ph wf br (.ret (.callK x0 x1 x2 x3 x4 x5)) env = (ev Ph (.callK x0 x1 x2 x3 x4 x5) env).bind (kRet (makes (.callK x0 x1 x2 x3 x4 x5))) := rfl
@[simp] theorem makes_callK {x0 : Str} {x1 : Bool} {x2 : Exs} {x3 : Exs} {x4 : List Str} {x5 : List Nat} : makes (.callK x0 x1 x2 x3 x4 x5) = false := rfl
@[simp] theorem ret_callJ {x0 : Str} {x1 : Str} {x2 : Exs} : evS Ph wf br (.ret (.callJ x0 x1 x2)) env = (ev Ph (.callJ x0 x1 x2) env).bind (kRet (makes (.callJ x0 x1 x2))) := rfl
@[simp] theorem makes_callJ {x0 : Str} {x1 : Str} {x2 : Exs} : makes (.callJ x0 x1 x2) = false := rfl
@[simp] theorem ret_blt {x0 : Blt} {x1 : Exs} : evS Ph wf br (.ret (.blt x0 x1)) env = (ev Ph (.blt x0 x1) env).bind (kRet (makes (.blt x0 x1))) := rfl
@[simp] theorem ret_isi {x0 : Exp} {x1 : Ty} : evS Ph wf br (.ret (.isi x0 x1)) env = (ev Ph (.isi x0 x1) env).bind (kRet (makes (.isi x0 x1))) := rfl
@[simp] theorem makes_isi {x0 : Exp} {x1 : Ty} : makes (.isi x0 x1) = false := rfl
@[simp] theorem ret_get2 {x0 : Nat} {x1 : Exp} {x2 : Exp} : evS Ph wf br (.ret (.get2 x0 x1 x2)) env = (ev Ph (.get2 x0 x1 x2) env).bind (kRet (makes (.get2 x0 x1 x2))) := rfl
@[simp] theorem makes_get2 {x0 : Nat} {x1 : Exp} {x2 : Exp} : makes (.get2 x0 x1 x2) = false := rfl
@[simp] theorem ret_dictof {x0 : Exp} : evS Ph wf br (.ret (.dictof x0)) env = (ev Ph (.dictof x0) env).bind (kRet (makes (.dictof x0))) := rfl
@[simp] theorem makes_dictof {x0 : Exp} : makes (.dictof x0) = true := rfl
@[simp] theorem ret_dcomp {x0 : List (Str × Nat)} {x1 : Nat} {x2 : Nat} {x3 : Exp} : evS Ph wf br (.ret (.dcomp x0 x1 x2 x3)) env = (ev Ph (.dcomp x0 x1 x2 x3) env).bind (kRet (makes (.dcomp x0 x1 x2 x3))) := rfl
@[simp] theorem makes_dcomp {x0 : List (Str × Nat)} {x1 : Nat} {x2 : Nat} {x3 : Exp} : makes (.dcomp x0 x1 x2 x3) = true := rfl
@[simp] theorem ret_meth {x0 : Met} {x1 : Exp} {x2 : Exs} : evS Ph wf br (.ret (.meth x0 x1 x2)) env = (ev Ph (.meth x0 x1 x2) env).bind (kRet (makes (.meth x0 x1 x2))) := rfl
@[simp] theorem makes_meth {x0 : Met} {x1 : Exp} {x2 : Exs} : makes (.meth x0 x1 x2) = false := rfl
@[simp] theorem ret_pop {x0 : Nat} : evS Ph wf br (.ret (.pop x0)) env = (ev Ph (.pop x0) env).bind (kRet (makes (.pop x0))) := rfl
@[simp] theorem makes_pop {x0 : Nat} : makes (.pop x0) = false := rfl
@[simp] theorem ret_popAt {x0 : Nat} {x1 : Exp} : evS Ph wf br (.ret (.popAt x0 x1)) env = (ev Ph (.popAt x0 x1) env).bind (kRet (makes (.popAt x0 x1))) := rfl
@[simp] theorem makes_popAt {x0 : Nat} {x1 : Exp} : makes (.popAt x0 x1) = false := rfl
@[simp] theorem ret_comp {x0 : Exp} {x1 : Tg} {x2 : Itx} {x3 : Exs} {x4 : List (Str × Nat)} : evS Ph wf br (.ret (.comp x0 x1 x2 x3 x4)) env = (ev Ph (.comp x0 x1 x2 x3 x4) env).bind (kRet (makes (.comp x0 x1 x2 x3 x4))) := rfl
@[simp] theorem makes_comp {x0 : Exp} {x1 : Tg} {x2 : Itx} {x3 : Exs} {x4 : List (Str × Nat)} : makes (.comp x0 x1 x2 x3 x4) = true := rfl
@[simp] theorem makes_add {a b : Exp} : makes (.bin .add a b) = true := rfl
@[simp] theorem makes_mul {a b : Exp} : makes (.bin .mul a b) = true := rfl
@[simp] theorem makes_list {es : Exs} : makes (.blt .list es) = true := rfl
@[simp] theorem makes_rangel {es : Exs} : makes (.blt .rangel es) = true := rfl
@[simp] theorem makes_sorted {es : Exs} : makes (.blt .sorted es) = true := rfl
@[simp] theorem makes_var {i : Nat} : makes (.var i) = false := rfl
@[simp] theorem evSs_nil : evSs Ph wf br .nil env = .ok (.nx, env) := rfl
/-- what follows a statement -/
def thenS (Ph : CallF) (wf : Nat) (br : Bool) (ss : Sts) : Res (Flw × Fram) → Res (Flw × Fram)
  | .ok (.nx, e) => evSs Ph wf br ss e
  | .ok (.brk, e) => .ok (.brk, e)
  | .ok (.cont, e) => .ok (.cont, e)
  | .ok (.ret d f, e) => .ok (.ret d f, e)
  | .exc x e => .exc x e
  | .bad => .bad
@[simp] theorem thenS_nx {ss : Sts} : thenS Ph wf br ss (.ok (.nx, env)) = evSs Ph wf br ss env := rfl
@[simp] theorem thenS_brk {ss : Sts} : thenS Ph wf br ss (.ok (.brk, env)) = .ok (.brk, env) := rfl
@[simp] theorem thenS_cont {ss : Sts} : thenS Ph wf br ss (.ok (.cont, env)) = .ok (.cont, env) := rfl
@[simp] theorem thenS_ret {ss : Sts} {d : D} {f : Bool} : thenS Ph wf br ss (.ok (.ret d f, env)) = .ok (.ret d f, env) := rfl
@[simp] theorem thenS_exc {ss : Sts} {x : Exc} : thenS Ph wf br ss (.exc x env) = .exc x env := rfl
@[simp] theorem thenS_bad {ss : Sts} : thenS Ph wf br ss .bad = .bad := rfl
@[simp] theorem evSs_cons {s : Stm} {ss : Sts} : evSs Ph wf br (.cons s ss) env = thenS Ph wf br ss (evS Ph wf br s env) := by
  show (evS Ph wf br s env).bind _ = _
  cases evS Ph wf br s env with
  | ok p =>
    rcases p with ⟨f, e⟩
    cases f <;> rfl
  | _ => rfl
/-! loops -/
@[simp] theorem forLoop_nil {turn : D → Fram → Res (Flw × Fram)} : forLoop turn [] env = .ok (.nx, env) := rfl
/-- what follows a turn -/
def forNext (turn : D → Fram → Res (Flw × Fram)) (xs : List D) : Res (Flw × Fram) → Res (Flw × Fram)
  | .ok (.nx, e) => forLoop turn xs e
  | .ok (.cont, e) => forLoop turn xs e
  | .ok (.brk, e) => .ok (.nx, e)
  | .ok (.ret d f, e) => .ok (.ret d f, e)
  | .exc x e => .exc x e
  | .bad => .bad
@[simp] theorem forNext_nx {turn : D → Fram → Res (Flw × Fram)} {xs : List D} : forNext turn xs (.ok (.nx, env)) = forLoop turn xs env := rfl
@[simp] theorem forNext_cont {turn : D → Fram → Res (Flw × Fram)} {xs : List D} : forNext turn xs (.ok (.cont, env)) = forLoop turn xs env := rfl
@[simp] theorem forNext_brk {turn : D → Fram → Res (Flw × Fram)} {xs : List D} : forNext turn xs (.ok (.brk, env)) = .ok (.nx, env) := rfl
@[simp] theorem forNext_ret {turn : D → Fram → Res (Flw × Fram)} {xs : List D} {d : D} {f : Bool} : forNext turn xs (.ok (.ret d f, env)) = .ok (.ret d f, env) := rfl
theorem forLoop_cons {turn : D → Fram → Res (Flw × Fram)} {x : D} {xs : List D} : forLoop turn (x :: xs) env = forNext turn xs (turn x env) := by
  show (turn x env).bind _ = _
  cases turn x env with
  | ok p =>
    rcases p with ⟨f, e⟩
    cases f <;> rfl
  | _ => rfl
theorem compLoop_some {turn : D → Fram → Res (Option D × Fram)} {x y : D} {xs acc : List D} {e : Fram} (h : turn x env = .ok (some y, e)) : compLoop turn (x :: xs) acc env = compLoop turn xs (acc ++ [y]) e := by
  show (turn x env).bind _ = _
  rw [h]
  rfl
theorem compLoop_none {turn : D → Fram → Res (Option D × Fram)} {x : D} {xs acc : List D} {e : Fram} (h : turn x env = .ok (none, e)) : compLoop turn (x :: xs) acc env = compLoop turn xs acc e := by
  show (turn x env).bind _ = _
  rw [h]
  rfl
/-- a comprehension that draws: an invariant of what is left, what is gathered, the frame -/
theorem compLoop_inv {turn : D → Fram → Res (Option D × Fram)} (I : List D → List D → Fram → Prop)
    (step : ∀ x xs acc e, I (x :: xs) acc e → ∃ o e', turn x e = .ok (o, e') ∧ I xs (match o with
      | some y => acc ++ [y]
      | none => acc) e') : ∀ {xs acc : List D} {e : Fram}, I xs acc e → ∃ acc' e', compLoop turn xs acc e = .ok (acc', e') ∧ I [] acc' e'
  | [], acc, e, h => ⟨acc, e, rfl, h⟩
  | x :: xs, acc, e, h => by
    obtain ⟨o, e1, h1, h2⟩ := step x xs acc e h
    obtain ⟨acc', e', h3, h4⟩ := compLoop_inv I step h2
    refine ⟨acc', e', ?_, h4⟩
    cases o with
    | none => rw [compLoop_none h1]; exact h3
    | some y => rw [compLoop_some h1]; exact h3
/-- a loop whose turns go on: an invariant of what is left, the frame -/
theorem forLoop_inv {turn : D → Fram → Res (Flw × Fram)} (I : List D → Fram → Prop)
    (step : ∀ x xs e, I (x :: xs) e → ∃ e', turn x e = .ok (.nx, e') ∧ I xs e') : ∀ {xs : List D} {e : Fram}, I xs e → ∃ e', forLoop turn xs e = .ok (.nx, e') ∧ I [] e'
  | [], e, h => ⟨e, rfl, h⟩
  | x :: xs, e, h => by
    obtain ⟨e1, h1, h2⟩ := step x xs e h
    obtain ⟨e', h3, h4⟩ := forLoop_inv I step h2
    exact ⟨e', by rw [forLoop_cons, h1]; exact h3, h4⟩
theorem whileLoop_done {test : Fram → Res (D × Fram)} {body : Fram → Res (Flw × Fram)} {n : Nat} {e : Fram} (h : test env = .ok (.bool false, e)) : whileLoop test body (n + 1) env = .ok (.nx, e) := by
  show (test env).bind _ = _
  rw [h]
  rfl
theorem whileLoop_turn {test : Fram → Res (D × Fram)} {body : Fram → Res (Flw × Fram)} {n : Nat} {e e' : Fram} (h : test env = .ok (.bool true, e)) (hb : body e = .ok (.nx, e')) : whileLoop test body (n + 1) env = whileLoop test body n e' := by
  show (test env).bind _ = _
  rw [h]
  show (body e).bind _ = _
  rw [hb]
  rfl
/-! defs -/
/-- what a def's end hands out -/
def endF (fn : Def) : Res (Flw × Fram) → Res (D × D)
  | .ok (.ret d f, env) => if fn.fresh && !f then .bad else (opt (out0 fn.br env)).bind fun d0 => .ok (d, d0)
  | .ok (.nx, env) => if fn.fresh then .bad else (opt (out0 fn.br env)).bind fun d0 => .ok (.none, d0)
  | .ok _ => .bad
  | .exc x e => .exc x e
  | .bad => .bad
def outR (d : D) : Option D → Res (D × D)
  | some d0 => .ok (d, d0)
  | none => .bad
@[simp] theorem outR_some {d d0 : D} : outR d (some d0) = .ok (d, d0) := rfl
@[simp] theorem endF_ret {fn : Def} {d : D} {f : Bool} : endF fn (.ok (.ret d f, env)) = if (fn.fresh && !f) = true then .bad else outR d (out0 fn.br env) := by
  show (if fn.fresh && !f then Res.bad else (opt (out0 fn.br env)).bind fun d0 => .ok (d, d0)) = _
  cases out0 fn.br env <;> rfl
@[simp] theorem endF_nx {fn : Def} : endF fn (.ok (.nx, env)) = if fn.fresh = true then .bad else outR .none (out0 fn.br env) := by
  show (if fn.fresh = true then Res.bad else (opt (out0 fn.br env)).bind fun d0 => .ok (PyData.none, d0)) = _
  cases out0 fn.br env <;> rfl
@[simp] theorem endF_exc {fn : Def} {x : Exc} : endF fn (.exc x env) = .exc x env := rfl
theorem callN_eq {tb : List Def} {n : Nat} {f : Str} {fn : Def} {ds : List D} (h : tb.find? (fun g => g.name == f) = some fn) (hl : ds.length = fn.params) :
    callN tb wf (n + 1) f ds = endF fn (evSs (callN tb wf n) wf fn.br fn.body (begin fn ds)) := by
  unfold callN
  rw [h]
  show runFn (callN tb wf n) wf fn ds = _
  unfold runFn
  rw [if_pos hl]
  cases evSs (callN tb wf n) wf fn.br fn.body (begin fn ds) with
  | ok p =>
    rcases p with ⟨fl, e⟩
    cases fl <;> rfl
  | _ => rfl
/-! slots -/
@[simp] theorem readVar_eq {i : Nat} : readVar i env = (match env[i]? with
  | some (.val d) => .ok (d, env)
  | some (.own d) => if i = 0 then .bad else .ok (d, env.set i (.val d))
  | _ => .bad) := rfl
/-- whether a slot holds the frame's own list -/
def sOwn : Option Slot → Bool
  | some (.own _) => true
  | _ => false
@[simp] theorem sOwn_own {d : D} : sOwn (some (.own d)) = true := rfl
@[simp] theorem sOwn_val {d : D} : sOwn (some (.val d)) = false := rfl
@[simp] theorem sOwn_non : sOwn (some .non) = false := rfl
@[simp] theorem isOwn_eq {i : Nat} : isOwn env i = sOwn env[i]? := by
  unfold isOwn sOwn
  rfl
@[simp] theorem isOwnL_eq {i : Nat} : isOwnL env i = (match env[i]? with
  | some (.own (.list _)) => true
  | _ => false) := rfl
@[simp] theorem look_eq {i : Nat} : look env i = (match env[i]? with
  | some (.val d) => some d
  | some (.own d) => some d
  | _ => none) := rfl
@[simp] theorem store_name {i : Nat} {d : D} : store (.name i) d env = if (decide (i < env.length) && !isOwn env i) = true then some (env.set i (.val d)) else none := by
  unfold store
  rfl
@[simp] theorem store_tup {ts : List Tg} {ds : List D} : store (.tup ts) (.tuple ds) env = stores ts ds env := by
  unfold store
  rfl
def storesO (ts : List Tg) (ds : List D) : Option Fram → Option Fram
  | some e => stores ts ds e
  | none => none
@[simp] theorem storesO_some {ts : List Tg} {ds : List D} : storesO ts ds (some e) = stores ts ds e := rfl
@[simp] theorem stores_nil : stores [] [] env = some env := by unfold stores; rfl
@[simp] theorem stores_cons {t : Tg} {ts : List Tg} {d : D} {ds : List D} : stores (t :: ts) (d :: ds) env = storesO ts ds (store t d env) := by
  conv => lhs; unfold stores
  cases store t d env <;> rfl
@[simp] theorem putAll_nil {b : Bool} : putAll b [] .nil [] env = some env := rfl
@[simp] theorem putAll_cons {b : Bool} {i : Nat} {o : Bool} {is : List (Nat × Bool)} {a : Exp} {es : Exs} {d : D} {ds : List D} : putAll b ((i, o) :: is) (.cons a es) (d :: ds) env = if (decide (i < env.length) && !(b && i == 0) && (!o || (makes a && isSeq d))) = true then putAll b is es ds (env.set i (if o = true then .own d else .val d)) else none := rfl
@[simp] theorem wipeF_nil : wipeF env [] = env := rfl
@[simp] theorem wipeF_cons {v : Nat} {vs : List Nat} : wipeF env (v :: vs) = (wipeF env vs).set v .non := rfl
@[simp] theorem restore_nil {old : Fram} : restore env old [] = env := rfl
@[simp] theorem restore_cons {old : Fram} {v : Nat} {vs : List Nat} : restore env old (v :: vs) = (restore env old vs).set v (old[v]?.getD .non) := rfl
@[simp] theorem isSeq_list {xs : List D} : isSeq (.list xs) = true := rfl
@[simp] theorem isSeq_dict {xs : List (D × D)} : isSeq (.dict xs) = true := rfl
@[simp] theorem out0_f : out0 false env = some PyData.none := rfl
@[simp] theorem out0_t {d : D} : out0 true (.own d :: env) = some d := rfl
@[simp] theorem noExc_ok {A : Type} {a : A} : noExc (.ok a) = .ok a := rfl
end
/-- the fuel of loops -/
@[irreducible] def WF : Nat := 2 ^ 64
theorem WF_eq : WF = 2 ^ 64 := by unfold WF; rfl
/-! operations over numbers -/
section
variable {i j : Int} {xs ys : List D}
@[simp] theorem add_int : binF .add (.int i) (.int j) = some (.int (i + j)) := rfl
@[simp] theorem sub_int : binF .sub (.int i) (.int j) = some (.int (i - j)) := rfl
theorem log2_lt {a k : Nat} (h : a < 2 ^ k) (hk : 0 < k) : a.log2 < k := by
  rcases Nat.eq_zero_or_pos a with rfl | ha
  · simpa using hk
  · exact (Nat.log2_lt (Nat.ne_of_gt ha)).mpr h
theorem mul_int (h1 : i.natAbs < 2 ^ 64) (h2 : j.natAbs < 2 ^ 64) : binF .mul (.int i) (.int j) = some (.int (i * j)) := by
  have a := log2_lt h1 (by omega)
  have b := log2_lt h2 (by omega)
  show (if i.natAbs.log2 + j.natAbs.log2 < 1000000 then _ else _) = _
  rw [if_pos (by omega)]
theorem mod_pos (h : 0 < j) : binF .mod (.int i) (.int j) = some (.int (i % j)) := by
  show (if j ≠ 0 then some (PyData.int (i.fmod j)) else none) = _
  rw [if_pos (by omega), Int.fmod_eq_emod_of_nonneg _ (by omega)]
theorem fdiv_pos (h : 0 < j) (h2 : j < 2 ^ 64) : binF .fdiv (.int i) (.int j) = some (.int (i / j)) := by
  have a := log2_lt (a := j.natAbs) (k := 64) (by omega) (by omega)
  show (if j ≠ 0 ∧ j.natAbs.log2 < 9000 then some (PyData.int (i.fdiv j)) else none) = _
  rw [if_pos ⟨by omega, by omega⟩, Int.fdiv_eq_ediv_of_nonneg _ (by omega)]
theorem pow_int (h : 0 ≤ j ∧ j ≤ 1000000 ∧ i.natAbs < 2 ^ 64) : binF .pow (.int i) (.int j) = some (.int (i ^ j.toNat)) := if_pos h
theorem add_tuple (h : xs.length + ys.length ≤ 16777216) : binF .add (.tuple xs) (.tuple ys) = some (.tuple (xs ++ ys)) := if_pos h
theorem add_list (h : xs.length + ys.length ≤ 16777216) : binF .add (.list xs) (.list ys) = some (.list (xs ++ ys)) := if_pos h
theorem mul_tuple (h1 : 0 ≤ j) (h2 : j ≤ 1000) (h3 : xs.length ≤ 1000) : binF .mul (.tuple xs) (.int j) = some (.tuple (List.replicate j.toNat xs).flatten) := if_pos ⟨by omega, h2, h3⟩
@[simp] theorem eqOk_int : eqOk (.int i) = true := by simp [eqOk, PyData.canLay0, PyData.depth, noDict]
@[simp] theorem eqOk_bool {b : Bool} : eqOk (.bool b) = true := by simp [eqOk, PyData.canLay0, PyData.depth, noDict]
@[simp] theorem eqOk_none : eqOk .none = true := by simp [eqOk, PyData.canLay0, PyData.depth, noDict]
@[simp] theorem eqv_int : PyData.eqv (.int i) (.int j) = decide (i = j) := by
  simp only [PyData.eqv]
  rfl
@[simp] theorem eqv_tup {xs ys : List D} : PyData.eqv (.tuple xs) (.tuple ys) = PyData.eqvAll xs ys := by simp [PyData.eqv]
@[simp] theorem eqv_lst {xs ys : List D} : PyData.eqv (.list xs) (.list ys) = PyData.eqvAll xs ys := by simp [PyData.eqv]
@[simp] theorem eqv_nil : PyData.eqvAll [] [] = true := by simp [PyData.eqvAll]
@[simp] theorem eqv_nilc {y : D} {ys : List D} : PyData.eqvAll [] (y :: ys) = false := by simp [PyData.eqvAll]
@[simp] theorem eqv_cnil {y : D} {ys : List D} : PyData.eqvAll (y :: ys) [] = false := by simp [PyData.eqvAll]
@[simp] theorem eqv_cons {x y : D} {xs ys : List D} : PyData.eqvAll (x :: xs) (y :: ys) = (PyData.eqv x y && PyData.eqvAll xs ys) := by simp [PyData.eqvAll]
theorem eq_data {x y : D} (h1 : eqOk x = true) (h2 : eqOk y = true) : cmpF .eq x y = some (PyData.eqv x y) := by
  show (if eqOk x && eqOk y then _ else _) = _
  rw [h1, h2]
  rfl
theorem ne_data {x y : D} (h1 : eqOk x = true) (h2 : eqOk y = true) : cmpF .ne x y = some (!PyData.eqv x y) := by
  show (if eqOk x && eqOk y then _ else _) = _
  rw [h1, h2]
  rfl
@[simp] theorem eq_unit {xs : List D} : cmpF .eq (.tuple xs) (.tuple []) = some xs.isEmpty := by
  show (if eqOk (.tuple xs) && eqOk (.tuple []) then some (PyData.eqv (.tuple xs) (.tuple [])) else some xs.isEmpty) = _
  have e : PyData.eqv (.tuple xs) (.tuple []) = xs.isEmpty := by
    cases xs <;> simp [PyData.eqv, PyData.eqvAll]
  rw [e]
  split <;> rfl
@[simp] theorem eq_int : cmpF .eq (.int i) (.int j) = some (decide (i = j)) := by rw [eq_data eqOk_int eqOk_int, eqv_int]
@[simp] theorem ne_int : cmpF .ne (.int i) (.int j) = some (!decide (i = j)) := by rw [ne_data eqOk_int eqOk_int, eqv_int]
theorem thenS_ite {Ph : CallF} {wf : Nat} {br : Bool} {ss : Sts} {p : Prop} [Decidable p] {x y : Res (Flw × Fram)} : thenS Ph wf br ss (if p then x else y) = if p then thenS Ph wf br ss x else thenS Ph wf br ss y := by split <;> rfl
theorem endF_ite {fn : Def} {p : Prop} [Decidable p] {x y : Res (Flw × Fram)} : endF fn (if p then x else y) = if p then endF fn x else endF fn y := by split <;> rfl
theorem bind_ite {A B : Type} {f : A → Res B} {p : Prop} [Decidable p] {x y : Res A} : (if p then x else y).bind f = if p then x.bind f else y.bind f := by split <;> rfl
@[simp] theorem eq_str {x y : Str} (hx : PyData.strOk x = true) (hy : PyData.strOk y = true) : cmpF .eq (.str x) (.str y) = some (x == y) := by
  rw [eq_data (by simp [eqOk, PyData.canLay0, PyData.depth, noDict, hx]) (by simp [eqOk, PyData.canLay0, PyData.depth, noDict, hy])]
  simp [PyData.eqv]
@[simp] theorem lt_int : cmpF .lt (.int i) (.int j) = some (decide (i < j)) := rfl
@[simp] theorem le_int : cmpF .le (.int i) (.int j) = some (decide (i ≤ j)) := rfl
@[simp] theorem gt_int : cmpF .gt (.int i) (.int j) = some (decide (j < i)) := rfl
@[simp] theorem ge_int : cmpF .ge (.int i) (.int j) = some (decide (j ≤ i)) := rfl
/-- an item of a row -/
def at? (xs : List D) (i : Int) : Option D := if 0 ≤ i then xs[i.toNat]? else if 0 ≤ i + xs.length then xs[(i + xs.length).toNat]? else none
@[simp] theorem at_eq : at? xs i = if 0 ≤ i then xs[i.toNat]? else if 0 ≤ i + xs.length then xs[(i + xs.length).toNat]? else none := rfl
theorem place_at : (place xs.length i).bind (fun j => xs[j]?) = at? xs i := by
  unfold place L2.ixN at?
  by_cases h0 : 0 ≤ i
  · simp only [h0, if_true]
    by_cases h1 : i < xs.length
    · simp only [h1, if_true]
      rfl
    · simp only [h1, if_false]
      rw [List.getElem?_eq_none (by omega)]
      rfl
  · simp only [h0, if_false]
    by_cases h1 : -(xs.length : Int) ≤ i
    · rw [if_pos h1, if_pos (by omega)]
      rfl
    · rw [if_neg h1, if_neg (by omega)]
      rfl
@[simp] theorem idx_list : idxF (.list xs) (.int i) = at? xs i := place_at
@[simp] theorem idx_tuple : idxF (.tuple xs) (.int i) = at? xs i := place_at
@[simp] theorem slice_list {lo hi : Option Int} : sliceF (.list xs) lo hi = some (.list (cut xs lo hi)) := rfl
@[simp] theorem slice_tuple {lo hi : Option Int} : sliceF (.tuple xs) lo hi = some (.tuple (cut xs lo hi)) := rfl
@[simp] theorem blt_len_list : bltF .len [.list xs] = some (.int xs.length) := rfl
@[simp] theorem blt_len_tuple : bltF .len [.tuple xs] = some (.int xs.length) := rfl
@[simp] theorem blt_int_int : bltF .int1 [.int i] = some (.int i) := rfl
@[simp] theorem blt_int_bool {b : Bool} : bltF .int1 [.bool b] = some (.int (if b then 1 else 0)) := rfl
@[simp] theorem blt_abs_int : bltF .abs [.int i] = some (.int (if i < 0 then -i else i)) := rfl
@[simp] theorem blt_max_int : bltF .max2 [.int i, .int j] = some (.int (if j > i then j else i)) := rfl
@[simp] theorem blt_min_int : bltF .min2 [.int i, .int j] = some (.int (if j < i then j else i)) := rfl
@[simp] theorem blt_tuple_list : bltF .tuple [.list xs] = some (.tuple xs) := rfl
@[simp] theorem blt_tuple_tuple : bltF .tuple [.tuple xs] = some (.tuple xs) := rfl
@[simp] theorem blt_list_list : bltF .list [.list xs] = some (.list xs) := rfl
@[simp] theorem blt_list_tuple : bltF .list [.tuple xs] = some (.list xs) := rfl
@[simp] theorem blt_gcd_int : bltF .gcd [.int i, .int j] = some (.int ((Nat.gcd i.natAbs j.natAbs : Nat) : Int)) := rfl
theorem divmod_int (h1 : 0 < j) (h2 : j < 1073741824) : bltF .divmod [.int i, .int j] = some (.tuple [.int (i / j), .int (i % j)]) := if_pos ⟨h1, h2⟩
@[simp] theorem items_list : items? (.list xs) = some xs := rfl
@[simp] theorem items_tuple : items? (.tuple xs) = some xs := rfl
@[simp] theorem walk_list : walk? (.list xs) = some xs := rfl
@[simp] theorem walk_tuple : walk? (.tuple xs) = some xs := rfl
@[simp] theorem walk_dict {kvs : List (D × D)} : walk? (.dict kvs) = some (kvs.map (·.1)) := rfl
@[simp] theorem isF_int_none : isF .int .none = false := by simp [isF, PyData.isInt, PyData.isBool, PyData.isStr, PyData.isTuple, PyData.isList, PyData.isDict]
@[simp] theorem isF_int_bool {b : Bool} : isF .int (.bool b) = true := by simp [isF, PyData.isInt, PyData.isBool, PyData.isStr, PyData.isTuple, PyData.isList, PyData.isDict]
@[simp] theorem isF_int_int {i : Int} : isF .int (.int i) = true := by simp [isF, PyData.isInt, PyData.isBool, PyData.isStr, PyData.isTuple, PyData.isList, PyData.isDict]
@[simp] theorem isF_int_str {s : Str} : isF .int (.str s) = false := by simp [isF, PyData.isInt, PyData.isBool, PyData.isStr, PyData.isTuple, PyData.isList, PyData.isDict]
@[simp] theorem isF_int_list {xs : List D} : isF .int (.list xs) = false := by simp [isF, PyData.isInt, PyData.isBool, PyData.isStr, PyData.isTuple, PyData.isList, PyData.isDict]
@[simp] theorem isF_int_tuple {xs : List D} : isF .int (.tuple xs) = false := by simp [isF, PyData.isInt, PyData.isBool, PyData.isStr, PyData.isTuple, PyData.isList, PyData.isDict]
@[simp] theorem isF_int_dict {xs : List (D × D)} : isF .int (.dict xs) = false := by simp [isF, PyData.isInt, PyData.isBool, PyData.isStr, PyData.isTuple, PyData.isList, PyData.isDict]
@[simp] theorem isF_bool_none : isF .bool .none = false := by simp [isF, PyData.isInt, PyData.isBool, PyData.isStr, PyData.isTuple, PyData.isList, PyData.isDict]
@[simp] theorem isF_bool_bool {b : Bool} : isF .bool (.bool b) = true := by simp [isF, PyData.isInt, PyData.isBool, PyData.isStr, PyData.isTuple, PyData.isList, PyData.isDict]
@[simp] theorem isF_bool_int {i : Int} : isF .bool (.int i) = false := by simp [isF, PyData.isInt, PyData.isBool, PyData.isStr, PyData.isTuple, PyData.isList, PyData.isDict]
@[simp] theorem isF_bool_str {s : Str} : isF .bool (.str s) = false := by simp [isF, PyData.isInt, PyData.isBool, PyData.isStr, PyData.isTuple, PyData.isList, PyData.isDict]
@[simp] theorem isF_bool_list {xs : List D} : isF .bool (.list xs) = false := by simp [isF, PyData.isInt, PyData.isBool, PyData.isStr, PyData.isTuple, PyData.isList, PyData.isDict]
@[simp] theorem isF_bool_tuple {xs : List D} : isF .bool (.tuple xs) = false := by simp [isF, PyData.isInt, PyData.isBool, PyData.isStr, PyData.isTuple, PyData.isList, PyData.isDict]
@[simp] theorem isF_bool_dict {xs : List (D × D)} : isF .bool (.dict xs) = false := by simp [isF, PyData.isInt, PyData.isBool, PyData.isStr, PyData.isTuple, PyData.isList, PyData.isDict]
@[simp] theorem isF_str_none : isF .str .none = false := by simp [isF, PyData.isInt, PyData.isBool, PyData.isStr, PyData.isTuple, PyData.isList, PyData.isDict]
@[simp] theorem isF_str_bool {b : Bool} : isF .str (.bool b) = false := by simp [isF, PyData.isInt, PyData.isBool, PyData.isStr, PyData.isTuple, PyData.isList, PyData.isDict]
@[simp] theorem isF_str_int {i : Int} : isF .str (.int i) = false := by simp [isF, PyData.isInt, PyData.isBool, PyData.isStr, PyData.isTuple, PyData.isList, PyData.isDict]
@[simp] theorem isF_str_str {s : Str} : isF .str (.str s) = true := by simp [isF, PyData.isInt, PyData.isBool, PyData.isStr, PyData.isTuple, PyData.isList, PyData.isDict]
@[simp] theorem isF_str_list {xs : List D} : isF .str (.list xs) = false := by simp [isF, PyData.isInt, PyData.isBool, PyData.isStr, PyData.isTuple, PyData.isList, PyData.isDict]
@[simp] theorem isF_str_tuple {xs : List D} : isF .str (.tuple xs) = false := by simp [isF, PyData.isInt, PyData.isBool, PyData.isStr, PyData.isTuple, PyData.isList, PyData.isDict]
@[simp] theorem isF_str_dict {xs : List (D × D)} : isF .str (.dict xs) = false := by simp [isF, PyData.isInt, PyData.isBool, PyData.isStr, PyData.isTuple, PyData.isList, PyData.isDict]
@[simp] theorem isF_tuple_none : isF .tuple .none = false := by simp [isF, PyData.isInt, PyData.isBool, PyData.isStr, PyData.isTuple, PyData.isList, PyData.isDict]
@[simp] theorem isF_tuple_bool {b : Bool} : isF .tuple (.bool b) = false := by simp [isF, PyData.isInt, PyData.isBool, PyData.isStr, PyData.isTuple, PyData.isList, PyData.isDict]
@[simp] theorem isF_tuple_int {i : Int} : isF .tuple (.int i) = false := by simp [isF, PyData.isInt, PyData.isBool, PyData.isStr, PyData.isTuple, PyData.isList, PyData.isDict]
@[simp] theorem isF_tuple_str {s : Str} : isF .tuple (.str s) = false := by simp [isF, PyData.isInt, PyData.isBool, PyData.isStr, PyData.isTuple, PyData.isList, PyData.isDict]
@[simp] theorem isF_tuple_list {xs : List D} : isF .tuple (.list xs) = false := by simp [isF, PyData.isInt, PyData.isBool, PyData.isStr, PyData.isTuple, PyData.isList, PyData.isDict]
@[simp] theorem isF_tuple_tuple {xs : List D} : isF .tuple (.tuple xs) = true := by simp [isF, PyData.isInt, PyData.isBool, PyData.isStr, PyData.isTuple, PyData.isList, PyData.isDict]
@[simp] theorem isF_tuple_dict {xs : List (D × D)} : isF .tuple (.dict xs) = false := by simp [isF, PyData.isInt, PyData.isBool, PyData.isStr, PyData.isTuple, PyData.isList, PyData.isDict]
@[simp] theorem isF_list_none : isF .list .none = false := by simp [isF, PyData.isInt, PyData.isBool, PyData.isStr, PyData.isTuple, PyData.isList, PyData.isDict]
@[simp] theorem isF_list_bool {b : Bool} : isF .list (.bool b) = false := by simp [isF, PyData.isInt, PyData.isBool, PyData.isStr, PyData.isTuple, PyData.isList, PyData.isDict]
@[simp] theorem isF_list_int {i : Int} : isF .list (.int i) = false := by simp [isF, PyData.isInt, PyData.isBool, PyData.isStr, PyData.isTuple, PyData.isList, PyData.isDict]
@[simp] theorem isF_list_str {s : Str} : isF .list (.str s) = false := by simp [isF, PyData.isInt, PyData.isBool, PyData.isStr, PyData.isTuple, PyData.isList, PyData.isDict]
@[simp] theorem isF_list_list {xs : List D} : isF .list (.list xs) = true := by simp [isF, PyData.isInt, PyData.isBool, PyData.isStr, PyData.isTuple, PyData.isList, PyData.isDict]
@[simp] theorem isF_list_tuple {xs : List D} : isF .list (.tuple xs) = false := by simp [isF, PyData.isInt, PyData.isBool, PyData.isStr, PyData.isTuple, PyData.isList, PyData.isDict]
@[simp] theorem isF_list_dict {xs : List (D × D)} : isF .list (.dict xs) = false := by simp [isF, PyData.isInt, PyData.isBool, PyData.isStr, PyData.isTuple, PyData.isList, PyData.isDict]
@[simp] theorem isF_dict_none : isF .dict .none = false := by simp [isF, PyData.isInt, PyData.isBool, PyData.isStr, PyData.isTuple, PyData.isList, PyData.isDict]
@[simp] theorem isF_dict_bool {b : Bool} : isF .dict (.bool b) = false := by simp [isF, PyData.isInt, PyData.isBool, PyData.isStr, PyData.isTuple, PyData.isList, PyData.isDict]
@[simp] theorem isF_dict_int {i : Int} : isF .dict (.int i) = false := by simp [isF, PyData.isInt, PyData.isBool, PyData.isStr, PyData.isTuple, PyData.isList, PyData.isDict]
@[simp] theorem isF_dict_str {s : Str} : isF .dict (.str s) = false := by simp [isF, PyData.isInt, PyData.isBool, PyData.isStr, PyData.isTuple, PyData.isList, PyData.isDict]
@[simp] theorem isF_dict_list {xs : List D} : isF .dict (.list xs) = false := by simp [isF, PyData.isInt, PyData.isBool, PyData.isStr, PyData.isTuple, PyData.isList, PyData.isDict]
@[simp] theorem isF_dict_tuple {xs : List D} : isF .dict (.tuple xs) = false := by simp [isF, PyData.isInt, PyData.isBool, PyData.isStr, PyData.isTuple, PyData.isList, PyData.isDict]
@[simp] theorem isF_dict_dict {xs : List (D × D)} : isF .dict (.dict xs) = true := by simp [isF, PyData.isInt, PyData.isBool, PyData.isStr, PyData.isTuple, PyData.isList, PyData.isDict]
@[simp] theorem get_0 {A : Type} {x0 : A} {l : List A} : (x0 :: l)[0]? = some x0 := rfl
@[simp] theorem set_0 {A : Type} {x0 y : A} {l : List A} : (x0 :: l).set 0 y = y :: l := rfl
@[simp] theorem get_1 {A : Type} {x0 x1 : A} {l : List A} : (x0 :: x1 :: l)[1]? = some x1 := rfl
@[simp] theorem set_1 {A : Type} {x0 x1 y : A} {l : List A} : (x0 :: x1 :: l).set 1 y = x0 :: y :: l := rfl
@[simp] theorem get_2 {A : Type} {x0 x1 x2 : A} {l : List A} : (x0 :: x1 :: x2 :: l)[2]? = some x2 := rfl
@[simp] theorem set_2 {A : Type} {x0 x1 x2 y : A} {l : List A} : (x0 :: x1 :: x2 :: l).set 2 y = x0 :: x1 :: y :: l := rfl
@[simp] theorem get_3 {A : Type} {x0 x1 x2 x3 : A} {l : List A} : (x0 :: x1 :: x2 :: x3 :: l)[3]? = some x3 := rfl
@[simp] theorem set_3 {A : Type} {x0 x1 x2 x3 y : A} {l : List A} : (x0 :: x1 :: x2 :: x3 :: l).set 3 y = x0 :: x1 :: x2 :: y :: l := rfl
@[simp] theorem get_4 {A : Type} {x0 x1 x2 x3 x4 : A} {l : List A} : (x0 :: x1 :: x2 :: x3 :: x4 :: l)[4]? = some x4 := rfl
@[simp] theorem set_4 {A : Type} {x0 x1 x2 x3 x4 y : A} {l : List A} : (x0 :: x1 :: x2 :: x3 :: x4 :: l).set 4 y = x0 :: x1 :: x2 :: x3 :: y :: l := rfl
@[simp] theorem get_5 {A : Type} {x0 x1 x2 x3 x4 x5 : A} {l : List A} : (x0 :: x1 :: x2 :: x3 :: x4 :: x5 :: l)[5]? = some x5 := rfl
@[simp] theorem set_5 {A : Type} {x0 x1 x2 x3 x4 x5 y : A} {l : List A} : (x0 :: x1 :: x2 :: x3 :: x4 :: x5 :: l).set 5 y = x0 :: x1 :: x2 :: x3 :: x4 :: y :: l := rfl
@[simp] theorem get_6 {A : Type} {x0 x1 x2 x3 x4 x5 x6 : A} {l : List A} : (x0 :: x1 :: x2 :: x3 :: x4 :: x5 :: x6 :: l)[6]? = some x6 := rfl
@[simp] theorem set_6 {A : Type} {x0 x1 x2 x3 x4 x5 x6 y : A} {l : List A} : (x0 :: x1 :: x2 :: x3 :: x4 :: x5 :: x6 :: l).set 6 y = x0 :: x1 :: x2 :: x3 :: x4 :: x5 :: y :: l := rfl
@[simp] theorem get_7 {A : Type} {x0 x1 x2 x3 x4 x5 x6 x7 : A} {l : List A} : (x0 :: x1 :: x2 :: x3 :: x4 :: x5 :: x6 :: x7 :: l)[7]? = some x7 := rfl
@[simp] theorem set_7 {A : Type} {x0 x1 x2 x3 x4 x5 x6 x7 y : A} {l : List A} : (x0 :: x1 :: x2 :: x3 :: x4 :: x5 :: x6 :: x7 :: l).set 7 y = x0 :: x1 :: x2 :: x3 :: x4 :: x5 :: x6 :: y :: l := rfl
@[simp] theorem get_8 {A : Type} {x0 x1 x2 x3 x4 x5 x6 x7 x8 : A} {l : List A} : (x0 :: x1 :: x2 :: x3 :: x4 :: x5 :: x6 :: x7 :: x8 :: l)[8]? = some x8 := rfl
@[simp] theorem set_8 {A : Type} {x0 x1 x2 x3 x4 x5 x6 x7 x8 y : A} {l : List A} : (x0 :: x1 :: x2 :: x3 :: x4 :: x5 :: x6 :: x7 :: x8 :: l).set 8 y = x0 :: x1 :: x2 :: x3 :: x4 :: x5 :: x6 :: x7 :: y :: l := rfl
@[simp] theorem get_9 {A : Type} {x0 x1 x2 x3 x4 x5 x6 x7 x8 x9 : A} {l : List A} : (x0 :: x1 :: x2 :: x3 :: x4 :: x5 :: x6 :: x7 :: x8 :: x9 :: l)[9]? = some x9 := rfl
@[simp] theorem set_9 {A : Type} {x0 x1 x2 x3 x4 x5 x6 x7 x8 x9 y : A} {l : List A} : (x0 :: x1 :: x2 :: x3 :: x4 :: x5 :: x6 :: x7 :: x8 :: x9 :: l).set 9 y = x0 :: x1 :: x2 :: x3 :: x4 :: x5 :: x6 :: x7 :: x8 :: y :: l := rfl
@[simp] theorem get_10 {A : Type} {x0 x1 x2 x3 x4 x5 x6 x7 x8 x9 x10 : A} {l : List A} : (x0 :: x1 :: x2 :: x3 :: x4 :: x5 :: x6 :: x7 :: x8 :: x9 :: x10 :: l)[10]? = some x10 := rfl
@[simp] theorem set_10 {A : Type} {x0 x1 x2 x3 x4 x5 x6 x7 x8 x9 x10 y : A} {l : List A} : (x0 :: x1 :: x2 :: x3 :: x4 :: x5 :: x6 :: x7 :: x8 :: x9 :: x10 :: l).set 10 y = x0 :: x1 :: x2 :: x3 :: x4 :: x5 :: x6 :: x7 :: x8 :: x9 :: y :: l := rfl
@[simp] theorem get_11 {A : Type} {x0 x1 x2 x3 x4 x5 x6 x7 x8 x9 x10 x11 : A} {l : List A} : (x0 :: x1 :: x2 :: x3 :: x4 :: x5 :: x6 :: x7 :: x8 :: x9 :: x10 :: x11 :: l)[11]? = some x11 := rfl
@[simp] theorem set_11 {A : Type} {x0 x1 x2 x3 x4 x5 x6 x7 x8 x9 x10 x11 y : A} {l : List A} : (x0 :: x1 :: x2 :: x3 :: x4 :: x5 :: x6 :: x7 :: x8 :: x9 :: x10 :: x11 :: l).set 11 y = x0 :: x1 :: x2 :: x3 :: x4 :: x5 :: x6 :: x7 :: x8 :: x9 :: x10 :: y :: l := rfl
@[simp] theorem get_12 {A : Type} {x0 x1 x2 x3 x4 x5 x6 x7 x8 x9 x10 x11 x12 : A} {l : List A} : (x0 :: x1 :: x2 :: x3 :: x4 :: x5 :: x6 :: x7 :: x8 :: x9 :: x10 :: x11 :: x12 :: l)[12]? = some x12 := rfl
@[simp] theorem set_12 {A : Type} {x0 x1 x2 x3 x4 x5 x6 x7 x8 x9 x10 x11 x12 y : A} {l : List A} : (x0 :: x1 :: x2 :: x3 :: x4 :: x5 :: x6 :: x7 :: x8 :: x9 :: x10 :: x11 :: x12 :: l).set 12 y = x0 :: x1 :: x2 :: x3 :: x4 :: x5 :: x6 :: x7 :: x8 :: x9 :: x10 :: x11 :: y :: l := rfl
@[simp] theorem get_13 {A : Type} {x0 x1 x2 x3 x4 x5 x6 x7 x8 x9 x10 x11 x12 x13 : A} {l : List A} : (x0 :: x1 :: x2 :: x3 :: x4 :: x5 :: x6 :: x7 :: x8 :: x9 :: x10 :: x11 :: x12 :: x13 :: l)[13]? = some x13 := rfl
@[simp] theorem set_13 {A : Type} {x0 x1 x2 x3 x4 x5 x6 x7 x8 x9 x10 x11 x12 x13 y : A} {l : List A} : (x0 :: x1 :: x2 :: x3 :: x4 :: x5 :: x6 :: x7 :: x8 :: x9 :: x10 :: x11 :: x12 :: x13 :: l).set 13 y = x0 :: x1 :: x2 :: x3 :: x4 :: x5 :: x6 :: x7 :: x8 :: x9 :: x10 :: x11 :: x12 :: y :: l := rfl
@[simp] theorem get_14 {A : Type} {x0 x1 x2 x3 x4 x5 x6 x7 x8 x9 x10 x11 x12 x13 x14 : A} {l : List A} : (x0 :: x1 :: x2 :: x3 :: x4 :: x5 :: x6 :: x7 :: x8 :: x9 :: x10 :: x11 :: x12 :: x13 :: x14 :: l)[14]? = some x14 := rfl
@[simp] theorem set_14 {A : Type} {x0 x1 x2 x3 x4 x5 x6 x7 x8 x9 x10 x11 x12 x13 x14 y : A} {l : List A} : (x0 :: x1 :: x2 :: x3 :: x4 :: x5 :: x6 :: x7 :: x8 :: x9 :: x10 :: x11 :: x12 :: x13 :: x14 :: l).set 14 y = x0 :: x1 :: x2 :: x3 :: x4 :: x5 :: x6 :: x7 :: x8 :: x9 :: x10 :: x11 :: x12 :: x13 :: y :: l := rfl
@[simp] theorem get_15 {A : Type} {x0 x1 x2 x3 x4 x5 x6 x7 x8 x9 x10 x11 x12 x13 x14 x15 : A} {l : List A} : (x0 :: x1 :: x2 :: x3 :: x4 :: x5 :: x6 :: x7 :: x8 :: x9 :: x10 :: x11 :: x12 :: x13 :: x14 :: x15 :: l)[15]? = some x15 := rfl
@[simp] theorem set_15 {A : Type} {x0 x1 x2 x3 x4 x5 x6 x7 x8 x9 x10 x11 x12 x13 x14 x15 y : A} {l : List A} : (x0 :: x1 :: x2 :: x3 :: x4 :: x5 :: x6 :: x7 :: x8 :: x9 :: x10 :: x11 :: x12 :: x13 :: x14 :: x15 :: l).set 15 y = x0 :: x1 :: x2 :: x3 :: x4 :: x5 :: x6 :: x7 :: x8 :: x9 :: x10 :: x11 :: x12 :: x13 :: x14 :: y :: l := rfl
@[simp] theorem get_16 {A : Type} {x0 x1 x2 x3 x4 x5 x6 x7 x8 x9 x10 x11 x12 x13 x14 x15 x16 : A} {l : List A} : (x0 :: x1 :: x2 :: x3 :: x4 :: x5 :: x6 :: x7 :: x8 :: x9 :: x10 :: x11 :: x12 :: x13 :: x14 :: x15 :: x16 :: l)[16]? = some x16 := rfl
@[simp] theorem set_16 {A : Type} {x0 x1 x2 x3 x4 x5 x6 x7 x8 x9 x10 x11 x12 x13 x14 x15 x16 y : A} {l : List A} : (x0 :: x1 :: x2 :: x3 :: x4 :: x5 :: x6 :: x7 :: x8 :: x9 :: x10 :: x11 :: x12 :: x13 :: x14 :: x15 :: x16 :: l).set 16 y = x0 :: x1 :: x2 :: x3 :: x4 :: x5 :: x6 :: x7 :: x8 :: x9 :: x10 :: x11 :: x12 :: x13 :: x14 :: x15 :: y :: l := rfl
@[simp] theorem get_17 {A : Type} {x0 x1 x2 x3 x4 x5 x6 x7 x8 x9 x10 x11 x12 x13 x14 x15 x16 x17 : A} {l : List A} : (x0 :: x1 :: x2 :: x3 :: x4 :: x5 :: x6 :: x7 :: x8 :: x9 :: x10 :: x11 :: x12 :: x13 :: x14 :: x15 :: x16 :: x17 :: l)[17]? = some x17 := rfl
@[simp] theorem set_17 {A : Type} {x0 x1 x2 x3 x4 x5 x6 x7 x8 x9 x10 x11 x12 x13 x14 x15 x16 x17 y : A} {l : List A} : (x0 :: x1 :: x2 :: x3 :: x4 :: x5 :: x6 :: x7 :: x8 :: x9 :: x10 :: x11 :: x12 :: x13 :: x14 :: x15 :: x16 :: x17 :: l).set 17 y = x0 :: x1 :: x2 :: x3 :: x4 :: x5 :: x6 :: x7 :: x8 :: x9 :: x10 :: x11 :: x12 :: x13 :: x14 :: x15 :: x16 :: y :: l := rfl
@[simp] theorem get_18 {A : Type} {x0 x1 x2 x3 x4 x5 x6 x7 x8 x9 x10 x11 x12 x13 x14 x15 x16 x17 x18 : A} {l : List A} : (x0 :: x1 :: x2 :: x3 :: x4 :: x5 :: x6 :: x7 :: x8 :: x9 :: x10 :: x11 :: x12 :: x13 :: x14 :: x15 :: x16 :: x17 :: x18 :: l)[18]? = some x18 := rfl
@[simp] theorem set_18 {A : Type} {x0 x1 x2 x3 x4 x5 x6 x7 x8 x9 x10 x11 x12 x13 x14 x15 x16 x17 x18 y : A} {l : List A} : (x0 :: x1 :: x2 :: x3 :: x4 :: x5 :: x6 :: x7 :: x8 :: x9 :: x10 :: x11 :: x12 :: x13 :: x14 :: x15 :: x16 :: x17 :: x18 :: l).set 18 y = x0 :: x1 :: x2 :: x3 :: x4 :: x5 :: x6 :: x7 :: x8 :: x9 :: x10 :: x11 :: x12 :: x13 :: x14 :: x15 :: x16 :: x17 :: y :: l := rfl
@[simp] theorem get_19 {A : Type} {x0 x1 x2 x3 x4 x5 x6 x7 x8 x9 x10 x11 x12 x13 x14 x15 x16 x17 x18 x19 : A} {l : List A} : (x0 :: x1 :: x2 :: x3 :: x4 :: x5 :: x6 :: x7 :: x8 :: x9 :: x10 :: x11 :: x12 :: x13 :: x14 :: x15 :: x16 :: x17 :: x18 :: x19 :: l)[19]? = some x19 := rfl
@[simp] theorem set_19 {A : Type} {x0 x1 x2 x3 x4 x5 x6 x7 x8 x9 x10 x11 x12 x13 x14 x15 x16 x17 x18 x19 y : A} {l : List A} : (x0 :: x1 :: x2 :: x3 :: x4 :: x5 :: x6 :: x7 :: x8 :: x9 :: x10 :: x11 :: x12 :: x13 :: x14 :: x15 :: x16 :: x17 :: x18 :: x19 :: l).set 19 y = x0 :: x1 :: x2 :: x3 :: x4 :: x5 :: x6 :: x7 :: x8 :: x9 :: x10 :: x11 :: x12 :: x13 :: x14 :: x15 :: x16 :: x17 :: x18 :: y :: l := rfl
@[simp] theorem get_20 {A : Type} {x0 x1 x2 x3 x4 x5 x6 x7 x8 x9 x10 x11 x12 x13 x14 x15 x16 x17 x18 x19 x20 : A} {l : List A} : (x0 :: x1 :: x2 :: x3 :: x4 :: x5 :: x6 :: x7 :: x8 :: x9 :: x10 :: x11 :: x12 :: x13 :: x14 :: x15 :: x16 :: x17 :: x18 :: x19 :: x20 :: l)[20]? = some x20 := rfl
@[simp] theorem set_20 {A : Type} {x0 x1 x2 x3 x4 x5 x6 x7 x8 x9 x10 x11 x12 x13 x14 x15 x16 x17 x18 x19 x20 y : A} {l : List A} : (x0 :: x1 :: x2 :: x3 :: x4 :: x5 :: x6 :: x7 :: x8 :: x9 :: x10 :: x11 :: x12 :: x13 :: x14 :: x15 :: x16 :: x17 :: x18 :: x19 :: x20 :: l).set 20 y = x0 :: x1 :: x2 :: x3 :: x4 :: x5 :: x6 :: x7 :: x8 :: x9 :: x10 :: x11 :: x12 :: x13 :: x14 :: x15 :: x16 :: x17 :: x18 :: x19 :: y :: l := rfl
@[simp] theorem get_21 {A : Type} {x0 x1 x2 x3 x4 x5 x6 x7 x8 x9 x10 x11 x12 x13 x14 x15 x16 x17 x18 x19 x20 x21 : A} {l : List A} : (x0 :: x1 :: x2 :: x3 :: x4 :: x5 :: x6 :: x7 :: x8 :: x9 :: x10 :: x11 :: x12 :: x13 :: x14 :: x15 :: x16 :: x17 :: x18 :: x19 :: x20 :: x21 :: l)[21]? = some x21 := rfl
@[simp] theorem set_21 {A : Type} {x0 x1 x2 x3 x4 x5 x6 x7 x8 x9 x10 x11 x12 x13 x14 x15 x16 x17 x18 x19 x20 x21 y : A} {l : List A} : (x0 :: x1 :: x2 :: x3 :: x4 :: x5 :: x6 :: x7 :: x8 :: x9 :: x10 :: x11 :: x12 :: x13 :: x14 :: x15 :: x16 :: x17 :: x18 :: x19 :: x20 :: x21 :: l).set 21 y = x0 :: x1 :: x2 :: x3 :: x4 :: x5 :: x6 :: x7 :: x8 :: x9 :: x10 :: x11 :: x12 :: x13 :: x14 :: x15 :: x16 :: x17 :: x18 :: x19 :: x20 :: y :: l := rfl
@[simp] theorem get_22 {A : Type} {x0 x1 x2 x3 x4 x5 x6 x7 x8 x9 x10 x11 x12 x13 x14 x15 x16 x17 x18 x19 x20 x21 x22 : A} {l : List A} : (x0 :: x1 :: x2 :: x3 :: x4 :: x5 :: x6 :: x7 :: x8 :: x9 :: x10 :: x11 :: x12 :: x13 :: x14 :: x15 :: x16 :: x17 :: x18 :: x19 :: x20 :: x21 :: x22 :: l)[22]? = some x22 := rfl
@[simp] theorem set_22 {A : Type} {x0 x1 x2 x3 x4 x5 x6 x7 x8 x9 x10 x11 x12 x13 x14 x15 x16 x17 x18 x19 x20 x21 x22 y : A} {l : List A} : (x0 :: x1 :: x2 :: x3 :: x4 :: x5 :: x6 :: x7 :: x8 :: x9 :: x10 :: x11 :: x12 :: x13 :: x14 :: x15 :: x16 :: x17 :: x18 :: x19 :: x20 :: x21 :: x22 :: l).set 22 y = x0 :: x1 :: x2 :: x3 :: x4 :: x5 :: x6 :: x7 :: x8 :: x9 :: x10 :: x11 :: x12 :: x13 :: x14 :: x15 :: x16 :: x17 :: x18 :: x19 :: x20 :: x21 :: y :: l := rfl
@[simp] theorem get_23 {A : Type} {x0 x1 x2 x3 x4 x5 x6 x7 x8 x9 x10 x11 x12 x13 x14 x15 x16 x17 x18 x19 x20 x21 x22 x23 : A} {l : List A} : (x0 :: x1 :: x2 :: x3 :: x4 :: x5 :: x6 :: x7 :: x8 :: x9 :: x10 :: x11 :: x12 :: x13 :: x14 :: x15 :: x16 :: x17 :: x18 :: x19 :: x20 :: x21 :: x22 :: x23 :: l)[23]? = some x23 := rfl
@[simp] theorem set_23 {A : Type} {x0 x1 x2 x3 x4 x5 x6 x7 x8 x9 x10 x11 x12 x13 x14 x15 x16 x17 x18 x19 x20 x21 x22 x23 y : A} {l : List A} : (x0 :: x1 :: x2 :: x3 :: x4 :: x5 :: x6 :: x7 :: x8 :: x9 :: x10 :: x11 :: x12 :: x13 :: x14 :: x15 :: x16 :: x17 :: x18 :: x19 :: x20 :: x21 :: x22 :: x23 :: l).set 23 y = x0 :: x1 :: x2 :: x3 :: x4 :: x5 :: x6 :: x7 :: x8 :: x9 :: x10 :: x11 :: x12 :: x13 :: x14 :: x15 :: x16 :: x17 :: x18 :: x19 :: x20 :: x21 :: x22 :: y :: l := rfl
@[simp] theorem kApp_1 {s0 : Slot} {x : D} {l : Fram} (h : xs.length < 16777216) : kApp 1 (x, s0 :: .own (.list xs) :: l) = .ok (.nx, s0 :: .own (.list (xs ++ [x])) :: l) := kApp_list (e := s0 :: .own (.list xs) :: l) rfl h
@[simp] theorem kExt_1 {s0 : Slot} {l : Fram} (h : xs.length + ys.length ≤ 16777216) : kExt 1 (.list ys, s0 :: .own (.list xs) :: l) = .ok (.nx, s0 :: .own (.list (xs ++ ys)) :: l) := kExt_list (e := s0 :: .own (.list xs) :: l) rfl h
theorem setD_1 {s0 : Slot} {kvs : List (D × D)} {y x : D} {q : NestedKey} {l : Fram} (hk : key? y = some q) (h : kvs.length < LINE) : setF 1 (s0 :: .own (.dict kvs) :: l) y x = .ok (.nx, s0 :: .own (.dict (dPut kvs q y x)) :: l) := setF_dict (env := s0 :: .own (.dict kvs) :: l) rfl hk h
theorem setL_1 {s0 : Slot} {x : D} {q : Int} {p : Nat} {l : Fram} (hp : place xs.length q = some p) : setF 1 (s0 :: .own (.list xs) :: l) (.int q) x = .ok (.nx, s0 :: .own (.list (xs.set p x)) :: l) := setF_list (env := s0 :: .own (.list xs) :: l) rfl hp
@[simp] theorem kApp_2 {s0 s1 : Slot} {x : D} {l : Fram} (h : xs.length < 16777216) : kApp 2 (x, s0 :: s1 :: .own (.list xs) :: l) = .ok (.nx, s0 :: s1 :: .own (.list (xs ++ [x])) :: l) := kApp_list (e := s0 :: s1 :: .own (.list xs) :: l) rfl h
@[simp] theorem kExt_2 {s0 s1 : Slot} {l : Fram} (h : xs.length + ys.length ≤ 16777216) : kExt 2 (.list ys, s0 :: s1 :: .own (.list xs) :: l) = .ok (.nx, s0 :: s1 :: .own (.list (xs ++ ys)) :: l) := kExt_list (e := s0 :: s1 :: .own (.list xs) :: l) rfl h
theorem setD_2 {s0 s1 : Slot} {kvs : List (D × D)} {y x : D} {q : NestedKey} {l : Fram} (hk : key? y = some q) (h : kvs.length < LINE) : setF 2 (s0 :: s1 :: .own (.dict kvs) :: l) y x = .ok (.nx, s0 :: s1 :: .own (.dict (dPut kvs q y x)) :: l) := setF_dict (env := s0 :: s1 :: .own (.dict kvs) :: l) rfl hk h
theorem setL_2 {s0 s1 : Slot} {x : D} {q : Int} {p : Nat} {l : Fram} (hp : place xs.length q = some p) : setF 2 (s0 :: s1 :: .own (.list xs) :: l) (.int q) x = .ok (.nx, s0 :: s1 :: .own (.list (xs.set p x)) :: l) := setF_list (env := s0 :: s1 :: .own (.list xs) :: l) rfl hp
@[simp] theorem kApp_3 {s0 s1 s2 : Slot} {x : D} {l : Fram} (h : xs.length < 16777216) : kApp 3 (x, s0 :: s1 :: s2 :: .own (.list xs) :: l) = .ok (.nx, s0 :: s1 :: s2 :: .own (.list (xs ++ [x])) :: l) := kApp_list (e := s0 :: s1 :: s2 :: .own (.list xs) :: l) rfl h
@[simp] theorem kExt_3 {s0 s1 s2 : Slot} {l : Fram} (h : xs.length + ys.length ≤ 16777216) : kExt 3 (.list ys, s0 :: s1 :: s2 :: .own (.list xs) :: l) = .ok (.nx, s0 :: s1 :: s2 :: .own (.list (xs ++ ys)) :: l) := kExt_list (e := s0 :: s1 :: s2 :: .own (.list xs) :: l) rfl h
theorem setD_3 {s0 s1 s2 : Slot} {kvs : List (D × D)} {y x : D} {q : NestedKey} {l : Fram} (hk : key? y = some q) (h : kvs.length < LINE) : setF 3 (s0 :: s1 :: s2 :: .own (.dict kvs) :: l) y x = .ok (.nx, s0 :: s1 :: s2 :: .own (.dict (dPut kvs q y x)) :: l) := setF_dict (env := s0 :: s1 :: s2 :: .own (.dict kvs) :: l) rfl hk h
theorem setL_3 {s0 s1 s2 : Slot} {x : D} {q : Int} {p : Nat} {l : Fram} (hp : place xs.length q = some p) : setF 3 (s0 :: s1 :: s2 :: .own (.list xs) :: l) (.int q) x = .ok (.nx, s0 :: s1 :: s2 :: .own (.list (xs.set p x)) :: l) := setF_list (env := s0 :: s1 :: s2 :: .own (.list xs) :: l) rfl hp
@[simp] theorem kApp_4 {s0 s1 s2 s3 : Slot} {x : D} {l : Fram} (h : xs.length < 16777216) : kApp 4 (x, s0 :: s1 :: s2 :: s3 :: .own (.list xs) :: l) = .ok (.nx, s0 :: s1 :: s2 :: s3 :: .own (.list (xs ++ [x])) :: l) := kApp_list (e := s0 :: s1 :: s2 :: s3 :: .own (.list xs) :: l) rfl h
@[simp] theorem kExt_4 {s0 s1 s2 s3 : Slot} {l : Fram} (h : xs.length + ys.length ≤ 16777216) : kExt 4 (.list ys, s0 :: s1 :: s2 :: s3 :: .own (.list xs) :: l) = .ok (.nx, s0 :: s1 :: s2 :: s3 :: .own (.list (xs ++ ys)) :: l) := kExt_list (e := s0 :: s1 :: s2 :: s3 :: .own (.list xs) :: l) rfl h
theorem setD_4 {s0 s1 s2 s3 : Slot} {kvs : List (D × D)} {y x : D} {q : NestedKey} {l : Fram} (hk : key? y = some q) (h : kvs.length < LINE) : setF 4 (s0 :: s1 :: s2 :: s3 :: .own (.dict kvs) :: l) y x = .ok (.nx, s0 :: s1 :: s2 :: s3 :: .own (.dict (dPut kvs q y x)) :: l) := setF_dict (env := s0 :: s1 :: s2 :: s3 :: .own (.dict kvs) :: l) rfl hk h
theorem setL_4 {s0 s1 s2 s3 : Slot} {x : D} {q : Int} {p : Nat} {l : Fram} (hp : place xs.length q = some p) : setF 4 (s0 :: s1 :: s2 :: s3 :: .own (.list xs) :: l) (.int q) x = .ok (.nx, s0 :: s1 :: s2 :: s3 :: .own (.list (xs.set p x)) :: l) := setF_list (env := s0 :: s1 :: s2 :: s3 :: .own (.list xs) :: l) rfl hp
@[simp] theorem kApp_5 {s0 s1 s2 s3 s4 : Slot} {x : D} {l : Fram} (h : xs.length < 16777216) : kApp 5 (x, s0 :: s1 :: s2 :: s3 :: s4 :: .own (.list xs) :: l) = .ok (.nx, s0 :: s1 :: s2 :: s3 :: s4 :: .own (.list (xs ++ [x])) :: l) := kApp_list (e := s0 :: s1 :: s2 :: s3 :: s4 :: .own (.list xs) :: l) rfl h
@[simp] theorem kExt_5 {s0 s1 s2 s3 s4 : Slot} {l : Fram} (h : xs.length + ys.length ≤ 16777216) : kExt 5 (.list ys, s0 :: s1 :: s2 :: s3 :: s4 :: .own (.list xs) :: l) = .ok (.nx, s0 :: s1 :: s2 :: s3 :: s4 :: .own (.list (xs ++ ys)) :: l) := kExt_list (e := s0 :: s1 :: s2 :: s3 :: s4 :: .own (.list xs) :: l) rfl h
theorem setD_5 {s0 s1 s2 s3 s4 : Slot} {kvs : List (D × D)} {y x : D} {q : NestedKey} {l : Fram} (hk : key? y = some q) (h : kvs.length < LINE) : setF 5 (s0 :: s1 :: s2 :: s3 :: s4 :: .own (.dict kvs) :: l) y x = .ok (.nx, s0 :: s1 :: s2 :: s3 :: s4 :: .own (.dict (dPut kvs q y x)) :: l) := setF_dict (env := s0 :: s1 :: s2 :: s3 :: s4 :: .own (.dict kvs) :: l) rfl hk h
theorem setL_5 {s0 s1 s2 s3 s4 : Slot} {x : D} {q : Int} {p : Nat} {l : Fram} (hp : place xs.length q = some p) : setF 5 (s0 :: s1 :: s2 :: s3 :: s4 :: .own (.list xs) :: l) (.int q) x = .ok (.nx, s0 :: s1 :: s2 :: s3 :: s4 :: .own (.list (xs.set p x)) :: l) := setF_list (env := s0 :: s1 :: s2 :: s3 :: s4 :: .own (.list xs) :: l) rfl hp
@[simp] theorem kApp_6 {s0 s1 s2 s3 s4 s5 : Slot} {x : D} {l : Fram} (h : xs.length < 16777216) : kApp 6 (x, s0 :: s1 :: s2 :: s3 :: s4 :: s5 :: .own (.list xs) :: l) = .ok (.nx, s0 :: s1 :: s2 :: s3 :: s4 :: s5 :: .own (.list (xs ++ [x])) :: l) := kApp_list (e := s0 :: s1 :: s2 :: s3 :: s4 :: s5 :: .own (.list xs) :: l) rfl h
@[simp] theorem kExt_6 {s0 s1 s2 s3 s4 s5 : Slot} {l : Fram} (h : xs.length + ys.length ≤ 16777216) : kExt 6 (.list ys, s0 :: s1 :: s2 :: s3 :: s4 :: s5 :: .own (.list xs) :: l) = .ok (.nx, s0 :: s1 :: s2 :: s3 :: s4 :: s5 :: .own (.list (xs ++ ys)) :: l) := kExt_list (e := s0 :: s1 :: s2 :: s3 :: s4 :: s5 :: .own (.list xs) :: l) rfl h
theorem setD_6 {s0 s1 s2 s3 s4 s5 : Slot} {kvs : List (D × D)} {y x : D} {q : NestedKey} {l : Fram} (hk : key? y = some q) (h : kvs.length < LINE) : setF 6 (s0 :: s1 :: s2 :: s3 :: s4 :: s5 :: .own (.dict kvs) :: l) y x = .ok (.nx, s0 :: s1 :: s2 :: s3 :: s4 :: s5 :: .own (.dict (dPut kvs q y x)) :: l) := setF_dict (env := s0 :: s1 :: s2 :: s3 :: s4 :: s5 :: .own (.dict kvs) :: l) rfl hk h
theorem setL_6 {s0 s1 s2 s3 s4 s5 : Slot} {x : D} {q : Int} {p : Nat} {l : Fram} (hp : place xs.length q = some p) : setF 6 (s0 :: s1 :: s2 :: s3 :: s4 :: s5 :: .own (.list xs) :: l) (.int q) x = .ok (.nx, s0 :: s1 :: s2 :: s3 :: s4 :: s5 :: .own (.list (xs.set p x)) :: l) := setF_list (env := s0 :: s1 :: s2 :: s3 :: s4 :: s5 :: .own (.list xs) :: l) rfl hp
@[simp] theorem kApp_7 {s0 s1 s2 s3 s4 s5 s6 : Slot} {x : D} {l : Fram} (h : xs.length < 16777216) : kApp 7 (x, s0 :: s1 :: s2 :: s3 :: s4 :: s5 :: s6 :: .own (.list xs) :: l) = .ok (.nx, s0 :: s1 :: s2 :: s3 :: s4 :: s5 :: s6 :: .own (.list (xs ++ [x])) :: l) := kApp_list (e := s0 :: s1 :: s2 :: s3 :: s4 :: s5 :: s6 :: .own (.list xs) :: l) rfl h
@[simp] theorem kExt_7 {s0 s1 s2 s3 s4 s5 s6 : Slot} {l : Fram} (h : xs.length + ys.length ≤ 16777216) : kExt 7 (.list ys, s0 :: s1 :: s2 :: s3 :: s4 :: s5 :: s6 :: .own (.list xs) :: l) = .ok (.nx, s0 :: s1 :: s2 :: s3 :: s4 :: s5 :: s6 :: .own (.list (xs ++ ys)) :: l) := kExt_list (e := s0 :: s1 :: s2 :: s3 :: s4 :: s5 :: s6 :: .own (.list xs) :: l) rfl h
theorem setD_7 {s0 s1 s2 s3 s4 s5 s6 : Slot} {kvs : List (D × D)} {y x : D} {q : NestedKey} {l : Fram} (hk : key? y = some q) (h : kvs.length < LINE) : setF 7 (s0 :: s1 :: s2 :: s3 :: s4 :: s5 :: s6 :: .own (.dict kvs) :: l) y x = .ok (.nx, s0 :: s1 :: s2 :: s3 :: s4 :: s5 :: s6 :: .own (.dict (dPut kvs q y x)) :: l) := setF_dict (env := s0 :: s1 :: s2 :: s3 :: s4 :: s5 :: s6 :: .own (.dict kvs) :: l) rfl hk h
theorem setL_7 {s0 s1 s2 s3 s4 s5 s6 : Slot} {x : D} {q : Int} {p : Nat} {l : Fram} (hp : place xs.length q = some p) : setF 7 (s0 :: s1 :: s2 :: s3 :: s4 :: s5 :: s6 :: .own (.list xs) :: l) (.int q) x = .ok (.nx, s0 :: s1 :: s2 :: s3 :: s4 :: s5 :: s6 :: .own (.list (xs.set p x)) :: l) := setF_list (env := s0 :: s1 :: s2 :: s3 :: s4 :: s5 :: s6 :: .own (.list xs) :: l) rfl hp
@[simp] theorem kApp_8 {s0 s1 s2 s3 s4 s5 s6 s7 : Slot} {x : D} {l : Fram} (h : xs.length < 16777216) : kApp 8 (x, s0 :: s1 :: s2 :: s3 :: s4 :: s5 :: s6 :: s7 :: .own (.list xs) :: l) = .ok (.nx, s0 :: s1 :: s2 :: s3 :: s4 :: s5 :: s6 :: s7 :: .own (.list (xs ++ [x])) :: l) := kApp_list (e := s0 :: s1 :: s2 :: s3 :: s4 :: s5 :: s6 :: s7 :: .own (.list xs) :: l) rfl h
@[simp] theorem kExt_8 {s0 s1 s2 s3 s4 s5 s6 s7 : Slot} {l : Fram} (h : xs.length + ys.length ≤ 16777216) : kExt 8 (.list ys, s0 :: s1 :: s2 :: s3 :: s4 :: s5 :: s6 :: s7 :: .own (.list xs) :: l) = .ok (.nx, s0 :: s1 :: s2 :: s3 :: s4 :: s5 :: s6 :: s7 :: .own (.list (xs ++ ys)) :: l) := kExt_list (e := s0 :: s1 :: s2 :: s3 :: s4 :: s5 :: s6 :: s7 :: .own (.list xs) :: l) rfl h
theorem setD_8 {s0 s1 s2 s3 s4 s5 s6 s7 : Slot} {kvs : List (D × D)} {y x : D} {q : NestedKey} {l : Fram} (hk : key? y = some q) (h : kvs.length < LINE) : setF 8 (s0 :: s1 :: s2 :: s3 :: s4 :: s5 :: s6 :: s7 :: .own (.dict kvs) :: l) y x = .ok (.nx, s0 :: s1 :: s2 :: s3 :: s4 :: s5 :: s6 :: s7 :: .own (.dict (dPut kvs q y x)) :: l) := setF_dict (env := s0 :: s1 :: s2 :: s3 :: s4 :: s5 :: s6 :: s7 :: .own (.dict kvs) :: l) rfl hk h
theorem setL_8 {s0 s1 s2 s3 s4 s5 s6 s7 : Slot} {x : D} {q : Int} {p : Nat} {l : Fram} (hp : place xs.length q = some p) : setF 8 (s0 :: s1 :: s2 :: s3 :: s4 :: s5 :: s6 :: s7 :: .own (.list xs) :: l) (.int q) x = .ok (.nx, s0 :: s1 :: s2 :: s3 :: s4 :: s5 :: s6 :: s7 :: .own (.list (xs.set p x)) :: l) := setF_list (env := s0 :: s1 :: s2 :: s3 :: s4 :: s5 :: s6 :: s7 :: .own (.list xs) :: l) rfl hp
@[simp] theorem kApp_9 {s0 s1 s2 s3 s4 s5 s6 s7 s8 : Slot} {x : D} {l : Fram} (h : xs.length < 16777216) : kApp 9 (x, s0 :: s1 :: s2 :: s3 :: s4 :: s5 :: s6 :: s7 :: s8 :: .own (.list xs) :: l) = .ok (.nx, s0 :: s1 :: s2 :: s3 :: s4 :: s5 :: s6 :: s7 :: s8 :: .own (.list (xs ++ [x])) :: l) := kApp_list (e := s0 :: s1 :: s2 :: s3 :: s4 :: s5 :: s6 :: s7 :: s8 :: .own (.list xs) :: l) rfl h
@[simp] theorem kExt_9 {s0 s1 s2 s3 s4 s5 s6 s7 s8 : Slot} {l : Fram} (h : xs.length + ys.length ≤ 16777216) : kExt 9 (.list ys, s0 :: s1 :: s2 :: s3 :: s4 :: s5 :: s6 :: s7 :: s8 :: .own (.list xs) :: l) = .ok (.nx, s0 :: s1 :: s2 :: s3 :: s4 :: s5 :: s6 :: s7 :: s8 :: .own (.list (xs ++ ys)) :: l) := kExt_list (e := s0 :: s1 :: s2 :: s3 :: s4 :: s5 :: s6 :: s7 :: s8 :: .own (.list xs) :: l) rfl h
theorem setD_9 {s0 s1 s2 s3 s4 s5 s6 s7 s8 : Slot} {kvs : List (D × D)} {y x : D} {q : NestedKey} {l : Fram} (hk : key? y = some q) (h : kvs.length < LINE) : setF 9 (s0 :: s1 :: s2 :: s3 :: s4 :: s5 :: s6 :: s7 :: s8 :: .own (.dict kvs) :: l) y x = .ok (.nx, s0 :: s1 :: s2 :: s3 :: s4 :: s5 :: s6 :: s7 :: s8 :: .own (.dict (dPut kvs q y x)) :: l) := setF_dict (env := s0 :: s1 :: s2 :: s3 :: s4 :: s5 :: s6 :: s7 :: s8 :: .own (.dict kvs) :: l) rfl hk h
theorem setL_9 {s0 s1 s2 s3 s4 s5 s6 s7 s8 : Slot} {x : D} {q : Int} {p : Nat} {l : Fram} (hp : place xs.length q = some p) : setF 9 (s0 :: s1 :: s2 :: s3 :: s4 :: s5 :: s6 :: s7 :: s8 :: .own (.list xs) :: l) (.int q) x = .ok (.nx, s0 :: s1 :: s2 :: s3 :: s4 :: s5 :: s6 :: s7 :: s8 :: .own (.list (xs.set p x)) :: l) := setF_list (env := s0 :: s1 :: s2 :: s3 :: s4 :: s5 :: s6 :: s7 :: s8 :: .own (.list xs) :: l) rfl hp
@[simp] theorem kApp_10 {s0 s1 s2 s3 s4 s5 s6 s7 s8 s9 : Slot} {x : D} {l : Fram} (h : xs.length < 16777216) : kApp 10 (x, s0 :: s1 :: s2 :: s3 :: s4 :: s5 :: s6 :: s7 :: s8 :: s9 :: .own (.list xs) :: l) = .ok (.nx, s0 :: s1 :: s2 :: s3 :: s4 :: s5 :: s6 :: s7 :: s8 :: s9 :: .own (.list (xs ++ [x])) :: l) := kApp_list (e := s0 :: s1 :: s2 :: s3 :: s4 :: s5 :: s6 :: s7 :: s8 :: s9 :: .own (.list xs) :: l) rfl h
@[simp] theorem kExt_10 {s0 s1 s2 s3 s4 s5 s6 s7 s8 s9 : Slot} {l : Fram} (h : xs.length + ys.length ≤ 16777216) : kExt 10 (.list ys, s0 :: s1 :: s2 :: s3 :: s4 :: s5 :: s6 :: s7 :: s8 :: s9 :: .own (.list xs) :: l) = .ok (.nx, s0 :: s1 :: s2 :: s3 :: s4 :: s5 :: s6 :: s7 :: s8 :: s9 :: .own (.list (xs ++ ys)) :: l) := kExt_list (e := s0 :: s1 :: s2 :: s3 :: s4 :: s5 :: s6 :: s7 :: s8 :: s9 :: .own (.list xs) :: l) rfl h
theorem setD_10 {s0 s1 s2 s3 s4 s5 s6 s7 s8 s9 : Slot} {kvs : List (D × D)} {y x : D} {q : NestedKey} {l : Fram} (hk : key? y = some q) (h : kvs.length < LINE) : setF 10 (s0 :: s1 :: s2 :: s3 :: s4 :: s5 :: s6 :: s7 :: s8 :: s9 :: .own (.dict kvs) :: l) y x = .ok (.nx, s0 :: s1 :: s2 :: s3 :: s4 :: s5 :: s6 :: s7 :: s8 :: s9 :: .own (.dict (dPut kvs q y x)) :: l) := setF_dict (env := s0 :: s1 :: s2 :: s3 :: s4 :: s5 :: s6 :: s7 :: s8 :: s9 :: .own (.dict kvs) :: l) rfl hk h
theorem setL_10 {s0 s1 s2 s3 s4 s5 s6 s7 s8 s9 : Slot} {x : D} {q : Int} {p : Nat} {l : Fram} (hp : place xs.length q = some p) : setF 10 (s0 :: s1 :: s2 :: s3 :: s4 :: s5 :: s6 :: s7 :: s8 :: s9 :: .own (.list xs) :: l) (.int q) x = .ok (.nx, s0 :: s1 :: s2 :: s3 :: s4 :: s5 :: s6 :: s7 :: s8 :: s9 :: .own (.list (xs.set p x)) :: l) := setF_list (env := s0 :: s1 :: s2 :: s3 :: s4 :: s5 :: s6 :: s7 :: s8 :: s9 :: .own (.list xs) :: l) rfl hp
@[simp] theorem kApp_11 {s0 s1 s2 s3 s4 s5 s6 s7 s8 s9 s10 : Slot} {x : D} {l : Fram} (h : xs.length < 16777216) : kApp 11 (x, s0 :: s1 :: s2 :: s3 :: s4 :: s5 :: s6 :: s7 :: s8 :: s9 :: s10 :: .own (.list xs) :: l) = .ok (.nx, s0 :: s1 :: s2 :: s3 :: s4 :: s5 :: s6 :: s7 :: s8 :: s9 :: s10 :: .own (.list (xs ++ [x])) :: l) := kApp_list (e := s0 :: s1 :: s2 :: s3 :: s4 :: s5 :: s6 :: s7 :: s8 :: s9 :: s10 :: .own (.list xs) :: l) rfl h
@[simp] theorem kExt_11 {s0 s1 s2 s3 s4 s5 s6 s7 s8 s9 s10 : Slot} {l : Fram} (h : xs.length + ys.length ≤ 16777216) : kExt 11 (.list ys, s0 :: s1 :: s2 :: s3 :: s4 :: s5 :: s6 :: s7 :: s8 :: s9 :: s10 :: .own (.list xs) :: l) = .ok (.nx, s0 :: s1 :: s2 :: s3 :: s4 :: s5 :: s6 :: s7 :: s8 :: s9 :: s10 :: .own (.list (xs ++ ys)) :: l) := kExt_list (e := s0 :: s1 :: s2 :: s3 :: s4 :: s5 :: s6 :: s7 :: s8 :: s9 :: s10 :: .own (.list xs) :: l) rfl h
theorem setD_11 {s0 s1 s2 s3 s4 s5 s6 s7 s8 s9 s10 : Slot} {kvs : List (D × D)} {y x : D} {q : NestedKey} {l : Fram} (hk : key? y = some q) (h : kvs.length < LINE) : setF 11 (s0 :: s1 :: s2 :: s3 :: s4 :: s5 :: s6 :: s7 :: s8 :: s9 :: s10 :: .own (.dict kvs) :: l) y x = .ok (.nx, s0 :: s1 :: s2 :: s3 :: s4 :: s5 :: s6 :: s7 :: s8 :: s9 :: s10 :: .own (.dict (dPut kvs q y x)) :: l) := setF_dict (env := s0 :: s1 :: s2 :: s3 :: s4 :: s5 :: s6 :: s7 :: s8 :: s9 :: s10 :: .own (.dict kvs) :: l) rfl hk h
theorem setL_11 {s0 s1 s2 s3 s4 s5 s6 s7 s8 s9 s10 : Slot} {x : D} {q : Int} {p : Nat} {l : Fram} (hp : place xs.length q = some p) : setF 11 (s0 :: s1 :: s2 :: s3 :: s4 :: s5 :: s6 :: s7 :: s8 :: s9 :: s10 :: .own (.list xs) :: l) (.int q) x = .ok (.nx, s0 :: s1 :: s2 :: s3 :: s4 :: s5 :: s6 :: s7 :: s8 :: s9 :: s10 :: .own (.list (xs.set p x)) :: l) := setF_list (env := s0 :: s1 :: s2 :: s3 :: s4 :: s5 :: s6 :: s7 :: s8 :: s9 :: s10 :: .own (.list xs) :: l) rfl hp
@[simp] theorem kApp_12 {s0 s1 s2 s3 s4 s5 s6 s7 s8 s9 s10 s11 : Slot} {x : D} {l : Fram} (h : xs.length < 16777216) : kApp 12 (x, s0 :: s1 :: s2 :: s3 :: s4 :: s5 :: s6 :: s7 :: s8 :: s9 :: s10 :: s11 :: .own (.list xs) :: l) = .ok (.nx, s0 :: s1 :: s2 :: s3 :: s4 :: s5 :: s6 :: s7 :: s8 :: s9 :: s10 :: s11 :: .own (.list (xs ++ [x])) :: l) := kApp_list (e := s0 :: s1 :: s2 :: s3 :: s4 :: s5 :: s6 :: s7 :: s8 :: s9 :: s10 :: s11 :: .own (.list xs) :: l) rfl h
@[simp] theorem kExt_12 {s0 s1 s2 s3 s4 s5 s6 s7 s8 s9 s10 s11 : Slot} {l : Fram} (h : xs.length + ys.length ≤ 16777216) : kExt 12 (.list ys, s0 :: s1 :: s2 :: s3 :: s4 :: s5 :: s6 :: s7 :: s8 :: s9 :: s10 :: s11 :: .own (.list xs) :: l) = .ok (.nx, s0 :: s1 :: s2 :: s3 :: s4 :: s5 :: s6 :: s7 :: s8 :: s9 :: s10 :: s11 :: .own (.list (xs ++ ys)) :: l) := kExt_list (e := s0 :: s1 :: s2 :: s3 :: s4 :: s5 :: s6 :: s7 :: s8 :: s9 :: s10 :: s11 :: .own (.list xs) :: l) rfl h
theorem setD_12 {s0 s1 s2 s3 s4 s5 s6 s7 s8 s9 s10 s11 : Slot} {kvs : List (D × D)} {y x : D} {q : NestedKey} {l : Fram} (hk : key? y = some q) (h : kvs.length < LINE) : setF 12 (s0 :: s1 :: s2 :: s3 :: s4 :: s5 :: s6 :: s7 :: s8 :: s9 :: s10 :: s11 :: .own (.dict kvs) :: l) y x = .ok (.nx, s0 :: s1 :: s2 :: s3 :: s4 :: s5 :: s6 :: s7 :: s8 :: s9 :: s10 :: s11 :: .own (.dict (dPut kvs q y x)) :: l) := setF_dict (env := s0 :: s1 :: s2 :: s3 :: s4 :: s5 :: s6 :: s7 :: s8 :: s9 :: s10 :: s11 :: .own (.dict kvs) :: l) rfl hk h
theorem setL_12 {s0 s1 s2 s3 s4 s5 s6 s7 s8 s9 s10 s11 : Slot} {x : D} {q : Int} {p : Nat} {l : Fram} (hp : place xs.length q = some p) : setF 12 (s0 :: s1 :: s2 :: s3 :: s4 :: s5 :: s6 :: s7 :: s8 :: s9 :: s10 :: s11 :: .own (.list xs) :: l) (.int q) x = .ok (.nx, s0 :: s1 :: s2 :: s3 :: s4 :: s5 :: s6 :: s7 :: s8 :: s9 :: s10 :: s11 :: .own (.list (xs.set p x)) :: l) := setF_list (env := s0 :: s1 :: s2 :: s3 :: s4 :: s5 :: s6 :: s7 :: s8 :: s9 :: s10 :: s11 :: .own (.list xs) :: l) rfl hp
@[simp] theorem kApp_13 {s0 s1 s2 s3 s4 s5 s6 s7 s8 s9 s10 s11 s12 : Slot} {x : D} {l : Fram} (h : xs.length < 16777216) : kApp 13 (x, s0 :: s1 :: s2 :: s3 :: s4 :: s5 :: s6 :: s7 :: s8 :: s9 :: s10 :: s11 :: s12 :: .own (.list xs) :: l) = .ok (.nx, s0 :: s1 :: s2 :: s3 :: s4 :: s5 :: s6 :: s7 :: s8 :: s9 :: s10 :: s11 :: s12 :: .own (.list (xs ++ [x])) :: l) := kApp_list (e := s0 :: s1 :: s2 :: s3 :: s4 :: s5 :: s6 :: s7 :: s8 :: s9 :: s10 :: s11 :: s12 :: .own (.list xs) :: l) rfl h
@[simp] theorem kExt_13 {s0 s1 s2 s3 s4 s5 s6 s7 s8 s9 s10 s11 s12 : Slot} {l : Fram} (h : xs.length + ys.length ≤ 16777216) : kExt 13 (.list ys, s0 :: s1 :: s2 :: s3 :: s4 :: s5 :: s6 :: s7 :: s8 :: s9 :: s10 :: s11 :: s12 :: .own (.list xs) :: l) = .ok (.nx, s0 :: s1 :: s2 :: s3 :: s4 :: s5 :: s6 :: s7 :: s8 :: s9 :: s10 :: s11 :: s12 :: .own (.list (xs ++ ys)) :: l) := kExt_list (e := s0 :: s1 :: s2 :: s3 :: s4 :: s5 :: s6 :: s7 :: s8 :: s9 :: s10 :: s11 :: s12 :: .own (.list xs) :: l) rfl h
theorem setD_13 {s0 s1 s2 s3 s4 s5 s6 s7 s8 s9 s10 s11 s12 : Slot} {kvs : List (D × D)} {y x : D} {q : NestedKey} {l : Fram} (hk : key? y = some q) (h : kvs.length < LINE) : setF 13 (s0 :: s1 :: s2 :: s3 :: s4 :: s5 :: s6 :: s7 :: s8 :: s9 :: s10 :: s11 :: s12 :: .own (.dict kvs) :: l) y x = .ok (.nx, s0 :: s1 :: s2 :: s3 :: s4 :: s5 :: s6 :: s7 :: s8 :: s9 :: s10 :: s11 :: s12 :: .own (.dict (dPut kvs q y x)) :: l) := setF_dict (env := s0 :: s1 :: s2 :: s3 :: s4 :: s5 :: s6 :: s7 :: s8 :: s9 :: s10 :: s11 :: s12 :: .own (.dict kvs) :: l) rfl hk h
theorem setL_13 {s0 s1 s2 s3 s4 s5 s6 s7 s8 s9 s10 s11 s12 : Slot} {x : D} {q : Int} {p : Nat} {l : Fram} (hp : place xs.length q = some p) : setF 13 (s0 :: s1 :: s2 :: s3 :: s4 :: s5 :: s6 :: s7 :: s8 :: s9 :: s10 :: s11 :: s12 :: .own (.list xs) :: l) (.int q) x = .ok (.nx, s0 :: s1 :: s2 :: s3 :: s4 :: s5 :: s6 :: s7 :: s8 :: s9 :: s10 :: s11 :: s12 :: .own (.list (xs.set p x)) :: l) := setF_list (env := s0 :: s1 :: s2 :: s3 :: s4 :: s5 :: s6 :: s7 :: s8 :: s9 :: s10 :: s11 :: s12 :: .own (.list xs) :: l) rfl hp
@[simp] theorem kApp_14 {s0 s1 s2 s3 s4 s5 s6 s7 s8 s9 s10 s11 s12 s13 : Slot} {x : D} {l : Fram} (h : xs.length < 16777216) : kApp 14 (x, s0 :: s1 :: s2 :: s3 :: s4 :: s5 :: s6 :: s7 :: s8 :: s9 :: s10 :: s11 :: s12 :: s13 :: .own (.list xs) :: l) = .ok (.nx, s0 :: s1 :: s2 :: s3 :: s4 :: s5 :: s6 :: s7 :: s8 :: s9 :: s10 :: s11 :: s12 :: s13 :: .own (.list (xs ++ [x])) :: l) := kApp_list (e := s0 :: s1 :: s2 :: s3 :: s4 :: s5 :: s6 :: s7 :: s8 :: s9 :: s10 :: s11 :: s12 :: s13 :: .own (.list xs) :: l) rfl h
@[simp] theorem kExt_14 {s0 s1 s2 s3 s4 s5 s6 s7 s8 s9 s10 s11 s12 s13 : Slot} {l : Fram} (h : xs.length + ys.length ≤ 16777216) : kExt 14 (.list ys, s0 :: s1 :: s2 :: s3 :: s4 :: s5 :: s6 :: s7 :: s8 :: s9 :: s10 :: s11 :: s12 :: s13 :: .own (.list xs) :: l) = .ok (.nx, s0 :: s1 :: s2 :: s3 :: s4 :: s5 :: s6 :: s7 :: s8 :: s9 :: s10 :: s11 :: s12 :: s13 :: .own (.list (xs ++ ys)) :: l) := kExt_list (e := s0 :: s1 :: s2 :: s3 :: s4 :: s5 :: s6 :: s7 :: s8 :: s9 :: s10 :: s11 :: s12 :: s13 :: .own (.list xs) :: l) rfl h
theorem setD_14 {s0 s1 s2 s3 s4 s5 s6 s7 s8 s9 s10 s11 s12 s13 : Slot} {kvs : List (D × D)} {y x : D} {q : NestedKey} {l : Fram} (hk : key? y = some q) (h : kvs.length < LINE) : setF 14 (s0 :: s1 :: s2 :: s3 :: s4 :: s5 :: s6 :: s7 :: s8 :: s9 :: s10 :: s11 :: s12 :: s13 :: .own (.dict kvs) :: l) y x = .ok (.nx, s0 :: s1 :: s2 :: s3 :: s4 :: s5 :: s6 :: s7 :: s8 :: s9 :: s10 :: s11 :: s12 :: s13 :: .own (.dict (dPut kvs q y x)) :: l) := setF_dict (env := s0 :: s1 :: s2 :: s3 :: s4 :: s5 :: s6 :: s7 :: s8 :: s9 :: s10 :: s11 :: s12 :: s13 :: .own (.dict kvs) :: l) rfl hk h
theorem setL_14 {s0 s1 s2 s3 s4 s5 s6 s7 s8 s9 s10 s11 s12 s13 : Slot} {x : D} {q : Int} {p : Nat} {l : Fram} (hp : place xs.length q = some p) : setF 14 (s0 :: s1 :: s2 :: s3 :: s4 :: s5 :: s6 :: s7 :: s8 :: s9 :: s10 :: s11 :: s12 :: s13 :: .own (.list xs) :: l) (.int q) x = .ok (.nx, s0 :: s1 :: s2 :: s3 :: s4 :: s5 :: s6 :: s7 :: s8 :: s9 :: s10 :: s11 :: s12 :: s13 :: .own (.list (xs.set p x)) :: l) := setF_list (env := s0 :: s1 :: s2 :: s3 :: s4 :: s5 :: s6 :: s7 :: s8 :: s9 :: s10 :: s11 :: s12 :: s13 :: .own (.list xs) :: l) rfl hp
@[simp] theorem kApp_15 {s0 s1 s2 s3 s4 s5 s6 s7 s8 s9 s10 s11 s12 s13 s14 : Slot} {x : D} {l : Fram} (h : xs.length < 16777216) : kApp 15 (x, s0 :: s1 :: s2 :: s3 :: s4 :: s5 :: s6 :: s7 :: s8 :: s9 :: s10 :: s11 :: s12 :: s13 :: s14 :: .own (.list xs) :: l) = .ok (.nx, s0 :: s1 :: s2 :: s3 :: s4 :: s5 :: s6 :: s7 :: s8 :: s9 :: s10 :: s11 :: s12 :: s13 :: s14 :: .own (.list (xs ++ [x])) :: l) := kApp_list (e := s0 :: s1 :: s2 :: s3 :: s4 :: s5 :: s6 :: s7 :: s8 :: s9 :: s10 :: s11 :: s12 :: s13 :: s14 :: .own (.list xs) :: l) rfl h
@[simp] theorem kExt_15 {s0 s1 s2 s3 s4 s5 s6 s7 s8 s9 s10 s11 s12 s13 s14 : Slot} {l : Fram} (h : xs.length + ys.length ≤ 16777216) : kExt 15 (.list ys, s0 :: s1 :: s2 :: s3 :: s4 :: s5 :: s6 :: s7 :: s8 :: s9 :: s10 :: s11 :: s12 :: s13 :: s14 :: .own (.list xs) :: l) = .ok (.nx, s0 :: s1 :: s2 :: s3 :: s4 :: s5 :: s6 :: s7 :: s8 :: s9 :: s10 :: s11 :: s12 :: s13 :: s14 :: .own (.list (xs ++ ys)) :: l) := kExt_list (e := s0 :: s1 :: s2 :: s3 :: s4 :: s5 :: s6 :: s7 :: s8 :: s9 :: s10 :: s11 :: s12 :: s13 :: s14 :: .own (.list xs) :: l) rfl h
theorem setD_15 {s0 s1 s2 s3 s4 s5 s6 s7 s8 s9 s10 s11 s12 s13 s14 : Slot} {kvs : List (D × D)} {y x : D} {q : NestedKey} {l : Fram} (hk : key? y = some q) (h : kvs.length < LINE) : setF 15 (s0 :: s1 :: s2 :: s3 :: s4 :: s5 :: s6 :: s7 :: s8 :: s9 :: s10 :: s11 :: s12 :: s13 :: s14 :: .own (.dict kvs) :: l) y x = .ok (.nx, s0 :: s1 :: s2 :: s3 :: s4 :: s5 :: s6 :: s7 :: s8 :: s9 :: s10 :: s11 :: s12 :: s13 :: s14 :: .own (.dict (dPut kvs q y x)) :: l) := setF_dict (env := s0 :: s1 :: s2 :: s3 :: s4 :: s5 :: s6 :: s7 :: s8 :: s9 :: s10 :: s11 :: s12 :: s13 :: s14 :: .own (.dict kvs) :: l) rfl hk h
theorem setL_15 {s0 s1 s2 s3 s4 s5 s6 s7 s8 s9 s10 s11 s12 s13 s14 : Slot} {x : D} {q : Int} {p : Nat} {l : Fram} (hp : place xs.length q = some p) : setF 15 (s0 :: s1 :: s2 :: s3 :: s4 :: s5 :: s6 :: s7 :: s8 :: s9 :: s10 :: s11 :: s12 :: s13 :: s14 :: .own (.list xs) :: l) (.int q) x = .ok (.nx, s0 :: s1 :: s2 :: s3 :: s4 :: s5 :: s6 :: s7 :: s8 :: s9 :: s10 :: s11 :: s12 :: s13 :: s14 :: .own (.list (xs.set p x)) :: l) := setF_list (env := s0 :: s1 :: s2 :: s3 :: s4 :: s5 :: s6 :: s7 :: s8 :: s9 :: s10 :: s11 :: s12 :: s13 :: s14 :: .own (.list xs) :: l) rfl hp
@[simp] theorem kApp_16 {s0 s1 s2 s3 s4 s5 s6 s7 s8 s9 s10 s11 s12 s13 s14 s15 : Slot} {x : D} {l : Fram} (h : xs.length < 16777216) : kApp 16 (x, s0 :: s1 :: s2 :: s3 :: s4 :: s5 :: s6 :: s7 :: s8 :: s9 :: s10 :: s11 :: s12 :: s13 :: s14 :: s15 :: .own (.list xs) :: l) = .ok (.nx, s0 :: s1 :: s2 :: s3 :: s4 :: s5 :: s6 :: s7 :: s8 :: s9 :: s10 :: s11 :: s12 :: s13 :: s14 :: s15 :: .own (.list (xs ++ [x])) :: l) := kApp_list (e := s0 :: s1 :: s2 :: s3 :: s4 :: s5 :: s6 :: s7 :: s8 :: s9 :: s10 :: s11 :: s12 :: s13 :: s14 :: s15 :: .own (.list xs) :: l) rfl h
@[simp] theorem kExt_16 {s0 s1 s2 s3 s4 s5 s6 s7 s8 s9 s10 s11 s12 s13 s14 s15 : Slot} {l : Fram} (h : xs.length + ys.length ≤ 16777216) : kExt 16 (.list ys, s0 :: s1 :: s2 :: s3 :: s4 :: s5 :: s6 :: s7 :: s8 :: s9 :: s10 :: s11 :: s12 :: s13 :: s14 :: s15 :: .own (.list xs) :: l) = .ok (.nx, s0 :: s1 :: s2 :: s3 :: s4 :: s5 :: s6 :: s7 :: s8 :: s9 :: s10 :: s11 :: s12 :: s13 :: s14 :: s15 :: .own (.list (xs ++ ys)) :: l) := kExt_list (e := s0 :: s1 :: s2 :: s3 :: s4 :: s5 :: s6 :: s7 :: s8 :: s9 :: s10 :: s11 :: s12 :: s13 :: s14 :: s15 :: .own (.list xs) :: l) rfl h
theorem setD_16 {s0 s1 s2 s3 s4 s5 s6 s7 s8 s9 s10 s11 s12 s13 s14 s15 : Slot} {kvs : List (D × D)} {y x : D} {q : NestedKey} {l : Fram} (hk : key? y = some q) (h : kvs.length < LINE) : setF 16 (s0 :: s1 :: s2 :: s3 :: s4 :: s5 :: s6 :: s7 :: s8 :: s9 :: s10 :: s11 :: s12 :: s13 :: s14 :: s15 :: .own (.dict kvs) :: l) y x = .ok (.nx, s0 :: s1 :: s2 :: s3 :: s4 :: s5 :: s6 :: s7 :: s8 :: s9 :: s10 :: s11 :: s12 :: s13 :: s14 :: s15 :: .own (.dict (dPut kvs q y x)) :: l) := setF_dict (env := s0 :: s1 :: s2 :: s3 :: s4 :: s5 :: s6 :: s7 :: s8 :: s9 :: s10 :: s11 :: s12 :: s13 :: s14 :: s15 :: .own (.dict kvs) :: l) rfl hk h
theorem setL_16 {s0 s1 s2 s3 s4 s5 s6 s7 s8 s9 s10 s11 s12 s13 s14 s15 : Slot} {x : D} {q : Int} {p : Nat} {l : Fram} (hp : place xs.length q = some p) : setF 16 (s0 :: s1 :: s2 :: s3 :: s4 :: s5 :: s6 :: s7 :: s8 :: s9 :: s10 :: s11 :: s12 :: s13 :: s14 :: s15 :: .own (.list xs) :: l) (.int q) x = .ok (.nx, s0 :: s1 :: s2 :: s3 :: s4 :: s5 :: s6 :: s7 :: s8 :: s9 :: s10 :: s11 :: s12 :: s13 :: s14 :: s15 :: .own (.list (xs.set p x)) :: l) := setF_list (env := s0 :: s1 :: s2 :: s3 :: s4 :: s5 :: s6 :: s7 :: s8 :: s9 :: s10 :: s11 :: s12 :: s13 :: s14 :: s15 :: .own (.list xs) :: l) rfl hp
@[simp] theorem kApp_17 {s0 s1 s2 s3 s4 s5 s6 s7 s8 s9 s10 s11 s12 s13 s14 s15 s16 : Slot} {x : D} {l : Fram} (h : xs.length < 16777216) : kApp 17 (x, s0 :: s1 :: s2 :: s3 :: s4 :: s5 :: s6 :: s7 :: s8 :: s9 :: s10 :: s11 :: s12 :: s13 :: s14 :: s15 :: s16 :: .own (.list xs) :: l) = .ok (.nx, s0 :: s1 :: s2 :: s3 :: s4 :: s5 :: s6 :: s7 :: s8 :: s9 :: s10 :: s11 :: s12 :: s13 :: s14 :: s15 :: s16 :: .own (.list (xs ++ [x])) :: l) := kApp_list (e := s0 :: s1 :: s2 :: s3 :: s4 :: s5 :: s6 :: s7 :: s8 :: s9 :: s10 :: s11 :: s12 :: s13 :: s14 :: s15 :: s16 :: .own (.list xs) :: l) rfl h
@[simp] theorem kExt_17 {s0 s1 s2 s3 s4 s5 s6 s7 s8 s9 s10 s11 s12 s13 s14 s15 s16 : Slot} {l : Fram} (h : xs.length + ys.length ≤ 16777216) : kExt 17 (.list ys, s0 :: s1 :: s2 :: s3 :: s4 :: s5 :: s6 :: s7 :: s8 :: s9 :: s10 :: s11 :: s12 :: s13 :: s14 :: s15 :: s16 :: .own (.list xs) :: l) = .ok (.nx, s0 :: s1 :: s2 :: s3 :: s4 :: s5 :: s6 :: s7 :: s8 :: s9 :: s10 :: s11 :: s12 :: s13 :: s14 :: s15 :: s16 :: .own (.list (xs ++ ys)) :: l) := kExt_list (e := s0 :: s1 :: s2 :: s3 :: s4 :: s5 :: s6 :: s7 :: s8 :: s9 :: s10 :: s11 :: s12 :: s13 :: s14 :: s15 :: s16 :: .own (.list xs) :: l) rfl h
theorem setD_17 {s0 s1 s2 s3 s4 s5 s6 s7 s8 s9 s10 s11 s12 s13 s14 s15 s16 : Slot} {kvs : List (D × D)} {y x : D} {q : NestedKey} {l : Fram} (hk : key? y = some q) (h : kvs.length < LINE) : setF 17 (s0 :: s1 :: s2 :: s3 :: s4 :: s5 :: s6 :: s7 :: s8 :: s9 :: s10 :: s11 :: s12 :: s13 :: s14 :: s15 :: s16 :: .own (.dict kvs) :: l) y x = .ok (.nx, s0 :: s1 :: s2 :: s3 :: s4 :: s5 :: s6 :: s7 :: s8 :: s9 :: s10 :: s11 :: s12 :: s13 :: s14 :: s15 :: s16 :: .own (.dict (dPut kvs q y x)) :: l) := setF_dict (env := s0 :: s1 :: s2 :: s3 :: s4 :: s5 :: s6 :: s7 :: s8 :: s9 :: s10 :: s11 :: s12 :: s13 :: s14 :: s15 :: s16 :: .own (.dict kvs) :: l) rfl hk h
theorem setL_17 {s0 s1 s2 s3 s4 s5 s6 s7 s8 s9 s10 s11 s12 s13 s14 s15 s16 : Slot} {x : D} {q : Int} {p : Nat} {l : Fram} (hp : place xs.length q = some p) : setF 17 (s0 :: s1 :: s2 :: s3 :: s4 :: s5 :: s6 :: s7 :: s8 :: s9 :: s10 :: s11 :: s12 :: s13 :: s14 :: s15 :: s16 :: .own (.list xs) :: l) (.int q) x = .ok (.nx, s0 :: s1 :: s2 :: s3 :: s4 :: s5 :: s6 :: s7 :: s8 :: s9 :: s10 :: s11 :: s12 :: s13 :: s14 :: s15 :: s16 :: .own (.list (xs.set p x)) :: l) := setF_list (env := s0 :: s1 :: s2 :: s3 :: s4 :: s5 :: s6 :: s7 :: s8 :: s9 :: s10 :: s11 :: s12 :: s13 :: s14 :: s15 :: s16 :: .own (.list xs) :: l) rfl hp
@[simp] theorem kApp_18 {s0 s1 s2 s3 s4 s5 s6 s7 s8 s9 s10 s11 s12 s13 s14 s15 s16 s17 : Slot} {x : D} {l : Fram} (h : xs.length < 16777216) : kApp 18 (x, s0 :: s1 :: s2 :: s3 :: s4 :: s5 :: s6 :: s7 :: s8 :: s9 :: s10 :: s11 :: s12 :: s13 :: s14 :: s15 :: s16 :: s17 :: .own (.list xs) :: l) = .ok (.nx, s0 :: s1 :: s2 :: s3 :: s4 :: s5 :: s6 :: s7 :: s8 :: s9 :: s10 :: s11 :: s12 :: s13 :: s14 :: s15 :: s16 :: s17 :: .own (.list (xs ++ [x])) :: l) := kApp_list (e := s0 :: s1 :: s2 :: s3 :: s4 :: s5 :: s6 :: s7 :: s8 :: s9 :: s10 :: s11 :: s12 :: s13 :: s14 :: s15 :: s16 :: s17 :: .own (.list xs) :: l) rfl h
@[simp] theorem kExt_18 {s0 s1 s2 s3 s4 s5 s6 s7 s8 s9 s10 s11 s12 s13 s14 s15 s16 s17 : Slot} {l : Fram} (h : xs.length + ys.length ≤ 16777216) : kExt 18 (.list ys, s0 :: s1 :: s2 :: s3 :: s4 :: s5 :: s6 :: s7 :: s8 :: s9 :: s10 :: s11 :: s12 :: s13 :: s14 :: s15 :: s16 :: s17 :: .own (.list xs) :: l) = .ok (.nx, s0 :: s1 :: s2 :: s3 :: s4 :: s5 :: s6 :: s7 :: s8 :: s9 :: s10 :: s11 :: s12 :: s13 :: s14 :: s15 :: s16 :: s17 :: .own (.list (xs ++ ys)) :: l) := kExt_list (e := s0 :: s1 :: s2 :: s3 :: s4 :: s5 :: s6 :: s7 :: s8 :: s9 :: s10 :: s11 :: s12 :: s13 :: s14 :: s15 :: s16 :: s17 :: .own (.list xs) :: l) rfl h
theorem setD_18 {s0 s1 s2 s3 s4 s5 s6 s7 s8 s9 s10 s11 s12 s13 s14 s15 s16 s17 : Slot} {kvs : List (D × D)} {y x : D} {q : NestedKey} {l : Fram} (hk : key? y = some q) (h : kvs.length < LINE) : setF 18 (s0 :: s1 :: s2 :: s3 :: s4 :: s5 :: s6 :: s7 :: s8 :: s9 :: s10 :: s11 :: s12 :: s13 :: s14 :: s15 :: s16 :: s17 :: .own (.dict kvs) :: l) y x = .ok (.nx, s0 :: s1 :: s2 :: s3 :: s4 :: s5 :: s6 :: s7 :: s8 :: s9 :: s10 :: s11 :: s12 :: s13 :: s14 :: s15 :: s16 :: s17 :: .own (.dict (dPut kvs q y x)) :: l) := setF_dict (env := s0 :: s1 :: s2 :: s3 :: s4 :: s5 :: s6 :: s7 :: s8 :: s9 :: s10 :: s11 :: s12 :: s13 :: s14 :: s15 :: s16 :: s17 :: .own (.dict kvs) :: l) rfl hk h
theorem setL_18 {s0 s1 s2 s3 s4 s5 s6 s7 s8 s9 s10 s11 s12 s13 s14 s15 s16 s17 : Slot} {x : D} {q : Int} {p : Nat} {l : Fram} (hp : place xs.length q = some p) : setF 18 (s0 :: s1 :: s2 :: s3 :: s4 :: s5 :: s6 :: s7 :: s8 :: s9 :: s10 :: s11 :: s12 :: s13 :: s14 :: s15 :: s16 :: s17 :: .own (.list xs) :: l) (.int q) x = .ok (.nx, s0 :: s1 :: s2 :: s3 :: s4 :: s5 :: s6 :: s7 :: s8 :: s9 :: s10 :: s11 :: s12 :: s13 :: s14 :: s15 :: s16 :: s17 :: .own (.list (xs.set p x)) :: l) := setF_list (env := s0 :: s1 :: s2 :: s3 :: s4 :: s5 :: s6 :: s7 :: s8 :: s9 :: s10 :: s11 :: s12 :: s13 :: s14 :: s15 :: s16 :: s17 :: .own (.list xs) :: l) rfl hp
@[simp] theorem kApp_19 {s0 s1 s2 s3 s4 s5 s6 s7 s8 s9 s10 s11 s12 s13 s14 s15 s16 s17 s18 : Slot} {x : D} {l : Fram} (h : xs.length < 16777216) : kApp 19 (x, s0 :: s1 :: s2 :: s3 :: s4 :: s5 :: s6 :: s7 :: s8 :: s9 :: s10 :: s11 :: s12 :: s13 :: s14 :: s15 :: s16 :: s17 :: s18 :: .own (.list xs) :: l) = .ok (.nx, s0 :: s1 :: s2 :: s3 :: s4 :: s5 :: s6 :: s7 :: s8 :: s9 :: s10 :: s11 :: s12 :: s13 :: s14 :: s15 :: s16 :: s17 :: s18 :: .own (.list (xs ++ [x])) :: l) := kApp_list (e := s0 :: s1 :: s2 :: s3 :: s4 :: s5 :: s6 :: s7 :: s8 :: s9 :: s10 :: s11 :: s12 :: s13 :: s14 :: s15 :: s16 :: s17 :: s18 :: .own (.list xs) :: l) rfl h
@[simp] theorem kExt_19 {s0 s1 s2 s3 s4 s5 s6 s7 s8 s9 s10 s11 s12 s13 s14 s15 s16 s17 s18 : Slot} {l : Fram} (h : xs.length + ys.length ≤ 16777216) : kExt 19 (.list ys, s0 :: s1 :: s2 :: s3 :: s4 :: s5 :: s6 :: s7 :: s8 :: s9 :: s10 :: s11 :: s12 :: s13 :: s14 :: s15 :: s16 :: s17 :: s18 :: .own (.list xs) :: l) = .ok (.nx, s0 :: s1 :: s2 :: s3 :: s4 :: s5 :: s6 :: s7 :: s8 :: s9 :: s10 :: s11 :: s12 :: s13 :: s14 :: s15 :: s16 :: s17 :: s18 :: .own (.list (xs ++ ys)) :: l) := kExt_list (e := s0 :: s1 :: s2 :: s3 :: s4 :: s5 :: s6 :: s7 :: s8 :: s9 :: s10 :: s11 :: s12 :: s13 :: s14 :: s15 :: s16 :: s17 :: s18 :: .own (.list xs) :: l) rfl h
theorem setD_19 {s0 s1 s2 s3 s4 s5 s6 s7 s8 s9 s10 s11 s12 s13 s14 s15 s16 s17 s18 : Slot} {kvs : List (D × D)} {y x : D} {q : NestedKey} {l : Fram} (hk : key? y = some q) (h : kvs.length < LINE) : setF 19 (s0 :: s1 :: s2 :: s3 :: s4 :: s5 :: s6 :: s7 :: s8 :: s9 :: s10 :: s11 :: s12 :: s13 :: s14 :: s15 :: s16 :: s17 :: s18 :: .own (.dict kvs) :: l) y x = .ok (.nx, s0 :: s1 :: s2 :: s3 :: s4 :: s5 :: s6 :: s7 :: s8 :: s9 :: s10 :: s11 :: s12 :: s13 :: s14 :: s15 :: s16 :: s17 :: s18 :: .own (.dict (dPut kvs q y x)) :: l) := setF_dict (env := s0 :: s1 :: s2 :: s3 :: s4 :: s5 :: s6 :: s7 :: s8 :: s9 :: s10 :: s11 :: s12 :: s13 :: s14 :: s15 :: s16 :: s17 :: s18 :: .own (.dict kvs) :: l) rfl hk h
theorem setL_19 {s0 s1 s2 s3 s4 s5 s6 s7 s8 s9 s10 s11 s12 s13 s14 s15 s16 s17 s18 : Slot} {x : D} {q : Int} {p : Nat} {l : Fram} (hp : place xs.length q = some p) : setF 19 (s0 :: s1 :: s2 :: s3 :: s4 :: s5 :: s6 :: s7 :: s8 :: s9 :: s10 :: s11 :: s12 :: s13 :: s14 :: s15 :: s16 :: s17 :: s18 :: .own (.list xs) :: l) (.int q) x = .ok (.nx, s0 :: s1 :: s2 :: s3 :: s4 :: s5 :: s6 :: s7 :: s8 :: s9 :: s10 :: s11 :: s12 :: s13 :: s14 :: s15 :: s16 :: s17 :: s18 :: .own (.list (xs.set p x)) :: l) := setF_list (env := s0 :: s1 :: s2 :: s3 :: s4 :: s5 :: s6 :: s7 :: s8 :: s9 :: s10 :: s11 :: s12 :: s13 :: s14 :: s15 :: s16 :: s17 :: s18 :: .own (.list xs) :: l) rfl hp
@[simp high] theorem idx_last {x : D} : idxF (.list (xs ++ [x])) (.int (-1)) = some x := by
  rw [idx_list]
  unfold at?
  rw [if_neg (by omega), if_pos (by simp; omega), show (-1 + ((xs ++ [x]).length : Int)).toNat = xs.length by simp; omega]
  simp
@[simp high] theorem idx_lastt {x : D} : idxF (.tuple (xs ++ [x])) (.int (-1)) = some x := by
  rw [idx_tuple]
  unfold at?
  rw [if_neg (by omega), if_pos (by simp; omega), show (-1 + ((xs ++ [x]).length : Int)).toNat = xs.length by simp; omega]
  simp
theorem idx_at {k : Nat} {x : D} (h : xs[k]? = some x) : idxF (.list xs) (.int k) = some x ∧ idxF (.tuple xs) (.int k) = some x := by
  rw [idx_list, idx_tuple]
  unfold at?
  rw [if_pos (by omega)]
  simp [h]
end
end PV.M
set_option Elab.async false
set_option linter.all false
set_option maxRecDepth 100000
/-! PM, part B: jars, Euclid, what is shown. -/
namespace PV.M
open PySem PV
/-! ### a jar -/
structure J where
  a : Int
  b : Int
  c : Int
def jd (j : J) : D := .list [.int j.a, .int j.b, .int j.c]
/-- a jar that was drawn from so often at most -/
structure JOk (m : Nat) (j : J) : Prop where
  a0 : 0 ≤ j.a
  b0 : 0 ≤ j.b
  b1 : j.b < 2 ^ 31
  c0 : 0 ≤ j.c
  c1 : j.c ≤ m
theorem JOk.mono {m m' : Nat} {j : J} (h : JOk m j) (le : m ≤ m') : JOk m' j := ⟨h.a0, h.b0, h.b1, h.c0, by have := h.c1; omega⟩
/-- what a def that draws hands out -/
def Dr (m : Nat) (P : D → Prop) (r : Res (D × D)) : Prop := ∃ d j, r = .ok (d, jd j) ∧ JOk m j ∧ P d
theorem Dr.mono {m m' : Nat} {P P' : D → Prop} {r : Res (D × D)} (h : Dr m P r) (le : m ≤ m') (hp : ∀ d, P d → P' d) : Dr m' P' r := by
  obtain ⟨d, j, e, ok, p⟩ := h
  exact ⟨d, j, e, ok.mono le, hp d p⟩
/-- an int from 0 on, below -/
def Below (k : Int) (d : D) : Prop := ∃ r : Int, d = .int r ∧ 0 ≤ r ∧ r < k
/-! ### Euclid -/
theorem euclid {test : Fram → Res (D × Fram)} {body : Fram → Res (Flw × Fram)} (fr : Int → Int → Fram) (ht : ∀ a b : Int, test (fr a b) = .ok (.bool (decide (0 < b)), fr a b)) (hb : ∀ a b : Int, 0 < b → body (fr a b) = .ok (.nx, fr b (a % b))) :
    ∀ (b a k : Nat), b < k → whileLoop test body k (fr a b) = .ok (.nx, fr ((Nat.gcd a b : Nat) : Int) 0) := by
  intro b
  induction b using Nat.strongRecOn with
  | ind b ih =>
    intro a k hk
    obtain ⟨k, rfl⟩ : ∃ n, k = n + 1 := ⟨k - 1, by omega⟩
    rcases Nat.eq_zero_or_pos b with rfl | hp
    · rw [whileLoop_done (e := fr a 0) (by rw [show ((0 : Nat) : Int) = 0 from rfl, ht]; rfl), Nat.gcd_zero_right]
    · have h1 : (0 : Int) < (b : Int) := by omega
      rw [whileLoop_turn (e := fr a b) (e' := fr b ((a % b : Nat) : Int)) (by rw [ht]; simp [h1]; omega) (by rw [hb _ _ h1]; simp)]
      have h2 := Nat.mod_lt a hp
      rw [ih (a % b) h2 b k (by omega), Nat.gcd_comm b, ← Nat.gcd_rec, Nat.gcd_comm]
/-! ### ranges -/
theorem rangeD_zero {j : Int} : rangeD 0 j = (List.range j.toNat).map fun (k : Nat) => PyData.int k := by
  unfold rangeD
  simp
theorem mem_rangeD {i j : Int} {x : D} (h : x ∈ rangeD i j) : ∃ k : Int, x = .int k ∧ i ≤ k ∧ k < j := by
  unfold rangeD at h
  obtain ⟨k, hk, rfl⟩ := List.mem_map.mp h
  have := List.mem_range.mp hk
  exact ⟨_, rfl, by omega, by omega⟩
theorem len_rangeD {i j : Int} : (rangeD i j).length = (j - i).toNat := by simp [rangeD]
theorem rangeD_nil {i j : Int} (h : j ≤ i) : rangeD i j = [] := by
  unfold rangeD
  rw [show (j - i).toNat = 0 by omega]
  rfl
theorem rangeD_cons {i j : Int} (h : i < j) : rangeD i j = .int i :: rangeD (i + 1) j := by
  unfold rangeD
  rw [show (j - i).toNat = (j - (i + 1)).toNat + 1 by omega, List.range_succ_eq_map, List.map_cons, List.map_map]
  congr 1
  · simp
  · apply List.map_congr_left
    intro k _
    show PyData.int (i + ((k + 1 : Nat) : Int)) = PyData.int (i + 1 + (k : Int))
    congr 1
    omega
/-! ### what is shown -/
mutual
/-- no text, no dict, ints that are not too long -/
def plain : D → Bool
  | .int i => decide (i.natAbs.log2 < 1920)
  | .none => true
  | .bool _ => true
  | .str _ => false
  | .dict _ => false
  | .list xs => plains xs
  | .tuple xs => plains xs
def plains : List D → Bool
  | [] => true
  | x :: xs => plain x && plains xs
end
mutual
theorem plain_show : ∀ d : D, plain d = true → PyData.showable d = true ∧ PyData.hasDict d = false ∧ noDict d = true ∧ PyData.leavesShort 1921 d = true
  | .int i, h => by
    have h1 : i.natAbs.log2 < 1920 := by simpa [plain] using h
    refine ⟨by simp [PyData.showable, h1], by simp [PyData.hasDict], by simp [noDict], ?_⟩
    have := PyProof.Rows.int_text_len_1921 h1
    simp only [PyData.leavesShort, decide_eq_true_eq]
    exact this
  | .none, h => ⟨by simp [PyData.showable], by simp [PyData.hasDict], by simp [noDict], rfl⟩
  | .bool _, h => ⟨by simp [PyData.showable], by simp [PyData.hasDict], by simp [noDict], rfl⟩
  | .str _, h => by simp [plain] at h
  | .dict _, h => by simp [plain] at h
  | .list xs, h => by
    obtain ⟨a, b, c, d⟩ := plains_show xs (by simpa [plain] using h)
    exact ⟨by simpa [PyData.showable] using a, by simpa [PyData.hasDict] using b, by simpa [noDict] using c, by simpa [PyData.leavesShort] using d⟩
  | .tuple xs, h => by
    obtain ⟨a, b, c, d⟩ := plains_show xs (by simpa [plain] using h)
    exact ⟨by simpa [PyData.showable] using a, by simpa [PyData.hasDict] using b, by simpa [noDict] using c, by simpa [PyData.leavesShort] using d⟩
theorem plains_show : ∀ xs : List D, plains xs = true → PyData.showableAll xs = true ∧ PyData.hasDictAll xs = false ∧ noDict.noDicts xs = true ∧ PyData.leavesShortAll 1921 xs = true
  | [], _ => ⟨rfl, rfl, rfl, rfl⟩
  | x :: xs, h => by
    simp only [plains, Bool.and_eq_true] at h
    obtain ⟨a, b, c, d⟩ := plain_show x h.1
    obtain ⟨a', b', c', d'⟩ := plains_show xs h.2
    exact ⟨by simp [PyData.showableAll, a, a'], by simp [PyData.hasDictAll, b, b'], by simp [noDict.noDicts, c, c'], by simp [PyData.leavesShortAll, d, d']⟩
end
theorem lt_of_join {sep : Str} (hs : ∀ c ∈ sep.cps.toList, c < 0x110000) {ts : List Str} (h : ∀ t ∈ ts, ∀ c ∈ t.cps.toList, c < 0x110000) : ∀ c ∈ (Str.join sep ts).cps.toList, c < 0x110000 := by
  intro c hc
  rcases (PyProof.Rows.mem_join sep c ts).mp hc with ⟨t, ht, h2⟩ | ⟨_, h2⟩
  · exact h t ht c h2
  · exact hs c h2
theorem small_ofString {s : String} (h : ((Str.ofString s).cps.toList.all fun c => decide (c < 0x110000)) = true) : ∀ c ∈ (Str.ofString s).cps.toList, c < 0x110000 := by
  intro c hc
  simpa using List.all_eq_true.mp h c hc
mutual
theorem plain_cps : ∀ d : D, plain d = true → ∀ c ∈ (PyData.shown d).cps.toList, c < 0x110000
  | .int i, h, c, hc => by
    rcases Nat.lt_or_ge c 0x110000 with q | q
    · exact q
    · exact absurd hc (PyProof.Rows.shown_int_free' (by omega) i)
  | .none, h, c, hc => by
    have e : (PyData.shown .none) = Str.ofString "None" := by rw [PyData.shown_none]
    rw [e] at hc
    exact small_ofString (by decide) c hc
  | .bool b, h, c, hc => by
    rw [PyData.shown_bool] at hc
    cases b
    · exact small_ofString (s := "False") (by decide) c hc
    · exact small_ofString (s := "True") (by decide) c hc
  | .str _, h, _, _ => by simp [plain] at h
  | .dict _, h, _, _ => by simp [plain] at h
  | .list xs, h, c, hc => by
    rw [PyData.shown_list, PyProof.Rows.mem_cps_append, PyProof.Rows.mem_cps_append, PyProof.Rows.signs_lbrack, PyProof.Rows.signs_rbrack] at hc
    have ih := plains_cps xs (by simpa [plain] using h)
    rcases hc with (hc | hc) | hc
    · have : c = 91 := by simpa using hc
      omega
    · exact lt_of_join (by rw [PyProof.Rows.signs_sep]; decide) ih c hc
    · have : c = 93 := by simpa using hc
      omega
  | .tuple xs, h, c, hc => by
    rw [PyData.shown_tuple, PyProof.Rows.mem_cps_append, PyProof.Rows.mem_cps_append, PyProof.Rows.signs_lparen] at hc
    have ih := plains_cps xs (by simpa [plain] using h)
    rcases hc with (hc | hc) | hc
    · have : c = 40 := by simpa using hc
      omega
    · exact lt_of_join (by rw [PyProof.Rows.signs_sep]; decide) ih c hc
    · split at hc
      · exact small_ofString (s := ",)") (by decide) c hc
      · exact small_ofString (s := ")") (by decide) c hc
theorem plains_cps : ∀ xs : List D, plains xs = true → ∀ t ∈ PyData.shownAll xs, ∀ c ∈ t.cps.toList, c < 0x110000
  | [], _, t, ht => by
    rw [PyData.shownAll_nil] at ht
    exact absurd ht (by simp)
  | x :: xs, h, t, ht => by
    simp only [plains, Bool.and_eq_true] at h
    rw [PyData.shownAll_cons, List.mem_cons] at ht
    rcases ht with rfl | ht
    · exact plain_cps x h.1
    · exact plains_cps xs h.2 t ht
end
theorem strOk_of {x : Str} (h : ∀ c ∈ x.cps.toList, c < 0x110000) : PyData.strOk x = true := by
  unfold PyData.strOk
  rw [Array.all_eq_true_iff_forall_mem]
  intro c hc
  simpa using h c (Array.mem_toList_iff.mpr hc)
/-- data of which the text may be made and compared -/
structure Sh (d : D) : Prop where
  one : bltF .repr [d] = some (.str d.shown)
  ok : PyData.strOk d.shown = true
theorem sh_plain {d : D} (h : plain d = true) (hd : PyData.depth d ≤ 64) (hw : PyData.weight d ≤ 8000) : Sh d := by
  obtain ⟨a, b, c, e⟩ := plain_show d h
  have l := PyData.shown_le 1921 (by decide) d e
  have hl : d.shown.length ≤ LINE := by
    have : (1921 + 2) * d.weight ≤ 1923 * 8000 := Nat.mul_le_mul (by omega) hw
    show _ ≤ 16777216
    omega
  refine ⟨?_, strOk_of (plain_cps d h)⟩
  show (if d.showable && !d.hasDict && decide (d.shown.length ≤ LINE) && decide (PyData.depth d ≤ 64) && noDict d then some (PyData.str d.shown) else none) = _
  rw [a, b, c, decide_eq_true hl, decide_eq_true hd]
  rfl
theorem cmp_shown {d : D} (h : Sh d) : cmpF .eq (.str d.shown) (.str d.shown) = some true := by
  rw [eq_str h.ok h.ok]
  simp
end PV.M
set_option Elab.async false
set_option linter.all false
set_option maxRecDepth 100000
set_option maxHeartbeats 400000
/-! PM, part C: slices, rows of ints, keys, order. -/
namespace PV.M
open PySem PV
section
variable {xs ys : List D} {i j : Nat}
/-! ### slices -/
theorem bound_nat {n d : Nat} : bound n d (some (i : Int)) = min i n := HT.sIx_nat n d i
@[simp] theorem cut_from : cut xs (some (i : Int)) none = xs.drop i := by
  unfold cut
  rw [bound_nat, show bound xs.length xs.length none = xs.length from rfl]
  rw [List.take_of_length_le (by simp)]
  rcases Nat.le_total i xs.length with h | h
  · rw [Nat.min_eq_left h]
  · rw [Nat.min_eq_right h, List.drop_of_length_le h, List.drop_of_length_le (Nat.le_refl _)]
@[simp] theorem cut_to : cut xs none (some (i : Int)) = xs.take i := by
  unfold cut
  rw [bound_nat, show bound xs.length 0 none = 0 from rfl, List.drop_zero, Nat.sub_zero]
  rcases Nat.le_total i xs.length with h | h
  · rw [Nat.min_eq_left h]
  · rw [Nat.min_eq_right h, List.take_of_length_le h, List.take_of_length_le (Nat.le_refl _)]
@[simp] theorem cut_one : cut xs (some 1) none = xs.drop 1 := cut_from (i := 1)
theorem cut_froms {k : Int} (h : 0 ≤ k) : cut xs (some k) none = xs.drop k.toNat := by
  obtain ⟨n, rfl⟩ := Int.eq_ofNat_of_zero_le h
  exact cut_from
theorem cut_tos {k : Int} (h : 0 ≤ k) : cut xs none (some k) = xs.take k.toNat := by
  obtain ⟨n, rfl⟩ := Int.eq_ofNat_of_zero_le h
  exact cut_to
/-! ### all, any, sum -/
theorem bools_map {A : Type} {f : A → Bool} : ∀ l : List A, bools? (l.map fun x => PyData.bool (f x)) = some (l.map f)
  | [] => rfl
  | x :: l => by
    rw [List.map_cons]
    show (bools? _).map _ = _
    rw [bools_map l]
    rfl
/-- all of a list, left alone by simp -/
def allB {A : Type} (f : A → Bool) (l : List A) : Bool := l.all f
def anyB {A : Type} (f : A → Bool) (l : List A) : Bool := l.any f
theorem allB_true {A : Type} {f : A → Bool} {l : List A} : allB f l = true ↔ ∀ x ∈ l, f x = true := by simp [allB]
theorem allB_nil {A : Type} {f : A → Bool} : allB f [] = true := rfl
theorem allB_cons {A : Type} {f : A → Bool} {x : A} {l : List A} : allB f (x :: l) = (f x && allB f l) := by simp [allB]
theorem anyB_true {A : Type} {f : A → Bool} {l : List A} : anyB f l = true ↔ ∃ x ∈ l, f x = true := by simp [anyB]
@[simp] theorem blt_all_map {A : Type} {f : A → Bool} {l : List A} : bltF .all [.list (l.map fun x => PyData.bool (f x))] = some (.bool (allB f l)) := by
  show (bools? _).map _ = _
  rw [bools_map]
  simp [List.all_map, allB]
@[simp] theorem blt_any_map {A : Type} {f : A → Bool} {l : List A} : bltF .any [.list (l.map fun x => PyData.bool (f x))] = some (.bool (anyB f l)) := by
  show (bools? _).map _ = _
  rw [bools_map]
  simp [List.any_map, anyB]
theorem ints_map : ∀ l : List Int, ints? (l.map .int) = some l
  | [] => rfl
  | x :: l => by
    rw [List.map_cons]
    show (ints? _).map _ = _
    rw [ints_map l]
    rfl
@[simp] theorem blt_sum_tuple {l : List Int} : bltF .sum [.tuple (l.map .int)] = some (.int l.sum) := by
  show (ints? _).map _ = _
  rw [ints_map]
  rfl
@[simp] theorem blt_sum_list {l : List Int} : bltF .sum [.list (l.map .int)] = some (.int l.sum) := by
  show (ints? _).map _ = _
  rw [ints_map]
  rfl
/-- data that are all ints -/
theorem ints_of {p : D → Bool} (hp : ∀ d, p d = true → ∃ i, d = .int i) : ∀ {l : List D}, allB p l = true → ∃ ns : List Int, l = ns.map .int
  | [], _ => ⟨[], rfl⟩
  | x :: l, h => by
    simp only [allB_cons, Bool.and_eq_true] at h
    obtain ⟨i, rfl⟩ := hp x h.1
    obtain ⟨ns, rfl⟩ := ints_of hp h.2
    exact ⟨i :: ns, rfl⟩
/-! ### zip -/
theorem zipD_eq : ∀ (as bs : List D), zipD as bs = (as.zip bs).map fun p => .tuple [p.1, p.2]
  | [], bs => by simp [zipD]
  | x :: xs, [] => by simp [zipD]
  | x :: xs, y :: ys => by simp [zipD, zipD_eq xs ys]
theorem enumD_eq : ∀ (as : List D) (k : Nat), enumD k as = (as.zipIdx k).map fun p => .tuple [.int p.2, p.1]
  | [], k => by simp [enumD]
  | x :: xs, k => by simp [enumD, enumD_eq xs (k + 1)]
theorem zip_mem {A B : Type} {as : List A} {bs : List B} {p : A × B} (h : p ∈ as.zip bs) : p.1 ∈ as ∧ p.2 ∈ bs := ⟨(List.of_mem_zip h).1, (List.of_mem_zip h).2⟩
theorem cRun_zip {Ph : CallF} {env : Fram} {elt : Exp} {tg : Tg} {cs : Exs} {own : List Nat} {as bs : List D} (g : D → D → D) (h : (own.all fun v => !isOwn env v) = true) (hl : as.length ≤ LINE)
    (ht : ∀ x ∈ as, ∀ y ∈ bs, cTurn Ph elt tg cs own (.tuple [x, y]) (wipeF env own) = .ok (some (g x y), wipeF env own)) (hr : restore (wipeF env own) env own = env) : cRun Ph elt tg cs own (zipD as bs) env = .ok (.list ((as.zip bs).map fun p => g p.1 p.2), env) := by
  rw [cRun_map1 (fun d => match d with
    | .tuple [x, y] => g x y
    | _ => .none) h (by rw [zipD_eq, List.length_map, List.length_zip]; omega) (fun x hx => ?_) hr]
  · rw [zipD_eq, List.map_map]
    rfl
  · rw [zipD_eq] at hx
    obtain ⟨p, hp, rfl⟩ := List.mem_map.mp hx
    exact ht p.1 (zip_mem hp).1 p.2 (zip_mem hp).2
theorem allB_map {A B : Type} {f : B → Bool} {g : A → B} {l : List A} : allB f (l.map g) = allB (fun x => f (g x)) l := by
  simp [allB, List.all_map]
  rfl
theorem allB_congr {A : Type} {f g : A → Bool} {l : List A} (h : ∀ x ∈ l, f x = g x) : allB f l = allB g l := by
  unfold allB
  induction l with
  | nil => rfl
  | cons x l ih => rw [List.all_cons, List.all_cons, h x (List.mem_cons_self ..), ih fun y hy => h y (List.mem_cons_of_mem _ hy)]
/-! ### order -/
theorem alikes_ints : ∀ (ms ns : List Int), PySem.W.alikeAll (ms.map .int) (ns.map .int) = true
  | [], ns => by cases ns <;> rfl
  | m :: ms, [] => rfl
  | m :: ms, n :: ns => by
    rw [List.map_cons, List.map_cons, PySem.W.alikeAll, alikes_ints ms ns]
    rfl
theorem depths_ints : ∀ ns : List Int, PyData.depthAll (ns.map .int) ≤ 1
  | [] => by simp [PyData.depthAll]
  | n :: ns => by
    have := depths_ints ns
    simp [PyData.depthAll, PyData.depth]
    omega
theorem noDicts_ints : ∀ ns : List Int, noDict.noDicts (ns.map .int) = true
  | [] => rfl
  | n :: ns => by
    rw [List.map_cons, noDict.noDicts, noDicts_ints ns]
    rfl
/-- a key: a number ahead of a row of numbers -/
def keyI (s : Int) (ns : List Int) : D := .tuple [.int s, .tuple (ns.map .int)]
theorem key_depth (s : Int) (ns : List Int) : PyData.depth (keyI s ns) ≤ 64 := by
  have := depths_ints ns
  simp [keyI, PyData.depth, PyData.depthAll]
  omega
theorem key_noDict (s : Int) (ns : List Int) : noDict (keyI s ns) = true := by
  simp [keyI, noDict, noDict.noDicts, noDicts_ints]
theorem key_alike (s t : Int) (ns ms : List Int) : PySem.W.alike (keyI s ns) (keyI t ms) = true := by
  simp [keyI, PySem.W.alike, PySem.W.alikeAll, alikes_ints]
theorem gt_key (s t : Int) (ns ms : List Int) : cmpF .gt (keyI s ns) (keyI t ms) = some (PySem.W.dataLt (keyI t ms) (keyI s ns)) := by
  show ordF (keyI s ns) (keyI t ms) _ = _
  unfold ordF
  rw [key_alike, decide_eq_true (key_depth s ns), key_noDict, key_noDict]
  rfl
end
end PV.M
set_option Elab.async false
set_option linter.all false
set_option maxRecDepth 100000
set_option maxHeartbeats 400000
/-! PM, part D: fractions in lowest terms are rational numbers; how great they get. -/
namespace PV.M
open PySem PV
/-- a rational number's datum -/
def fr (q : Rat) : D := .tuple [.int q.num, .int (q.den : Int)]
/-! ### lowest terms -/
theorem frac_parts {t b : Int} (hb : b ≠ 0) {g : Int} (hg : g = if 0 < b then ((Nat.gcd t.natAbs b.natAbs : Nat) : Int) else -((Nat.gcd t.natAbs b.natAbs : Nat) : Int)) :
    g ≠ 0 ∧ g.natAbs ≤ b.natAbs ∧ t.fdiv g = (Rat.divInt t b).num ∧ b.fdiv g = ((Rat.divInt t b).den : Int) := by
  have g0 : 0 < Nat.gcd t.natAbs b.natAbs := Nat.gcd_pos_of_pos_right _ (by omega)
  have gle : Nat.gcd t.natAbs b.natAbs ≤ b.natAbs := Nat.le_of_dvd (by omega) (Nat.gcd_dvd_right _ _)
  have d1 : ((Nat.gcd t.natAbs b.natAbs : Nat) : Int) ∣ t := Int.ofNat_dvd_left.mpr (Nat.gcd_dvd_left _ _)
  have d2 : ((Nat.gcd t.natAbs b.natAbs : Nat) : Int) ∣ b := Int.ofNat_dvd_left.mpr (Nat.gcd_dvd_right _ _)
  have eg : b.gcd t = Nat.gcd t.natAbs b.natAbs := by
    unfold Int.gcd
    exact Nat.gcd_comm _ _
  rw [Rat.num_divInt, Rat.den_divInt, if_neg hb, eg]
  generalize Nat.gcd t.natAbs b.natAbs = c at *
  obtain ⟨t', rfl⟩ := d1
  obtain ⟨b', rfl⟩ := d2
  have c0 : (c : Int) ≠ 0 := by omega
  rcases Int.lt_trichotomy 0 ((c : Int) * b') with h | h | h
  · rw [if_pos h] at hg
    subst hg
    refine ⟨c0, by omega, ?_, ?_⟩
    · rw [Int.mul_fdiv_cancel_left _ c0, Int.sign_eq_one_of_pos h, Int.one_mul, Int.mul_ediv_cancel_left _ c0]
    · rw [Int.mul_fdiv_cancel_left _ c0, Int.natAbs_mul]
      simp only [Int.natAbs_natCast]
      rw [Nat.mul_div_cancel_left _ g0]
      have : 0 < b' := by
        have := Int.pos_of_mul_pos_right (a := (c : Int)) (b := b') h (by omega)
        exact this
      omega
  · exact absurd h.symm hb
  · rw [if_neg (by omega)] at hg
    subst hg
    have e : ∀ x : Int, ((c : Int) * x).fdiv (-(c : Int)) = -x := fun x => by
      rw [show (c : Int) * x = (-(c : Int)) * (-x) by rw [Int.neg_mul_neg]]
      exact Int.mul_fdiv_cancel_left _ (by omega)
    refine ⟨by omega, by omega, ?_, ?_⟩
    · rw [e, Int.sign_eq_neg_one_of_neg h]
      rw [show -1 * ((c : Int) * t') = (c : Int) * (-t') by rw [Int.mul_neg]; omega]
      rw [Int.mul_ediv_cancel_left _ c0]
    · rw [e, Int.natAbs_mul]
      simp only [Int.natAbs_natCast]
      rw [Nat.mul_div_cancel_left _ g0]
      have : b' < 0 := by
        rcases Int.lt_or_le b' 0 with h' | h'
        · exact h'
        · have := Int.mul_nonneg (a := (c : Int)) (by omega) h'
          omega
      omega
theorem add_divInt (p q : Rat) : Rat.divInt (p.num * q.den + q.num * p.den) (p.den * q.den) = p + q := by
  rw [Rat.add_def', ← Rat.divInt_ofNat, Int.natCast_mul]
theorem mul_divInt (p q : Rat) : Rat.divInt (p.num * q.num) (p.den * q.den) = p * q := by
  rw [Rat.mul_def', ← Rat.divInt_ofNat, Int.natCast_mul]
theorem den_ne (q : Rat) : (q.den : Int) ≠ 0 := by
  have := q.den_nz
  omega
/-! ### what is not too great -/
structure Sm (q : Rat) : Prop where
  n : q.num.natAbs < 2 ^ 1800
  d : q.den < 2 ^ 1800
theorem mul_big {i j : Int} (h1 : i.natAbs < 2 ^ 9000) (h2 : j.natAbs < 2 ^ 9000) : binF .mul (.int i) (.int j) = some (.int (i * j)) := by
  have a := log2_lt h1 (by omega)
  have b := log2_lt h2 (by omega)
  show (if i.natAbs.log2 + j.natAbs.log2 < 1000000 then _ else _) = _
  rw [if_pos (by omega)]
theorem fdiv_big {i j : Int} (h : j ≠ 0) (h2 : j.natAbs < 2 ^ 9000) : binF .fdiv (.int i) (.int j) = some (.int (i.fdiv j)) := by
  have a := log2_lt h2 (by omega)
  show (if j ≠ 0 ∧ j.natAbs.log2 < 9000 then some (PyData.int (i.fdiv j)) else none) = _
  rw [if_pos ⟨h, a⟩]
theorem lt_pow {a k l : Nat} (h : a < 2 ^ k) (hl : k ≤ l) : a < 2 ^ l := Nat.lt_of_lt_of_le h (Nat.pow_le_pow_right (by omega) hl)
theorem prod_lt {i j : Int} {k l m : Nat} (h1 : i.natAbs < 2 ^ k) (h2 : j.natAbs < 2 ^ l) (hm : k + l ≤ m) : (i * j).natAbs < 2 ^ m := by
  rw [Int.natAbs_mul]
  refine Nat.lt_of_lt_of_le (Nat.mul_lt_mul_of_lt_of_le h1 (Nat.le_of_lt h2) (Nat.two_pow_pos l)) ?_
  rw [← Nat.pow_add]
  exact Nat.pow_le_pow_right (by omega) hm
theorem Sm.n' {q : Rat} (h : Sm q) : q.num.natAbs < 2 ^ 9000 := lt_pow h.n (by omega)
theorem Sm.d1 {q : Rat} (h : Sm q) : (q.den : Int).natAbs < 2 ^ 1800 := h.d
theorem Sm.d' {q : Rat} (h : Sm q) : (q.den : Int).natAbs < 2 ^ 9000 := lt_pow h.d1 (by omega)
theorem Sm.dd {p q : Rat} (h : Sm p) (h' : Sm q) : ((p.den : Int) * q.den).natAbs < 2 ^ 3600 := prod_lt h.d1 h'.d1 (by omega)
theorem dd_ne (p q : Rat) : (p.den : Int) * q.den ≠ 0 := Int.mul_ne_zero (den_ne p) (den_ne q)
/-- Euclid's rule, the turns by the figures of the second number -/
theorem euclid2 {test : Fram → Res (D × Fram)} {body : Fram → Res (Flw × Fram)} (f : Int → Int → Fram) (ht : ∀ a b : Int, test (f a b) = .ok (.bool (decide (0 < b)), f a b)) (hb : ∀ a b : Int, 0 < b → body (f a b) = .ok (.nx, f b (a % b))) :
    ∀ (k b a w : Nat), b < 2 ^ k → 2 * k + 1 ≤ w → whileLoop test body w (f a b) = .ok (.nx, f ((Nat.gcd a b : Nat) : Int) 0) := by
  have done : ∀ (a w : Nat), 1 ≤ w → whileLoop test body w (f a ((0 : Nat) : Int)) = .ok (.nx, f ((Nat.gcd a 0 : Nat) : Int) 0) := fun a w hw => by
    obtain ⟨w, rfl⟩ : ∃ n, w = n + 1 := ⟨w - 1, by omega⟩
    rw [whileLoop_done (e := f a 0) (by rw [show ((0 : Nat) : Int) = 0 from rfl, ht]; rfl), Nat.gcd_zero_right]
  have turn : ∀ (a b w : Nat), 0 < b → 1 ≤ w → whileLoop test body w (f a b) = whileLoop test body (w - 1) (f b ((a % b : Nat) : Int)) := fun a b w hp hw => by
    obtain ⟨w, rfl⟩ : ∃ n, w = n + 1 := ⟨w - 1, by omega⟩
    have h1 : (0 : Int) < (b : Int) := by omega
    rw [whileLoop_turn (e := f a b) (e' := f b ((a % b : Nat) : Int)) (by rw [ht]; simp [h1]; omega) (by rw [hb _ _ h1]; simp)]
    rfl
  intro k
  induction k with
  | zero =>
    intro b a w h hw
    have : b = 0 := by simpa using h
    subst this
    exact done a w (by omega)
  | succ k ih =>
    intro b a w h hw
    rcases Nat.eq_zero_or_pos b with rfl | hp
    · exact done a w (by omega)
    rw [turn a b w hp (by omega)]
    have e1 : Nat.gcd a b = Nat.gcd b (a % b) := by rw [Nat.gcd_comm a b, Nat.gcd_rec b a, Nat.gcd_comm]
    rw [e1]
    rcases Nat.eq_zero_or_pos (a % b) with h0 | h0
    · rw [h0]
      exact done b _ (by omega)
    · rw [turn b (a % b) _ h0 (by omega)]
      have e2 : Nat.gcd b (a % b) = Nat.gcd (a % b) (b % (a % b)) := by rw [Nat.gcd_comm b (a % b), Nat.gcd_rec (a % b) b, Nat.gcd_comm]
      rw [e2]
      have l1 := Nat.mod_lt a hp
      have l2 := Nat.mod_lt b h0
      refine ih (b % (a % b)) (a % b) _ ?_ (by omega)
      rw [Nat.pow_succ] at h
      have hd := Nat.div_add_mod b (a % b)
      have hq : 1 ≤ b / (a % b) := (Nat.one_le_div_iff h0).mpr (by omega)
      have hm : a % b ≤ a % b * (b / (a % b)) := Nat.le_mul_of_pos_right _ hq
      omega
/-! ### how great -/
/-- a number that is a sum of so many, each of so many factors -/
def BS (t m : Nat) (q : Rat) : Prop := ∃ a : Int, q * ((27720 ^ t : Nat) : Rat) = (a : Rat) ∧ a.natAbs ≤ m * 27720000 ^ t
theorem BS.add {t m n : Nat} {p q : Rat} (h : BS t m p) (h' : BS t n q) : BS t (m + n) (p + q) := by
  obtain ⟨a, e1, l1⟩ := h
  obtain ⟨b, e2, l2⟩ := h'
  refine ⟨a + b, by rw [Rat.intCast_add]; grind, ?_⟩
  have := Int.natAbs_add_le a b
  rw [Nat.add_mul]
  omega
theorem BS.mul {s t m n : Nat} {p q : Rat} (h : BS s m p) (h' : BS t n q) : BS (s + t) (m * n) (p * q) := by
  obtain ⟨a, e1, l1⟩ := h
  obtain ⟨b, e2, l2⟩ := h'
  refine ⟨a * b, ?_, ?_⟩
  · rw [Rat.intCast_mul, Nat.pow_add, Rat.natCast_mul, ← e1, ← e2]
    grind
  · rw [Int.natAbs_mul, Nat.pow_add]
    calc a.natAbs * b.natAbs ≤ (m * 27720000 ^ s) * (n * 27720000 ^ t) := Nat.mul_le_mul l1 l2
      _ = m * n * (27720000 ^ s * 27720000 ^ t) := by simp only [Nat.mul_assoc, Nat.mul_left_comm, Nat.mul_comm]
theorem BS.more {t m n : Nat} {q : Rat} (h : BS t m q) (le : m ≤ n) : BS t n q := by
  obtain ⟨a, e1, l1⟩ := h
  exact ⟨a, e1, Nat.le_trans l1 (Nat.mul_le_mul_right _ le)⟩
theorem BS.up {t m : Nat} {q : Rat} (h : BS t m q) (le : m ≤ 1000) : BS (t + 1) 1 q := by
  obtain ⟨a, e1, l1⟩ := h
  refine ⟨a * 27720, ?_, ?_⟩
  · rw [Rat.intCast_mul, Nat.pow_succ, Rat.natCast_mul, ← e1]
    show _ = _ * (27720 : Rat)
    show q * (((27720 ^ t : Nat) : Rat) * (27720 : Rat)) = _
    grind
  · rw [Int.natAbs_mul, Nat.pow_succ, Nat.one_mul]
    show a.natAbs * 27720 ≤ 27720000 ^ t * (1000 * 27720)
    calc a.natAbs * 27720 ≤ (m * 27720000 ^ t) * 27720 := Nat.mul_le_mul_right _ l1
      _ ≤ (1000 * 27720000 ^ t) * 27720 := Nat.mul_le_mul_right _ (Nat.mul_le_mul_right _ le)
      _ = 27720000 ^ t * (1000 * 27720) := by simp only [Nat.mul_assoc, Nat.mul_left_comm, Nat.mul_comm]
theorem BS.to {t : Nat} {q : Rat} (h : BS t 1 q) : ∀ {u : Nat}, t ≤ u → BS u 1 q
  | 0, le => by
    have : t = 0 := by omega
    subst this
    exact h
  | u + 1, le => by
    rcases Nat.lt_or_ge u t with h1 | h1
    · have : t = u + 1 := by omega
      subst this
      exact h
    · exact (h.to h1).up (by omega)
theorem BS.zero {t m : Nat} : BS t m 0 := ⟨0, by simp, by simp⟩
theorem BS.one {t m : Nat} (h : 1 ≤ m) : BS t m 1 := by
  refine ⟨(27720 ^ t : Nat), by rw [Rat.one_mul]; rfl, ?_⟩
  rw [Int.natAbs_natCast]
  calc 27720 ^ t ≤ 27720000 ^ t := Nat.pow_le_pow_left (by omega) t
    _ = 1 * 27720000 ^ t := (Nat.one_mul _).symm
    _ ≤ m * 27720000 ^ t := Nat.mul_le_mul_right _ h
theorem BS.neg {t m : Nat} {q : Rat} (h : BS t m q) : BS t m (-q) := by
  obtain ⟨a, e1, l1⟩ := h
  exact ⟨-a, by rw [Rat.intCast_neg]; grind, by rw [Int.natAbs_neg]; exact l1⟩
/-- a fraction of small numbers -/
theorem BS.small {a b : Int} (ha : a.natAbs ≤ 1000) (b0 : 0 < b) (b1 : b ≤ 12) : BS 1 1 (Rat.divInt a b) := by
  have hd : b ∣ 27720 := by
    have : b = 1 ∨ b = 2 ∨ b = 3 ∨ b = 4 ∨ b = 5 ∨ b = 6 ∨ b = 7 ∨ b = 8 ∨ b = 9 ∨ b = 10 ∨ b = 11 ∨ b = 12 := by omega
    rcases this with rfl | rfl | rfl | rfl | rfl | rfl | rfl | rfl | rfl | rfl | rfl | rfl <;> decide
  obtain ⟨c, hc⟩ := hd
  have c0 : 0 < c := by
    rcases Int.lt_or_le 0 c with h | h
    · exact h
    · have := Int.mul_nonpos_of_nonneg_of_nonpos (a := b) (by omega) h
      omega
  have c1 : c ≤ 27720 := by
    have : 1 * c ≤ b * c := Int.mul_le_mul_of_nonneg_right (by omega) (by omega)
    omega
  refine ⟨a * c, ?_, ?_⟩
  · rw [Rat.divInt_eq_div, Rat.intCast_mul]
    have hb : (b : Rat) ≠ 0 := by
      intro z
      have : b = 0 := Rat.intCast_eq_zero_iff.mp z
      omega
    have e : ((27720 ^ 1 : Nat) : Rat) = (b : Rat) * (c : Rat) := by
      rw [← Rat.intCast_mul, ← hc]
      rfl
    rw [e, ← Rat.mul_assoc, Rat.div_mul_cancel hb]
  · rw [Int.natAbs_mul]
    have : a.natAbs * c.natAbs ≤ 1000 * 27720 := Nat.mul_le_mul ha (by omega)
    omega
theorem BS.sm {t m : Nat} {q : Rat} (h : BS t m q) (ht : t ≤ 60) (hm : m ≤ 1000000) : Sm q := by
  obtain ⟨a, e1, l1⟩ := h
  have N0 : 0 < 27720 ^ t := Nat.pow_pos (by omega)
  have hN : ((27720 ^ t : Nat) : Rat) ≠ 0 := by
    intro z
    have := Rat.natCast_eq_zero_iff.mp z
    omega
  have e : q = Rat.divInt a ((27720 ^ t : Nat) : Int) := by
    rw [Rat.divInt_eq_div]
    rw [← e1]
    show _ = _ / ((27720 ^ t : Nat) : Rat)
    rw [Rat.mul_div_cancel hN]
  obtain ⟨_, _, p1, p2⟩ := frac_parts (t := a) (b := ((27720 ^ t : Nat) : Int)) (by omega) rfl
  have u1 : 27720000 ^ t ≤ 27720000 ^ 60 := Nat.pow_le_pow_right (by omega) ht
  have u2 : 27720 ^ t ≤ 27720 ^ 60 := Nat.pow_le_pow_right (by omega) ht
  have n1 : q.num.natAbs ≤ a.natAbs := by
    rw [e, Rat.num_divInt]
    rw [Int.sign_eq_one_of_pos (by omega), Int.one_mul]
    exact Int.natAbs_ediv_le_natAbs _ _
  have d1 : q.den ≤ 27720 ^ t := by
    rw [e, Rat.den_divInt, if_neg (by omega)]
    exact Nat.div_le_self _ _
  constructor
  · refine Nat.lt_of_le_of_lt (Nat.le_trans n1 (Nat.le_trans l1 (Nat.mul_le_mul hm u1))) ?_
    decide +kernel
  · refine Nat.lt_of_le_of_lt (Nat.le_trans d1 u2) ?_
    decide +kernel
theorem fr_inj {p q : Rat} (h : fr p = fr q) : p = q := by
  unfold fr at h
  simp at h
  exact Rat.ext h.1 (by have := h.2; omega)
theorem fr_zero : fr 0 = .tuple [.int 0, .int 1] := rfl
theorem fr_one : fr 1 = .tuple [.int 1, .int 1] := rfl
end PV.M
set_option Elab.async false
set_option linter.all false
set_option maxRecDepth 100000
set_option maxHeartbeats 400000
/-! PM, part E: polynomials as rows of terms, dicts of them, their order. -/
namespace PV.M
open PySem PV
abbrev Pl := List (List Int × Rat)
def pw (k : List Int) : D := .tuple (k.map .int)
def ky (k : List Int) : NestedKey := .tup (k.map .num)
def td (p : List Int × Rat) : D := .tuple [pw p.1, fr p.2]
def pl (l : Pl) : D := .tuple (l.map td)
/-- a dict of fractions by powers -/
def dd (l : Pl) : List (D × D) := l.map fun p => (pw p.1, fr p.2)
def keys (l : Pl) : List (List Int) := l.map (·.1)
/-! ### keys -/
theorem nks_ints : ∀ ns : List Int, nks? (ns.map .int) = some (ns.map .num)
  | [] => rfl
  | n :: ns => by
    rw [List.map_cons, nks?, nks_ints ns]
    rfl
theorem depths_nums : ∀ ns : List Int, NestedKey.depthAll (ns.map .num) ≤ 1
  | [] => by simp [NestedKey.depthAll]
  | n :: ns => by
    have := depths_nums ns
    simp [NestedKey.depthAll, NestedKey.depth]
    omega
theorem nk_ints {ns : List Int} : nk? (pw ns) = some (ky ns) := by
  show nk? (.tuple (ns.map .int)) = _
  rw [nk?, nks_ints]
  rfl
theorem key_ints {ns : List Int} : key? (pw ns) = some (ky ns) := by
  have := depths_nums ns
  show (nk? (pw ns)).bind _ = _
  rw [nk_ints]
  show (if NestedKey.depth (.tup (ns.map .num)) ≤ 8 then some (NestedKey.tup (ns.map .num)) else none) = _
  rw [if_pos]
  · rfl
  · simp [NestedKey.depth]
    omega
theorem nums_inj : ∀ {a b : List Int}, a.map NestedKey.num = b.map NestedKey.num → a = b
  | [], [], _ => rfl
  | [], _ :: _, h => by cases h
  | _ :: _, [], h => by cases h
  | x :: a, y :: b, h => by
    simp only [List.map_cons, List.cons.injEq, NestedKey.num.injEq] at h
    rw [h.1, nums_inj h.2]
theorem ky_inj {a b : List Int} (h : ky a = ky b) : a = b := by
  unfold ky at h
  exact nums_inj (NestedKey.tup.inj h)
theorem nk_is {a b : List Int} : (nk? (pw a) = some (ky b)) ↔ a = b := by
  rw [nk_ints]
  constructor
  · intro h
    exact ky_inj (Option.some.inj h)
  · rintro rfl
    rfl
/-! ### the dict -/
def aget : Pl → List Int → Option Rat
  | [], _ => none
  | p :: l, k => if p.1 = k then some p.2 else aget l k
def aput : Pl → List Int → Rat → Pl
  | [], k, v => [(k, v)]
  | p :: l, k, v => if p.1 = k then (k, v) :: l else p :: aput l k v
theorem dGet_dd {k : List Int} : ∀ l : Pl, dGet (dd l) (ky k) = (aget l k).map fr
  | [] => rfl
  | p :: l => by
    show ((((pw p.1, fr p.2) :: dd l).find? fun q => decide (nk? q.1 = some (ky k))).map (·.2)) = _
    rw [List.find?_cons]
    unfold aget
    by_cases h : p.1 = k
    · rw [if_pos h, decide_eq_true (nk_is.mpr h)]
      rfl
    · rw [if_neg h, decide_eq_false (fun z => h (nk_is.mp z))]
      exact dGet_dd l
theorem aget_none {k : List Int} : ∀ {l : Pl}, aget l k = none ↔ k ∉ keys l
  | [] => by simp [aget, keys]
  | p :: l => by
    have ih := aget_none (k := k) (l := l)
    unfold aget keys
    rw [List.map_cons, List.mem_cons]
    by_cases h : p.1 = k
    · rw [if_pos h]
      simp [h]
    · rw [if_neg h, ih]
      unfold keys
      constructor
      · intro a b
        rcases b with b | b
        · exact h b.symm
        · exact a b
      · intro a b
        exact a (.inr b)
theorem aput_new {k : List Int} {v : Rat} : ∀ {l : Pl}, k ∉ keys l → aput l k v = l ++ [(k, v)]
  | [], _ => rfl
  | p :: l, h => by
    have h' : ¬ (p.1 = k) ∧ k ∉ keys l := by
      unfold keys at h
      rw [List.map_cons, List.mem_cons] at h
      exact ⟨fun z => h (.inl z.symm), fun z => h (.inr z)⟩
    unfold aput
    rw [if_neg h'.1, aput_new h'.2]
    rfl
theorem dd_same {k : List Int} {v : Rat} : ∀ {l : Pl}, k ∉ keys l → (dd l).map (fun p => if nk? p.1 = some (ky k) then (p.1, fr v) else p) = dd l
  | [], _ => rfl
  | p :: l, h => by
    have h' : ¬ (p.1 = k) ∧ k ∉ keys l := by
      unfold keys at h
      rw [List.map_cons, List.mem_cons] at h
      exact ⟨fun z => h (.inl z.symm), fun z => h (.inr z)⟩
    show (if nk? (pw p.1) = some (ky k) then (pw p.1, fr v) else (pw p.1, fr p.2)) :: (dd l).map _ = _
    rw [if_neg (fun z => h'.1 (nk_is.mp z)), dd_same h'.2]
    rfl
theorem dd_put {k : List Int} {v : Rat} : ∀ {l : Pl}, (keys l).Nodup → k ∈ keys l → (dd l).map (fun p => if nk? p.1 = some (ky k) then (p.1, fr v) else p) = dd (aput l k v)
  | [], _, h => by cases h
  | p :: l, hn, h => by
    have hn' : p.1 ∉ keys l ∧ (keys l).Nodup := List.nodup_cons.mp hn
    show (if nk? (pw p.1) = some (ky k) then (pw p.1, fr v) else (pw p.1, fr p.2)) :: (dd l).map _ = _
    unfold aput
    by_cases e : p.1 = k
    · rw [if_pos (nk_is.mpr e), if_pos e, dd_same (by rw [← e]; exact hn'.1), e]
      rfl
    · rw [if_neg (fun z => e (nk_is.mp z)), if_neg e]
      have : k ∈ keys l := by
        rcases List.mem_cons.mp h with h | h
        · exact absurd h.symm e
        · exact h
      rw [dd_put hn'.2 this]
      rfl
theorem dPut_dd {l : Pl} {k : List Int} {v : Rat} (hn : (keys l).Nodup) : dPut (dd l) (ky k) (pw k) (fr v) = dd (aput l k v) := by
  unfold dPut
  rw [dGet_dd]
  cases h : aget l k with
  | none =>
    rw [aput_new (aget_none.mp h)]
    simp [dd]
  | some q =>
    have : k ∈ keys l := by
      rcases Classical.em (k ∈ keys l) with z | z
      · exact z
      · rw [aget_none.mpr z] at h
        cases h
    simp only [Option.map_some, Option.isSome_some, if_true]
    exact dd_put hn this
theorem idx_dd {l : Pl} {k : List Int} : idxF (.dict (dd l)) (pw k) = (aget l k).map fr := by
  show (key? (pw k)).bind _ = _
  rw [key_ints]
  exact dGet_dd l
theorem get_dd {l : Pl} {k : List Int} {z : Rat} : getF (.dict (dd l)) (pw k) (fr z) = some (fr ((aget l k).getD z)) := by
  show (key? (pw k)).map _ = _
  rw [key_ints]
  show some ((dGet (dd l) (ky k)).getD (fr z)) = _
  rw [dGet_dd]
  cases aget l k <;> rfl
theorem keys_aput {k : List Int} {v : Rat} : ∀ {l : Pl}, keys (aput l k v) = if k ∈ keys l then keys l else keys l ++ [k]
  | [] => rfl
  | p :: l => by
    unfold aput
    by_cases e : p.1 = k
    · rw [if_pos e, if_pos (by rw [← e]; exact List.mem_cons_self ..)]
      show k :: keys l = p.1 :: keys l
      rw [e]
    · rw [if_neg e]
      show p.1 :: keys (aput l k v) = _
      rw [keys_aput]
      show _ = if k ∈ p.1 :: keys l then p.1 :: keys l else p.1 :: keys l ++ [k]
      by_cases h : k ∈ keys l
      · rw [if_pos h, if_pos (List.mem_cons_of_mem _ h)]
      · rw [if_neg h, if_neg]
        · rfl
        · intro z
          rcases List.mem_cons.mp z with z | z
          · exact e z.symm
          · exact h z
theorem nodup_aput {l : Pl} {k : List Int} {v : Rat} (h : (keys l).Nodup) : (keys (aput l k v)).Nodup := by
  rw [keys_aput]
  split
  · exact h
  · rename_i hk
    refine List.nodup_append.mpr ⟨h, by simp, ?_⟩
    intro a ha b hb
    rw [List.mem_singleton.mp hb]
    rintro rfl
    exact hk ha
theorem mem_aput {k : List Int} {v : Rat} {p : List Int × Rat} : ∀ {l : Pl}, p ∈ aput l k v → p = (k, v) ∨ p ∈ l
  | [], h => by
    left
    simpa [aput] using h
  | q :: l, h => by
    unfold aput at h
    split at h
    · rcases List.mem_cons.mp h with h | h
      · exact .inl h
      · exact .inr (List.mem_cons_of_mem _ h)
    · rcases List.mem_cons.mp h with h | h
      · exact .inr (by rw [h]; exact List.mem_cons_self ..)
      · rcases mem_aput h with h | h
        · exact .inl h
        · exact .inr (List.mem_cons_of_mem _ h)
theorem len_aput {k : List Int} {v : Rat} : ∀ {l : Pl}, (aput l k v).length ≤ l.length + 1
  | [] => by simp [aput]
  | p :: l => by
    have := len_aput (k := k) (v := v) (l := l)
    unfold aput
    split <;> simp <;> omega
theorem aget_mem {k : List Int} {q : Rat} : ∀ {l : Pl}, aget l k = some q → (k, q) ∈ l
  | [], h => by cases h
  | p :: l, h => by
    unfold aget at h
    split at h
    · rename_i e
      cases h
      subst e
      exact List.mem_cons_self ..
    · exact List.mem_cons_of_mem _ (aget_mem h)
theorem aget_of {k : List Int} {q : Rat} : ∀ {l : Pl}, (keys l).Nodup → (k, q) ∈ l → aget l k = some q
  | [], _, h => by cases h
  | p :: l, hn, h => by
    have hn' : p.1 ∉ keys l ∧ (keys l).Nodup := List.nodup_cons.mp hn
    unfold aget
    rcases List.mem_cons.mp h with h | h
    · rw [← h, if_pos rfl]
    · rw [if_neg, aget_of hn'.2 h]
      intro e
      exact hn'.1 (by rw [e]; exact List.mem_map_of_mem (f := (·.1)) h)
/-! ### worths -/
/-- the sum of numbers times what their powers are worth -/
def lin (φ : List Int → Rat) : Pl → Rat
  | [] => 0
  | p :: l => p.2 * φ p.1 + lin φ l
/-- what is added to what stands under a key -/
def acc (l : Pl) (k : List Int) (x : Rat) : Pl := aput l k ((aget l k).getD 0 + x)
section
variable {φ : List Int → Rat}
theorem lin_aput {k : List Int} {v : Rat} : ∀ {l : Pl}, lin φ (aput l k v) = lin φ l + (v - (aget l k).getD 0) * φ k
  | [] => by
    simp only [aput, aget, lin, Option.getD_none]
    grind
  | p :: l => by
    have ih := lin_aput (k := k) (v := v) (l := l)
    unfold aput aget
    by_cases e : p.1 = k
    · rw [if_pos e, if_pos e]
      simp only [lin, Option.getD_some, e]
      grind
    · rw [if_neg e, if_neg e]
      simp only [lin]
      rw [ih]
      grind
theorem lin_acc {l : Pl} {k : List Int} {x : Rat} : lin φ (acc l k x) = lin φ l + x * φ k := by
  unfold acc
  rw [lin_aput]
  grind
theorem lin_append : ∀ {l m : Pl}, lin φ (l ++ m) = lin φ l + lin φ m
  | [], m => by simp only [List.nil_append, lin]; grind
  | p :: l, m => by
    simp only [List.cons_append, lin]
    rw [lin_append]
    grind
theorem lin_perm {l m : Pl} (h : l.Perm m) : lin φ l = lin φ m := by
  induction h with
  | nil => rfl
  | cons _ _ ih => simp only [lin, ih]
  | swap _ _ _ => simp only [lin]; grind
  | trans _ _ ih1 ih2 => rw [ih1, ih2]
/-- what is other than 0 -/
def nz (l : Pl) : Pl := l.filter fun p => decide (p.2 ≠ 0)
theorem lin_nz : ∀ {l : Pl}, lin φ (nz l) = lin φ l
  | [] => rfl
  | p :: l => by
    have ih := lin_nz (l := l)
    unfold nz at ih ⊢
    rw [List.filter_cons]
    by_cases h : p.2 = 0
    · rw [if_neg (by simp [h]), ih]
      simp only [lin, h]
      grind
    · rw [if_pos (by simp [h])]
      simp only [lin, ih]
theorem lin_congr {ψ : List Int → Rat} : ∀ {l : Pl}, (∀ p ∈ l, φ p.1 = ψ p.1) → lin φ l = lin ψ l
  | [], _ => rfl
  | p :: l, h => by
    simp only [lin]
    rw [h p (List.mem_cons_self ..), lin_congr fun q hq => h q (List.mem_cons_of_mem _ hq)]
end
theorem nodup_nz {l : Pl} (h : (keys l).Nodup) : (keys (nz l)).Nodup := by
  unfold keys nz
  exact List.Nodup.sublist (List.Sublist.map _ List.filter_sublist) h
/-! ### the order -/
theorem rkey_pw (k : List Int) : rkey (pw k) = keyI k.sum k := by
  show PyData.tuple [.int ((ints? (k.map .int)).getD []).sum, .tuple (k.map .int)] = _
  rw [ints_map]
  rfl
/-- one key ahead of another one -/
def rgt (a b : List Int) : Prop := PySem.W.dataLt (keyI b.sum b) (keyI a.sum a) = true
theorem toks_ints : ∀ {a b : List Int} {u v : List (Int ⊕ List Nat)}, PySem.W.keyToksAll (a.map .int) ++ u = PySem.W.keyToksAll (b.map .int) ++ v → a = b
  | [], [], _, _, _ => rfl
  | [], y :: b, _, _, h => by
    simp only [List.map_nil, List.map_cons, PySem.W.keyToksAll] at h
    simp at h
  | x :: a, [], _, _, h => by
    simp only [List.map_nil, List.map_cons, PySem.W.keyToksAll] at h
    simp at h
  | x :: a, y :: b, u, v, h => by
    simp only [List.map_cons, PySem.W.keyToksAll, PySem.W.keyToks, List.cons_append, List.cons.injEq, List.nil_append, List.singleton_append] at h
    have h1 : x = y := by simpa using h.2.1
    rw [h1, toks_ints h.2.2]
theorem toks_key {s t : Int} {a b : List Int} (h : PySem.W.keyToks (keyI s a) = PySem.W.keyToks (keyI t b)) : a = b := by
  simp only [keyI, PySem.W.keyToks, PySem.W.keyToksAll, List.cons_append, List.cons.injEq, List.nil_append, List.singleton_append] at h
  exact toks_ints h.2.2.2
theorem rgt_total {a b : List Int} (h : ¬ rgt b a) (ne : a ≠ b) : rgt a b := by
  unfold rgt at *
  cases e : PySem.W.dataLt (keyI b.sum b) (keyI a.sum a) with
  | true => rfl
  | false =>
    have h' : PySem.W.dataLt (keyI a.sum a) (keyI b.sum b) = false := by simpa using h
    exact absurd (toks_key ((PyProof.Rows.listOrd PyProof.Rows.itemOrd).total _ _ h' e)) ne
theorem rgt_irrefl (a : List Int) : ¬ rgt a a := by
  unfold rgt PySem.W.dataLt
  rw [PyProof.Rows.lex_irrefl]
  simp
theorem rgt_trans {a b c : List Int} (h : rgt a b) (h' : rgt b c) : rgt a c := by
  unfold rgt PySem.W.dataLt at *
  exact PyProof.Rows.lex_trans _ _ _ h' h
theorem rgt_asymm {a b : List Int} (h : rgt a b) (h' : rgt b a) : False := rgt_irrefl a (rgt_trans h h')
/-- rows in order are told by what they hold -/
theorem sorted_one : ∀ {l m : List (List Int)}, l.Perm m → l.Pairwise rgt → m.Pairwise rgt → l = m
  | [], m, h, _, _ => h.nil_eq
  | x :: l, [], h, _, _ => by
    have := h.length_eq
    simp at this
  | x :: l, y :: m, h, h1, h2 => by
    obtain ⟨a1, a2⟩ := List.pairwise_cons.mp h1
    obtain ⟨b1, b2⟩ := List.pairwise_cons.mp h2
    have e : x = y := by
      rcases List.mem_cons.mp (h.mem_iff.mp (List.mem_cons_self (a := x) (l := l))) with e | hx
      · exact e
      · rcases List.mem_cons.mp (h.mem_iff.mpr (List.mem_cons_self (a := y) (l := m))) with e | hy
        · exact e.symm
        · exact absurd (b1 x hx) (fun z => rgt_asymm z (a1 y hy))
    subst e
    rw [sorted_one ((List.perm_cons x).mp h) a2 b2]
/-- keys, the greater ones ahead -/
def srt (ks : List (List Int)) : List (List Int) := ks.mergeSort (PySem.W.dataLe true fun k => keyI k.sum k)
theorem srt_perm (ks : List (List Int)) : (srt ks).Perm ks := List.mergeSort_perm _ _
theorem pairwise_strict {R : List Int → List Int → Prop} {ks : List (List Int)} (h : ks.Pairwise R) (hn : ks.Nodup) (f : ∀ a b, R a b → ¬ rgt b a) : ks.Pairwise rgt := by
  have := h.and hn
  exact this.imp fun {a b} z => rgt_total (f a b z.1) z.2
theorem srt_sorted {ks : List (List Int)} (hn : ks.Nodup) : (srt ks).Pairwise rgt := by
  refine pairwise_strict (R := fun a b => PySem.W.dataLe true (fun k : List Int => keyI k.sum k) a b = true) (PySem.W.sort_pairwise (PySem.W.sortLe_total _ true _) ks) ((srt_perm ks).nodup_iff.mpr hn) fun a b h z => ?_
  have h : (!PySem.W.dataLt (keyI a.sum a) (keyI b.sum b)) = true := h
  unfold rgt at z
  rw [z] at h
  cases h
theorem sortOk_keys {xs : List D} (h : ∀ x ∈ xs, ∃ s ns, x = keyI s ns) (hl : xs.length ≤ LINE) : sortOk xs = true := by
  unfold sortOk
  simp only [Bool.and_eq_true, Bool.or_eq_true, List.all_eq_true, decide_eq_true_eq]
  refine ⟨⟨⟨fun x hx y hy => ?_, fun x hx => ?_⟩, hl⟩, .inl fun x hx => ?_⟩
  · obtain ⟨s, ns, rfl⟩ := h x hx
    obtain ⟨t, ms, rfl⟩ := h y hy
    exact key_alike ..
  · obtain ⟨s, ns, rfl⟩ := h x hx
    exact ⟨key_depth .., key_noDict ..⟩
  · obtain ⟨s, ns, rfl⟩ := h x hx
    rfl
theorem sortrank_keys {ks : List (List Int)} (hl : ks.length ≤ LINE) : bltF .sortrank [.list (ks.map pw)] = some (.list ((srt ks).map pw)) := by
  have h1 : (ks.map pw).all isIntsT = true := by
    rw [List.all_eq_true]
    intro x hx
    obtain ⟨k, _, rfl⟩ := List.mem_map.mp hx
    show (ints? (k.map .int)).isSome = true
    rw [ints_map]
    rfl
  have h2 : sortOk ((ks.map pw).map rkey) = true := sortOk_keys (fun x hx => by
    obtain ⟨y, hy, rfl⟩ := List.mem_map.mp hx
    obtain ⟨k, _, rfl⟩ := List.mem_map.mp hy
    exact ⟨_, _, rkey_pw k⟩) (by simpa using hl)
  show (if ((ks.map pw).all isIntsT && sortOk ((ks.map pw).map rkey)) = true then some (PyData.list ((ks.map pw).mergeSort (PySem.W.dataLe true rkey))) else none) = _
  rw [h1, h2]
  show some (PyData.list ((ks.map pw).mergeSort (PySem.W.dataLe true rkey))) = _
  have e := List.map_mergeSort (r := PySem.W.dataLe true fun k : List Int => keyI k.sum k) (s := PySem.W.dataLe true rkey) (f := pw) (l := ks) (fun a _ b _ => by
    show (!PySem.W.dataLt (keyI a.sum a) (keyI b.sum b)) = (!PySem.W.dataLt (rkey (pw a)) (rkey (pw b)))
    rw [rkey_pw, rkey_pw])
  rw [← e]
  rfl
/-- the other way about, keys with their sums ahead -/
theorem sorted_keys {ks : List (List Int)} (hn : ks.Nodup) (hl : ks.length ≤ LINE) : bltF .sorted [.list (ks.map fun k => keyI k.sum k)] = some (.list ((srt ks).reverse.map fun k => keyI k.sum k)) := by
  have h2 : sortOk (ks.map fun k => keyI k.sum k) = true := sortOk_keys (fun x hx => by
    obtain ⟨k, _, rfl⟩ := List.mem_map.mp hx
    exact ⟨_, _, rfl⟩) (by simpa using hl)
  show (if sortOk (ks.map fun k => keyI k.sum k) = true then some (PyData.list ((ks.map fun k => keyI k.sum k).mergeSort (PySem.W.dataLe false id))) else none) = _
  rw [h2]
  show some (PyData.list ((ks.map fun k => keyI k.sum k).mergeSort (PySem.W.dataLe false id))) = _
  have e := List.map_mergeSort (r := PySem.W.dataLe false fun k : List Int => keyI k.sum k) (s := PySem.W.dataLe false id) (f := fun k : List Int => keyI k.sum k) (l := ks) (fun a _ b _ => rfl)
  rw [← e]
  congr 2
  congr 1
  have p1 : (ks.mergeSort (PySem.W.dataLe false fun k : List Int => keyI k.sum k)).Perm ks := List.mergeSort_perm _ _
  have s1 : (ks.mergeSort (PySem.W.dataLe false fun k : List Int => keyI k.sum k)).reverse.Pairwise rgt := by
    have := PySem.W.sort_pairwise (PySem.W.sortLe_total (PyProof.Rows.listOrd PyProof.Rows.itemOrd) false fun k : List Int => PySem.W.keyToks (keyI k.sum k)) ks
    refine pairwise_strict (R := fun a b => PySem.W.dataLe false (fun k : List Int => keyI k.sum k) b a = true) (List.pairwise_reverse.mpr this) ((List.reverse_perm _).trans p1 |>.nodup_iff.mpr hn) fun a b h z => ?_
    have h : (!PySem.W.dataLt (keyI a.sum a) (keyI b.sum b)) = true := h
    unfold rgt at z
    rw [z] at h
    cases h
  have := sorted_one ((List.reverse_perm _).trans p1 |>.trans (srt_perm ks).symm) s1 (srt_sorted hn)
  rw [← this, List.reverse_reverse]
/-- the polynomial of a dict -/
def ord (l : Pl) : Pl := (srt (keys (nz l))).map fun k => (k, (aget l k).getD 0)
theorem ord_perm {l : Pl} (hn : (keys l).Nodup) : (ord l).Perm (nz l) := by
  have e : (keys (nz l)).map (fun k => (k, (aget l k).getD 0)) = nz l := by
    unfold keys
    rw [List.map_map]
    have : ∀ p ∈ nz l, ((fun k => (k, (aget l k).getD 0)) ∘ fun p : List Int × Rat => p.1) p = p := fun p hp => by
      have hp' : p ∈ l := (List.mem_filter.mp hp).1
      show (p.1, (aget l p.1).getD 0) = p
      rw [aget_of (q := p.2) hn hp']
      rfl
    rw [List.map_congr_left this, List.map_id']
  unfold ord
  rw (occs := [2]) [← e]
  exact (srt_perm _).map _
theorem lin_ord {φ : List Int → Rat} {l : Pl} (hn : (keys l).Nodup) : lin φ (ord l) = lin φ l := by rw [lin_perm (ord_perm hn), lin_nz]
theorem mem_ord {l : Pl} (hn : (keys l).Nodup) {p : List Int × Rat} : p ∈ ord l ↔ p ∈ l ∧ p.2 ≠ 0 := by
  rw [(ord_perm hn).mem_iff]
  unfold nz
  rw [List.mem_filter]
  simp
theorem keys_ord (l : Pl) : keys (ord l) = srt (keys (nz l)) := by
  unfold ord
  show List.map _ (List.map _ _) = _
  rw [List.map_map]
  exact List.map_id'' (fun _ => rfl) _
theorem ord_sorted {l : Pl} (hn : (keys l).Nodup) : (keys (ord l)).Pairwise rgt := by
  rw [keys_ord]
  exact srt_sorted (nodup_nz hn)
theorem len_ord {l : Pl} : (ord l).length ≤ l.length := by
  unfold ord
  rw [List.length_map, (srt_perm _).length_eq]
  unfold keys nz
  rw [List.length_map]
  exact List.length_filter_le _ _
/-! ### products -/
def kadd (a b : List Int) : List Int := List.zipWith (· + ·) a b
def tinn (p : List Int × Rat) (d two : Pl) : Pl := two.foldl (fun d q => acc d (kadd p.1 q.1) (p.2 * q.2)) d
def tmul (one two : Pl) : Pl := one.foldl (fun d p => tinn p d two) []
theorem lin_tinn {φ : List Int → Rat} {p : List Int × Rat} : ∀ {two d : Pl}, lin φ (tinn p d two) = lin φ d + p.2 * lin (fun k => φ (kadd p.1 k)) two
  | [], d => by
    simp only [tinn, List.foldl_nil, lin]
    grind
  | q :: two, d => by
    have ih := lin_tinn (φ := φ) (p := p) (two := two) (d := acc d (kadd p.1 q.1) (p.2 * q.2))
    unfold tinn at ih ⊢
    rw [List.foldl_cons, ih, lin_acc]
    simp only [lin]
    grind
theorem lin_tmul {φ : List Int → Rat} (one two : Pl) : lin φ (tmul one two) = lin (fun a => lin (fun b => φ (kadd a b)) two) one := by
  have : ∀ (one d : Pl), lin φ (one.foldl (fun d p => tinn p d two) d) = lin φ d + lin (fun a => lin (fun b => φ (kadd a b)) two) one := by
    intro one
    induction one with
    | nil =>
      intro d
      simp only [List.foldl_nil, lin]
      grind
    | cons p one ih =>
      intro d
      rw [List.foldl_cons, ih, lin_tinn]
      simp only [lin]
      grind
  unfold tmul
  rw [this]
  simp only [lin]
  grind
end PV.M
set_option Elab.async false
set_option linter.all false
set_option maxRecDepth 100000
set_option maxHeartbeats 400000
/-! PM, part F: series. -/
namespace PV.M
open PySem PV
abbrev Ser := Nat → Rat
/-- a series' datum, up to a degree -/
def sd (d : Nat) (f : Ser) : D := .tuple ((List.range (d + 1)).map fun i => fr (f i))
/-- the product -/
def cv (f g : Ser) : Ser
  | 0 => f 0 * g 0
  | k + 1 => f 0 * g (k + 1) + cv (fun i => f (i + 1)) g k
def one' : Ser := fun i => if i = 0 then 1 else 0
def smul (q : Rat) (f : Ser) : Ser := fun i => q * f i
def sadd (f g : Ser) : Ser := fun i => f i + g i
def zero' : Ser := fun _ => 0
theorem cv_add (f g h : Ser) : ∀ k, cv (sadd f g) h k = cv f h k + cv g h k
  | 0 => by simp only [cv, sadd]; grind
  | k + 1 => by
    have := cv_add (fun i => f (i + 1)) (fun i => g (i + 1)) h k
    show (f 0 + g 0) * h (k + 1) + cv (sadd (fun i => f (i + 1)) fun i => g (i + 1)) h k = (f 0 * h (k + 1) + cv (fun i => f (i + 1)) h k) + (g 0 * h (k + 1) + cv (fun i => g (i + 1)) h k)
    rw [this]
    grind
theorem cv_smul (q : Rat) (f g : Ser) : ∀ k, cv (smul q f) g k = q * cv f g k
  | 0 => by simp only [cv, smul]; grind
  | k + 1 => by
    have := cv_smul q (fun i => f (i + 1)) g k
    show (q * f 0) * g (k + 1) + cv (smul q fun i => f (i + 1)) g k = q * (f 0 * g (k + 1) + cv (fun i => f (i + 1)) g k)
    rw [this]
    grind
theorem cv_zero (g : Ser) : ∀ k, cv zero' g k = 0
  | 0 => by simp only [cv, zero']; grind
  | k + 1 => by
    have := cv_zero g k
    show (0 : Rat) * g (k + 1) + cv zero' g k = 0
    rw [this]
    grind
theorem cv_right (f g : Ser) : ∀ k, cv f g (k + 1) = f (k + 1) * g 0 + cv f (fun i => g (i + 1)) k
  | 0 => by simp only [cv]; grind
  | k + 1 => by
    have := cv_right (fun i => f (i + 1)) g k
    rw [cv, this]
    simp only [cv]
    grind
theorem cv_comm' (f g : Ser) : ∀ k, cv f g k = cv g f k
  | 0 => by simp only [cv]; grind
  | k + 1 => by
    rw [cv_right g f k, cv, cv_comm' (fun i => f (i + 1)) g k]
    grind
theorem cv_comm (f g : Ser) : cv f g = cv g f := funext (cv_comm' f g)
theorem cv_assoc' (f g h : Ser) : ∀ k, cv (cv f g) h k = cv f (cv g h) k
  | 0 => by simp only [cv]; grind
  | k + 1 => by
    have ih := cv_assoc' (fun i => f (i + 1)) g h k
    have e : (fun i => cv f g (i + 1)) = sadd (smul (f 0) fun i => g (i + 1)) (cv (fun i => f (i + 1)) g) := rfl
    rw [show cv (cv f g) h (k + 1) = cv f g 0 * h (k + 1) + cv (fun i => cv f g (i + 1)) h k from rfl, e, cv_add, cv_smul, ih]
    simp only [cv]
    grind
theorem cv_assoc (f g h : Ser) : cv (cv f g) h = cv f (cv g h) := funext (cv_assoc' f g h)
theorem one_cv' (g : Ser) : ∀ k, cv one' g k = g k
  | 0 => by simp only [cv, one']; grind
  | k + 1 => by
    have : cv (fun i => one' (i + 1)) g k = 0 := cv_zero g k
    show (1 : Rat) * g (k + 1) + cv (fun i => one' (i + 1)) g k = g (k + 1)
    rw [this]
    grind
theorem one_cv (g : Ser) : cv one' g = g := funext (one_cv' g)
theorem cv_one (g : Ser) : cv g one' = g := by rw [cv_comm, one_cv]
/-! ### powers along a row -/
def pwr (f s : Ser) : Nat → Ser
  | 0 => f
  | n + 1 => pwr (cv f s) s n
/-- a series times the powers of a row -/
def muls (f : Ser) : List Int → List Ser → Ser
  | k :: ks, s :: rs => muls (pwr f s k.toNat) ks rs
  | _, _ => f
def mono (ks : List Int) (rs : List Ser) : Ser := muls one' ks rs
theorem pwr_cv (f g s : Ser) : ∀ n, pwr (cv f g) s n = cv f (pwr g s n)
  | 0 => rfl
  | n + 1 => by
    rw [pwr, cv_assoc, pwr_cv f (cv g s) s n]
    rfl
theorem pwr_one (f s : Ser) (n : Nat) : pwr f s n = cv f (pwr one' s n) := by
  rw [← pwr_cv, cv_one]
theorem muls_cv : ∀ (ks : List Int) (rs : List Ser) (f g : Ser), muls (cv f g) ks rs = cv f (muls g ks rs)
  | [], rs, f, g => by cases rs <;> rfl
  | k :: ks, [], f, g => rfl
  | k :: ks, s :: rs, f, g => by
    show muls (pwr (cv f g) s k.toNat) ks rs = cv f (muls (pwr g s k.toNat) ks rs)
    rw [pwr_cv, muls_cv]
theorem muls_mono (f : Ser) (ks : List Int) (rs : List Ser) : muls f ks rs = cv f (mono ks rs) := by
  unfold mono
  rw [← muls_cv, cv_one]
theorem pwr_add (f s : Ser) (n : Nat) : ∀ m, pwr f s (m + n) = pwr (pwr f s m) s n
  | 0 => by rw [Nat.zero_add]; rfl
  | m + 1 => by
    rw [show m + 1 + n = (m + n) + 1 by omega, pwr, pwr_add (cv f s) s n m]
    rfl
theorem mono_kadd : ∀ (rs : List Ser) (a b : List Int), a.length = rs.length → b.length = rs.length → (∀ x ∈ a, 0 ≤ x) → (∀ x ∈ b, 0 ≤ x) → mono (kadd a b) rs = cv (mono a rs) (mono b rs)
  | [], [], [], _, _, _, _ => (one_cv _).symm
  | s :: rs, x :: a, y :: b, h1, h2, h3, h4 => by
    have ih := mono_kadd rs a b (by simpa using h1) (by simpa using h2) (fun z hz => h3 z (List.mem_cons_of_mem _ hz)) (fun z hz => h4 z (List.mem_cons_of_mem _ hz))
    have x0 := h3 x (List.mem_cons_self ..)
    have y0 := h4 y (List.mem_cons_self ..)
    show muls (pwr one' s (x + y).toNat) (kadd a b) rs = cv (muls (pwr one' s x.toNat) a rs) (muls (pwr one' s y.toNat) b rs)
    rw [muls_mono, muls_mono (pwr one' s x.toNat), muls_mono (pwr one' s y.toNat), ih, show (x + y).toNat = x.toNat + y.toNat by omega, pwr_add, pwr_one (pwr one' s x.toNat) s y.toNat]
    generalize pwr one' s x.toNat = A
    generalize pwr one' s y.toNat = B
    generalize mono a rs = M
    generalize mono b rs = N
    rw [cv_assoc, cv_assoc, ← cv_assoc B M N, cv_comm B M, cv_assoc M B N]
  | [], _ :: _, _, h, _, _, _ => by simp at h
  | [], [], _ :: _, _, h, _, _ => by simp at h
  | _ :: _, [], _, h, _, _, _ => by simp at h
  | _ :: _, _ :: _, [], _, h, _, _ => by simp at h
/-- the worth of a polynomial along a row -/
def alng (rs : List Ser) (l : Pl) : Ser := fun j => lin (fun k => mono k rs j) l
theorem alng_nil (rs : List Ser) : alng rs [] = zero' := rfl
theorem alng_cons (rs : List Ser) (p : List Int × Rat) (l : Pl) : alng rs (p :: l) = sadd (smul p.2 (mono p.1 rs)) (alng rs l) := rfl
/-- keys that fit a row -/
def Fit (n : Nat) (l : Pl) : Prop := ∀ p ∈ l, p.1.length = n ∧ ∀ x ∈ p.1, 0 ≤ x
theorem Fit.tail {n : Nat} {p : List Int × Rat} {l : Pl} (h : Fit n (p :: l)) : Fit n l := fun q hq => h q (List.mem_cons_of_mem _ hq)
theorem alng_one {rs : List Ser} {a : List Int} (ha : a.length = rs.length) (ha0 : ∀ x ∈ a, 0 ≤ x) (j : Nat) : ∀ {l : Pl}, Fit rs.length l → lin (fun b => mono (kadd a b) rs j) l = cv (mono a rs) (alng rs l) j
  | [], _ => by
    rw [alng_nil, cv_comm, cv_zero]
    rfl
  | p :: l, h => by
    obtain ⟨h1, h2⟩ := h p (List.mem_cons_self ..)
    rw [alng_cons, cv_comm, cv_add, cv_smul, cv_comm (alng rs l), ← alng_one ha ha0 j h.tail]
    simp only [lin]
    rw [mono_kadd rs a p.1 ha h1 ha0 h2, cv_comm (mono a rs)]
theorem alng_tmul {rs : List Ser} {one two : Pl} (h1 : Fit rs.length one) (h2 : Fit rs.length two) : alng rs (tmul one two) = cv (alng rs one) (alng rs two) := by
  funext j
  unfold alng
  rw [lin_tmul]
  induction one with
  | nil =>
    show (0 : Rat) = cv zero' _ j
    rw [cv_zero]
  | cons p one ih =>
    obtain ⟨a1, a2⟩ := h1 p (List.mem_cons_self ..)
    simp only [lin]
    rw [alng_one a1 a2 j h2, ih h1.tail]
    show _ = cv (sadd (smul p.2 (mono p.1 rs)) (alng rs one)) (alng rs two) j
    rw [cv_add, cv_smul]
    rfl
theorem alng_ord {rs : List Ser} {l : Pl} (hn : (keys l).Nodup) : alng rs (ord l) = alng rs l := by
  funext j
  exact lin_ord hn
/-! ### the sums by which the program and the law tell a product -/
theorem sum_cv (f g : Ser) : ∀ k, ((List.range (k + 1)).map fun i => f i * g (k - i)).sum = cv f g k
  | 0 => by simp [cv]; grind
  | k + 1 => by
    rw [List.range_succ_eq_map, List.map_cons, List.sum_cons, List.map_map]
    rw [cv, ← sum_cv (fun i => f (i + 1)) g k]
    congr 2
    apply List.map_congr_left
    intro i _
    show f (i + 1) * g (k + 1 - (i + 1)) = _
    rw [Nat.add_sub_add_right]
/-- the first rows of the law's product -/
def pcv (f g : Ser) (n i : Nat) : Rat := ((List.range n).map fun a => if a ≤ i then f a * g (i - a) else 0).sum
theorem pcv_zero (f g : Ser) (i : Nat) : pcv f g 0 i = 0 := rfl
theorem pcv_succ (f g : Ser) (n i : Nat) : pcv f g (n + 1) i = pcv f g n i + if n ≤ i then f n * g (i - n) else 0 := by
  unfold pcv
  rw [List.range_succ, List.map_append, List.sum_append]
  simp [Rat.add_zero]
theorem pcv_full (f g : Ser) {n i : Nat} (h : i < n) : pcv f g n i = cv f g i := by
  induction n with
  | zero => omega
  | succ n ih =>
    rw [pcv_succ]
    by_cases e : i < n
    · rw [ih e, if_neg (by omega), Rat.add_zero]
    · have : n = i := by omega
      subst this
      rw [if_pos (Nat.le_refl _), ← sum_cv, List.range_succ, List.map_append, List.sum_append]
      congr 1
      · unfold pcv
        congr 1
        apply List.map_congr_left
        intro a ha
        rw [if_pos (by have := List.mem_range.mp ha; omega)]
      · simp [Rat.add_zero]
/-! ### how great -/
def FB (d t : Nat) (f : Ser) : Prop := ∀ i, i ≤ d → BS t 1 (f i)
theorem sum_BS {t : Nat} : ∀ {xs : List Rat}, (∀ x ∈ xs, BS t 1 x) → BS t xs.length xs.sum
  | [], _ => BS.zero
  | x :: xs, h => by
    rw [List.sum_cons, List.length_cons, Nat.add_comm]
    exact (h x (List.mem_cons_self ..)).add (sum_BS fun y hy => h y (List.mem_cons_of_mem _ hy))
theorem FB.cv {d s t : Nat} {f g : Ser} (hd : d ≤ 900) (h : FB d s f) (h' : FB d t g) : FB d (s + t + 1) (cv f g) := by
  intro i hi
  rw [← sum_cv]
  have := sum_BS (t := s + t) (xs := (List.range (i + 1)).map fun a => f a * g (i - a)) fun x hx => by
    obtain ⟨a, ha, rfl⟩ := List.mem_map.mp hx
    have ha := List.mem_range.mp ha
    exact (h a (by omega)).mul (h' (i - a) (by omega))
  rw [List.length_map, List.length_range] at this
  exact this.up (by omega)
theorem FB.to {d t u : Nat} {f : Ser} (h : FB d t f) (le : t ≤ u) : FB d u f := fun i hi => (h i hi).to le
theorem FB.one {d t : Nat} : FB d t one' := fun i _ => by
  unfold one'
  split
  · exact BS.one (by omega)
  · exact BS.zero
theorem FB.smul {d s t : Nat} {q : Rat} {f : Ser} (hq : BS s 1 q) (h : FB d t f) : FB d (s + t) (smul q f) := fun i hi => hq.mul (h i hi)
theorem FB.pwr {d t : Nat} {s : Ser} (hd : d ≤ 900) (hs : FB d 1 s) : ∀ {n t : Nat} {f : Ser}, FB d t f → FB d (t + 2 * n) (pwr f s n)
  | 0, _, _, h => h
  | n + 1, t, f, h => by
    have := FB.pwr (t := t) hd hs (n := n) (h.cv hd hs)
    exact this.to (by omega)
theorem FB.muls {d : Nat} (hd : d ≤ 900) : ∀ {ks : List Int} {rs : List Ser} {t : Nat} {f : Ser}, (∀ s ∈ rs, FB d 1 s) → (∀ x ∈ ks, 0 ≤ x) → FB d t f → FB d (t + 2 * ks.sum.toNat) (muls f ks rs)
  | [], rs, t, f, _, _, h => by cases rs <;> exact h
  | k :: ks, [], t, f, _, _, h => h.to (by omega)
  | k :: ks, s :: rs, t, f, hr, hk, h => by
    have h1 := FB.pwr (t := t) hd (hr s (List.mem_cons_self ..)) (n := k.toNat) h
    have h2 := FB.muls hd (ks := ks) (rs := rs) (fun x hx => hr x (List.mem_cons_of_mem _ hx)) (fun x hx => hk x (List.mem_cons_of_mem _ hx)) h1
    have k0 := hk k (List.mem_cons_self ..)
    have s0 : 0 ≤ ks.sum := by
      have : ∀ l : List Int, (∀ x ∈ l, 0 ≤ x) → 0 ≤ l.sum := by
        intro l
        induction l with
        | nil => intro _; simp
        | cons a l ih =>
          intro hl
          rw [List.sum_cons]
          have := hl a (List.mem_cons_self ..)
          have := ih fun x hx => hl x (List.mem_cons_of_mem _ hx)
          omega
      exact this ks fun x hx => hk x (List.mem_cons_of_mem _ hx)
    refine h2.to ?_
    rw [List.sum_cons]
    omega
end PV.M
set_option Elab.async false
set_option linter.all false
set_option maxRecDepth 100000
set_option maxHeartbeats 400000
/-! PM, part G: comprehensions and loops over what is typed. -/
namespace PV.M
open PySem PV
section
variable {Ph : CallF} {env : Fram} {elt : Exp} {tg : Tg} {cs : Exs} {own : List Nat} {A B : Type}
theorem compLoop_typed {turn : D → Fram → Res (Option D × Fram)} {e : Fram} (f : A → D) (g : A → Option D) : ∀ {xs : List A} {acc : List D}, (∀ x ∈ xs, turn (f x) e = .ok (g x, e)) → compLoop turn (xs.map f) acc e = .ok (acc ++ xs.filterMap g, e)
  | [], acc, _ => by simp [compLoop]
  | x :: xs, acc, h => by
    rw [List.map_cons]
    show (turn (f x) e).bind _ = _
    rw [h x (List.mem_cons_self ..)]
    show compLoop turn (xs.map f) (match g x with
      | some y => acc ++ [y]
      | none => acc) e = _
    rw [compLoop_typed f g fun y hy => h y (List.mem_cons_of_mem _ hy), List.filterMap_cons]
    cases g x <;> simp
theorem cRun_fil {xs : List A} (f : A → D) (p : A → Bool) (g : A → D) (h : (own.all fun v => !isOwn env v) = true) (hl : xs.length ≤ LINE)
    (ht : ∀ x ∈ xs, cTurn Ph elt tg cs own (f x) (wipeF env own) = .ok (if p x = true then some (g x) else none, wipeF env own)) (hr : restore (wipeF env own) env own = env) : cRun Ph elt tg cs own (xs.map f) env = .ok (.list ((xs.filter p).map g), env) := by
  rw [cRun_eq h (by simpa using hl), compLoop_typed f (fun x => if p x = true then some (g x) else none) ht, bind_ok, kComp2_eq, hr]
  congr 3
  rw [List.nil_append]
  clear ht hl
  induction xs with
  | nil => rfl
  | cons x xs ih =>
    rw [List.filterMap_cons, List.filter_cons]
    cases hp : p x <;> simp [ih]
theorem cRun_typed {xs : List A} (f : A → D) (g : A → D) (h : (own.all fun v => !isOwn env v) = true) (hl : xs.length ≤ LINE)
    (ht : ∀ x ∈ xs, cTurn Ph elt tg cs own (f x) (wipeF env own) = .ok (some (g x), wipeF env own)) (hr : restore (wipeF env own) env own = env) : cRun Ph elt tg cs own (xs.map f) env = .ok (.list (xs.map g), env) := by
  rw [cRun_eq h (by simpa using hl), compLoop_typed f (fun x => some (g x)) ht, bind_ok, kComp2_eq, hr]
  simp
theorem zipD_typed (f : A → D) (f' : B → D) : ∀ (as : List A) (bs : List B), zipD (as.map f) (bs.map f') = (as.zip bs).map fun p => .tuple [f p.1, f' p.2]
  | [], bs => by simp [zipD]
  | x :: xs, [] => by simp [zipD]
  | x :: xs, y :: ys => by simp [zipD, zipD_typed f f' xs ys]
theorem enumD_typed (f : A → D) : ∀ (as : List A) (k : Nat), enumD k (as.map f) = (as.zipIdx k).map fun p => .tuple [.int p.2, f p.1]
  | [], k => by simp [enumD]
  | x :: xs, k => by simp [enumD, enumD_typed f xs (k + 1)]
theorem cRun_zipT {as : List A} {bs : List B} (f : A → D) (f' : B → D) (g : A → B → D) (h : (own.all fun v => !isOwn env v) = true) (hl : as.length ≤ LINE)
    (ht : ∀ x ∈ as, ∀ y ∈ bs, cTurn Ph elt tg cs own (.tuple [f x, f' y]) (wipeF env own) = .ok (some (g x y), wipeF env own)) (hr : restore (wipeF env own) env own = env) : cRun Ph elt tg cs own (zipD (as.map f) (bs.map f')) env = .ok (.list (List.zipWith g as bs), env) := by
  rw [zipD_typed, cRun_typed (fun p : A × B => PyData.tuple [f p.1, f' p.2]) (fun p => g p.1 p.2) h (by rw [List.length_zip]; omega) (fun p hp => ht p.1 (zip_mem hp).1 p.2 (zip_mem hp).2) hr]
  congr 3
  rw [List.zip, List.map_zipWith]
/-- numbers from 0 on -/
theorem rangeD_nat (n : Nat) : rangeD 0 (n : Int) = (List.range n).map fun (i : Nat) => PyData.int i := by
  unfold rangeD
  simp
/-- a loop over what is typed: what is left, folded -/
theorem forLoop_fold {S : Type} {turn : D → Fram → Res (Flw × Fram)} (f : A → D) (step : S → A → S) (I : S → List A → Fram → Prop) (ht : ∀ s x xs e, I s (x :: xs) e → ∃ e', turn (f x) e = .ok (.nx, e') ∧ I (step s x) xs e') :
    ∀ {xs : List A} {s : S} {e : Fram}, I s xs e → ∃ e', forLoop turn (xs.map f) e = .ok (.nx, e') ∧ I (xs.foldl step s) [] e'
  | [], s, e, h => ⟨e, rfl, h⟩
  | x :: xs, s, e, h => by
    obtain ⟨e1, h1, h2⟩ := ht s x xs e h
    obtain ⟨e', h3, h4⟩ := forLoop_fold f step I ht h2
    exact ⟨e', by rw [List.map_cons, forLoop_cons, h1]; exact h3, h4⟩
end
end PV.M
set_option Elab.async false
set_option linter.all false
set_option maxRecDepth 100000
set_option maxHeartbeats 1000000
/-! PM, part H: polynomials told by what they are worth; slopes, new names. -/
namespace PV.M
open PySem PV
/-! ### a polynomial is told by its worths -/
theorem lin_out {φ : List Int → Rat} : ∀ {l : Pl}, (∀ p ∈ l, φ p.1 = 0) → lin φ l = 0
  | [], _ => rfl
  | p :: l, h => by
    simp only [lin]
    rw [h p (List.mem_cons_self ..), lin_out fun q hq => h q (List.mem_cons_of_mem _ hq)]
    grind
theorem aget_lin {k : List Int} : ∀ {l : Pl}, (keys l).Nodup → (aget l k).getD 0 = lin (fun x => if x = k then 1 else 0) l
  | [], _ => rfl
  | p :: l, hn => by
    have hn' : p.1 ∉ keys l ∧ (keys l).Nodup := List.nodup_cons.mp hn
    unfold aget
    simp only [lin]
    by_cases e : p.1 = k
    · rw [if_pos e, if_pos e, lin_out fun q hq => if_neg fun z => hn'.1 (by rw [e, ← z]; exact List.mem_map_of_mem (f := (·.1)) hq)]
      simp only [Option.getD_some]
      grind
    · rw [if_neg e, if_neg e, aget_lin hn'.2]
      grind
theorem mem_nz {l : Pl} {k : List Int} (hn : (keys l).Nodup) : k ∈ keys (nz l) ↔ (aget l k).getD 0 ≠ 0 := by
  constructor
  · intro h
    obtain ⟨p, hp, rfl⟩ := List.mem_map.mp h
    obtain ⟨h1, h2⟩ := List.mem_filter.mp hp
    rw [aget_of (q := p.2) hn h1]
    simpa using h2
  · intro h
    cases e : aget l k with
    | none =>
      rw [e] at h
      exact absurd rfl h
    | some q =>
      rw [e] at h
      exact List.mem_map.mpr ⟨(k, q), List.mem_filter.mpr ⟨aget_mem e, by simpa using h⟩, rfl⟩
theorem perm_of_nodup : ∀ {a b : List (List Int)}, a.Nodup → b.Nodup → (∀ x, x ∈ a ↔ x ∈ b) → a.Perm b := fun {a b} ha hb h => (List.perm_ext_iff_of_nodup ha hb).mpr h
theorem ord_eq {l m : Pl} (hl : (keys l).Nodup) (hm : (keys m).Nodup) (h : ∀ φ, lin φ l = lin φ m) : ord l = ord m := by
  have g : ∀ k, (aget l k).getD 0 = (aget m k).getD 0 := fun k => by rw [aget_lin hl, aget_lin hm, h]
  have pk : (keys (nz l)).Perm (keys (nz m)) := perm_of_nodup (nodup_nz hl) (nodup_nz hm) fun k => by rw [mem_nz hl, mem_nz hm, g]
  have ks : srt (keys (nz l)) = srt (keys (nz m)) := sorted_one ((srt_perm _).trans (pk.trans (srt_perm _).symm)) (srt_sorted (nodup_nz hl)) (srt_sorted (nodup_nz hm))
  unfold ord
  rw [ks]
  exact List.map_congr_left fun k _ => by rw [g]
theorem nodup_rgt {ks : List (List Int)} (h : ks.Pairwise rgt) : ks.Nodup := List.Pairwise.imp (R := rgt) (S := fun a b => a ≠ b) (fun {a b} z e => rgt_irrefl a (by rw [← e] at z; exact z)) h
theorem ord_self {l : Pl} (hs : (keys l).Pairwise rgt) (hz : ∀ p ∈ l, p.2 ≠ 0) : ord l = l := by
  have hn := nodup_rgt hs
  have e1 : nz l = l := List.filter_eq_self.mpr fun p hp => by simpa using hz p hp
  have e2 : srt (keys l) = keys l := sorted_one (srt_perm _) (srt_sorted hn) hs
  unfold ord
  rw [e1, e2]
  unfold keys
  rw [List.map_map]
  have : ∀ p ∈ l, ((fun k => (k, (aget l k).getD 0)) ∘ fun p : List Int × Rat => p.1) p = p := fun p hp => by
    show (p.1, (aget l p.1).getD 0) = p
    rw [aget_of (q := p.2) hn hp]
    rfl
  rw [List.map_congr_left this, List.map_id']
theorem nodup_ord {l : Pl} (hn : (keys l).Nodup) : (keys (ord l)).Nodup := nodup_rgt (ord_sorted hn)
theorem lin_add {φ ψ : List Int → Rat} : ∀ {l : Pl}, lin (fun k => φ k + ψ k) l = lin φ l + lin ψ l
  | [] => by simp only [lin]; grind
  | p :: l => by
    simp only [lin]
    rw [lin_add]
    grind
theorem lin_mul {φ : List Int → Rat} {c : Rat} : ∀ {l : Pl}, lin (fun k => c * φ k) l = c * lin φ l
  | [] => by simp only [lin]; grind
  | p :: l => by
    simp only [lin]
    rw [lin_mul]
    grind
/-! ### sums -/
def tadd (one two : Pl) : Pl := two.foldl (fun d q => acc d q.1 q.2) one
theorem lin_tadd {φ : List Int → Rat} : ∀ {two one : Pl}, lin φ (tadd one two) = lin φ one + lin φ two
  | [], one => by
    simp only [tadd, List.foldl_nil, lin]
    grind
  | q :: two, one => by
    have ih := lin_tadd (φ := φ) (two := two) (one := acc one q.1 q.2)
    unfold tadd at ih ⊢
    rw [List.foldl_cons, ih, lin_acc]
    simp only [lin]
    grind
theorem nodup_tadd : ∀ {two one : Pl}, (keys one).Nodup → (keys (tadd one two)).Nodup
  | [], _, h => h
  | q :: two, one, h => by
    unfold tadd
    rw [List.foldl_cons]
    exact nodup_tadd (two := two) (nodup_aput h)
theorem nodup_tmul (one two : Pl) : (keys (tmul one two)).Nodup := by
  have inner : ∀ (p : List Int × Rat) (two d : Pl), (keys d).Nodup → (keys (tinn p d two)).Nodup := fun p two => by
    induction two with
    | nil => exact fun d h => h
    | cons q two ih =>
      intro d h
      exact ih (acc d (kadd p.1 q.1) (p.2 * q.2)) (nodup_aput h)
  have : ∀ (one d : Pl), (keys d).Nodup → (keys (one.foldl (fun d p => tinn p d two) d)).Nodup := fun one => by
    induction one with
    | nil => exact fun d h => h
    | cons p one ih =>
      intro d h
      exact ih _ (inner p two d h)
  exact this one [] List.nodup_nil
/-! ### terms under other keys -/
def tmap (f : List Int → List Int) (w : List Int → Rat) (sel : List Int → Bool) (l : Pl) : Pl := l.foldl (fun d p => if sel p.1 = true then aput d (f p.1) (p.2 * w p.1) else d) []
section
variable {f : List Int → List Int} {w : List Int → Rat} {sel : List Int → Bool}
theorem nodup_tmap (l : Pl) : (keys (tmap f w sel l)).Nodup := by
  have : ∀ (l d : Pl), (keys d).Nodup → (keys (l.foldl (fun d p => if sel p.1 = true then aput d (f p.1) (p.2 * w p.1) else d) d)).Nodup := fun l => by
    induction l with
    | nil => exact fun d h => h
    | cons p l ih =>
      intro d h
      rw [List.foldl_cons]
      refine ih _ ?_
      split
      · exact nodup_aput h
      · exact h
  exact this l [] List.nodup_nil
theorem lin_tmap {φ : List Int → Rat} {l : Pl} (hn : (keys l).Nodup) (inj : ∀ p ∈ l, ∀ q ∈ l, sel p.1 = true → sel q.1 = true → f p.1 = f q.1 → p.1 = q.1) :
    lin φ (tmap f w sel l) = lin (fun k => if sel k = true then w k * φ (f k) else 0) l := by
  have : ∀ (l d : Pl), (keys l).Nodup → (∀ p ∈ l, ∀ q ∈ l, sel p.1 = true → sel q.1 = true → f p.1 = f q.1 → p.1 = q.1) → (∀ p ∈ l, sel p.1 = true → f p.1 ∉ keys d) →
      lin φ (l.foldl (fun d p => if sel p.1 = true then aput d (f p.1) (p.2 * w p.1) else d) d) = lin φ d + lin (fun k => if sel k = true then w k * φ (f k) else 0) l := fun l => by
    induction l with
    | nil =>
      intro d _ _ _
      simp only [List.foldl_nil, lin]
      grind
    | cons p l ih =>
      intro d hn inj out
      have hn' : p.1 ∉ keys l ∧ (keys l).Nodup := List.nodup_cons.mp hn
      rw [List.foldl_cons]
      have inj' : ∀ p ∈ l, ∀ q ∈ l, sel p.1 = true → sel q.1 = true → f p.1 = f q.1 → p.1 = q.1 := fun a ha b hb => inj a (List.mem_cons_of_mem _ ha) b (List.mem_cons_of_mem _ hb)
      simp only [lin]
      by_cases hs : sel p.1 = true
      · rw [if_pos hs, if_pos hs]
        have new := out p (List.mem_cons_self ..) hs
        rw [ih _ hn'.2 inj' (fun q hq hsq hm => ?_)]
        · rw [lin_aput, aget_none.mpr new]
          simp only [Option.getD_none]
          grind
        · rw [keys_aput, if_neg new] at hm
          rcases List.mem_append.mp hm with hm | hm
          · exact out q (List.mem_cons_of_mem _ hq) hsq hm
          · have e := List.mem_singleton.mp hm
            have := inj q (List.mem_cons_of_mem _ hq) p (List.mem_cons_self ..) hsq hs e
            exact hn'.1 (by rw [← this]; exact List.mem_map_of_mem (f := (·.1)) hq)
      · rw [if_neg hs, if_neg hs, ih d hn'.2 inj' fun q hq => out q (List.mem_cons_of_mem _ hq)]
        grind
  unfold tmap
  rw [this l [] hn inj (fun _ _ _ h => by cases h)]
  simp only [lin]
  grind
end
/-! ### slopes -/
def at0 (a : Nat) (k : List Int) : Int := k.getD a 0
def dec (a : Nat) (k : List Int) : List Int := k.set a (at0 a k - 1)
def tslope (a : Nat) (l : Pl) : Pl := tmap (dec a) (fun k => (at0 a k : Rat)) (fun k => decide (0 < at0 a k)) l
def wslope (a : Nat) (φ : List Int → Rat) (k : List Int) : Rat := if decide (0 < at0 a k) = true then (at0 a k : Rat) * φ (dec a k) else 0
theorem at0_get {a : Nat} {k : List Int} (h : a < k.length) : at0 a k = k[a] := by
  unfold at0
  rw [List.getD_eq_getElem?_getD, List.getElem?_eq_getElem h]
  rfl
theorem dec_inj {a n : Nat} {k m : List Int} (hk : k.length = n) (hm : m.length = n) (ha : a < n) (h : dec a k = dec a m) : k = m := by
  apply List.ext_getElem (by omega)
  intro i h1 h2
  have e : (dec a k)[i]'(by unfold dec; simpa using h1) = (dec a m)[i]'(by unfold dec; simpa using h2) := by simp [h]
  unfold dec at e
  rw [List.getElem_set, List.getElem_set] at e
  by_cases hi : a = i
  · subst hi
    rw [if_pos rfl, if_pos rfl, at0_get (by omega), at0_get (by omega)] at e
    omega
  · rw [if_neg hi, if_neg hi] at e
    exact e
theorem lin_tslope {φ : List Int → Rat} {a n : Nat} {l : Pl} (hn : (keys l).Nodup) (hf : Fit n l) (ha : a < n) : lin φ (tslope a l) = lin (wslope a φ) l :=
  lin_tmap hn fun p hp q hq _ _ e => dec_inj (hf p hp).1 (hf q hq).1 ha e
theorem kadd_len {a b : List Int} (h : a.length = b.length) : (kadd a b).length = a.length := by
  unfold kadd
  rw [List.length_zipWith]
  omega
theorem at0_kadd {i : Nat} {a b : List Int} (h : a.length = b.length) (hi : i < a.length) : at0 i (kadd a b) = at0 i a + at0 i b := by
  rw [at0_get (by rw [kadd_len h]; exact hi), at0_get hi, at0_get (by omega)]
  unfold kadd
  rw [List.getElem_zipWith]
theorem dec_left {i : Nat} {a b : List Int} (h : a.length = b.length) (hi : i < a.length) : kadd (dec i a) b = dec i (kadd a b) := by
  have e := at0_kadd h hi
  have eb := at0_get (a := i) (k := b) (by omega)
  have ea := at0_get (a := i) (k := a) hi
  unfold dec
  rw [e, ea, eb]
  unfold kadd
  apply List.ext_getElem
  · simp
  · intro j h1 h2
    simp only [List.getElem_zipWith, List.getElem_set]
    split
    · rename_i z
      subst z
      omega
    · rfl
theorem kadd_comm (a b : List Int) : kadd a b = kadd b a := by
  unfold kadd
  rw [List.zipWith_comm]
  congr
  funext x y
  omega
theorem dec_right {i : Nat} {a b : List Int} (h : a.length = b.length) (hi : i < a.length) : kadd a (dec i b) = dec i (kadd a b) := by
  rw [kadd_comm, dec_left h.symm (by omega), kadd_comm]
theorem nodup_tslope (a : Nat) (l : Pl) : (keys (tslope a l)).Nodup := nodup_tmap l
/-- a product's slope -/
theorem slope_mul {a n : Nat} {one two : Pl} (h1 : Fit n one) (h2 : Fit n two) (n1 : (keys one).Nodup) (n2 : (keys two).Nodup) (hf : Fit n (ord (tmul one two))) (ha : a < n) :
    ord (tslope a (ord (tmul one two))) = ord (tadd (ord (tmul (ord (tslope a one)) two)) (ord (tmul one (ord (tslope a two))))) := by
  have nm := nodup_tmul one two
  refine ord_eq (nodup_tslope _ _) (nodup_tadd (nodup_ord (nodup_tmul _ _))) fun φ => ?_
  rw [lin_tslope (nodup_ord nm) hf ha, lin_ord nm, lin_tmul, lin_tadd, lin_ord (nodup_tmul _ _), lin_ord (nodup_tmul _ _), lin_tmul, lin_tmul, lin_ord (nodup_tslope _ _), lin_tslope n1 h1 ha, ← lin_add]
  refine lin_congr fun p hp => ?_
  show _ = wslope a (fun x => lin (fun y => φ (kadd x y)) two) p.1 + lin (fun y => φ (kadd p.1 y)) (ord (tslope a two))
  rw [lin_ord (nodup_tslope _ _), lin_tslope n2 h2 ha]
  obtain ⟨l1, z1⟩ := h1 p hp
  have e : wslope a (fun x => lin (fun y => φ (kadd x y)) two) p.1 = lin (fun y => if decide (0 < at0 a p.1) = true then (at0 a p.1 : Rat) * φ (kadd (dec a p.1) y) else 0) two := by
    unfold wslope
    split
    · rw [← lin_mul]
    · rw [lin_out fun q _ => rfl]
  rw [e, ← lin_add]
  refine lin_congr fun q hq => ?_
  obtain ⟨l2, z2⟩ := h2 q hq
  have len : p.1.length = q.1.length := by omega
  unfold wslope
  show _ = _ + if decide (0 < at0 a q.1) = true then (at0 a q.1 : Rat) * φ (kadd p.1 (dec a q.1)) else 0
  rw [dec_left len (by omega), dec_right len (by omega), at0_kadd len (by omega)]
  have p0 : 0 ≤ at0 a p.1 := by
    rw [at0_get (by omega)]
    exact z1 _ (List.getElem_mem _)
  have q0 : 0 ≤ at0 a q.1 := by
    rw [at0_get (by omega)]
    exact z2 _ (List.getElem_mem _)
  generalize at0 a p.1 = x at *
  generalize at0 a q.1 = y at *
  generalize φ (dec a (kadd p.1 q.1)) = z
  have c : ((x + y : Int) : Rat) = (x : Rat) + (y : Rat) := Rat.intCast_add x y
  by_cases hx : 0 < x <;> by_cases hy : 0 < y
  · rw [if_pos (decide_eq_true (by omega)), if_pos (decide_eq_true hx), if_pos (decide_eq_true hy), c]
    grind
  · have : y = 0 := by omega
    subst this
    rw [if_pos (decide_eq_true (by omega)), if_pos (decide_eq_true hx), if_neg (by simp), Int.add_zero]
    grind
  · have : x = 0 := by omega
    subst this
    rw [if_pos (decide_eq_true (by omega)), if_neg (by simp), if_pos (decide_eq_true hy), Int.zero_add]
    grind
  · rw [if_neg (by simp; omega), if_neg (by simp; omega), if_neg (by simp; omega)]
    grind
/-- a sum's slope -/
theorem slope_add {a n : Nat} {one two : Pl} (h1 : Fit n one) (h2 : Fit n two) (n1 : (keys one).Nodup) (n2 : (keys two).Nodup) (hf : Fit n (ord (tadd one two))) (ha : a < n) :
    ord (tslope a (ord (tadd one two))) = ord (tadd (ord (tslope a one)) (ord (tslope a two))) := by
  have nm := nodup_tadd (two := two) n1
  refine ord_eq (nodup_tslope _ _) (nodup_tadd (nodup_ord (nodup_tslope _ _))) fun φ => ?_
  rw [lin_tslope (nodup_ord nm) hf ha, lin_ord nm, lin_tadd, lin_tadd, lin_ord (nodup_tslope _ _), lin_ord (nodup_tslope _ _), lin_tslope n1 h1 ha, lin_tslope n2 h2 ha]
theorem dec_comm {a b : Nat} {k : List Int} (h : a ≠ b) (ha : a < k.length) (hb : b < k.length) : dec a (dec b k) = dec b (dec a k) ∧ at0 a (dec b k) = at0 a k := by
  have e : ∀ {a b : Nat}, a ≠ b → a < k.length → b < k.length → at0 a (dec b k) = at0 a k := fun {a b} h ha hb => by
    rw [at0_get (by unfold dec; simpa using ha), at0_get ha]
    unfold dec
    rw [List.getElem_set_ne (by omega)]
  refine ⟨?_, e h ha hb⟩
  unfold dec
  rw [show at0 a (k.set b (at0 b k - 1)) = at0 a k from e h ha hb, show at0 b (k.set a (at0 a k - 1)) = at0 b k from e (fun z => h z.symm) hb ha, List.set_comm _ _ (fun z => h z.symm)]
/-- two slopes, one after the other -/
theorem slope_comm {a b n : Nat} {l : Pl} (hl : Fit n l) (hn : (keys l).Nodup) (h : a ≠ b) (ha : a < n) (hb : b < n) (fa : Fit n (ord (tslope a l))) (fb : Fit n (ord (tslope b l))) :
    ord (tslope b (ord (tslope a l))) = ord (tslope a (ord (tslope b l))) := by
  refine ord_eq (nodup_tslope _ _) (nodup_tslope _ _) fun φ => ?_
  rw [lin_tslope (nodup_ord (nodup_tslope _ _)) fa hb, lin_tslope (nodup_ord (nodup_tslope _ _)) fb ha, lin_ord (nodup_tslope _ _), lin_ord (nodup_tslope _ _), lin_tslope hn hl ha, lin_tslope hn hl hb]
  refine lin_congr fun p hp => ?_
  obtain ⟨l1, z1⟩ := hl p hp
  obtain ⟨c1, c2⟩ := dec_comm (a := a) (b := b) (k := p.1) h (by omega) (by omega)
  obtain ⟨_, c3⟩ := dec_comm (a := b) (b := a) (k := p.1) (fun z => h z.symm) (by omega) (by omega)
  unfold wslope
  rw [c2, c3, c1]
  by_cases hx : 0 < at0 a p.1 <;> by_cases hy : 0 < at0 b p.1 <;> simp [hx, hy]
  grind
/-! ### new names -/
def ren (is : List Nat) (k : List Int) : List Int := is.map fun i => at0 i k
def tren (is : List Nat) (l : Pl) : Pl := tmap (ren is) (fun _ => 1) (fun _ => true) l
theorem lin_tren {φ : List Int → Rat} {is : List Nat} {n : Nat} {l : Pl} (hn : (keys l).Nodup) (hf : Fit n l) (inj : ∀ k m : List Int, k.length = n → m.length = n → ren is k = ren is m → k = m) : lin φ (tren is l) = lin (fun k => φ (ren is k)) l := by
  unfold tren
  rw [lin_tmap hn fun p hp q hq _ _ e => inj _ _ (hf p hp).1 (hf q hq).1 e]
  refine lin_congr fun p _ => ?_
  rw [if_pos rfl]
  grind
end PV.M
set_option Elab.async false
set_option linter.all false
set_option maxRecDepth 100000
set_option maxHeartbeats 1000000
/-! PM, part I: what a polynomial is worth. -/
namespace PV.M
open PySem PV
def pwq (x : Rat) : Nat → Rat
  | 0 => 1
  | n + 1 => pwq x n * x
def wm : List Int → List Rat → Rat
  | k :: ks, x :: xs => pwq x k.toNat * wm ks xs
  | _, _ => 1
def wstep (q : Rat) (p : Int × Rat) : Rat := q * pwq p.2 p.1.toNat
theorem fold_wm : ∀ (ks : List Int) (xs : List Rat) (q : Rat), (ks.zip xs).foldl wstep q = q * wm ks xs
  | [], xs, q => by simp only [List.zip_nil_left, List.foldl_nil, wm]; grind
  | k :: ks, [], q => by simp only [List.zip_nil_right, List.foldl_nil, wm]; grind
  | k :: ks, x :: xs, q => by
    rw [List.zip_cons_cons, List.foldl_cons, fold_wm ks xs]
    simp only [wm, wstep]
    grind
theorem fold_lin (φ : List Int → Rat) : ∀ (l : Pl) (s : Rat), l.foldl (fun s p => s + p.2 * φ p.1) s = s + lin φ l
  | [], s => by simp only [List.foldl_nil, lin]; grind
  | p :: l, s => by
    rw [List.foldl_cons, fold_lin φ l]
    simp only [lin]
    grind
theorem BS.pwq {x : Rat} (h : BS 1 1 x) : ∀ n, BS n 1 (PV.M.pwq x n)
  | 0 => BS.one (by omega)
  | n + 1 => by
    have := (BS.pwq h n).mul h
    rw [Nat.mul_one] at this
    exact this
/-- a product, whatever its order -/
def prodR (l : List Rat) : Rat := l.foldr (· * ·) 1
theorem prodR_perm {a b : List Rat} (h : a.Perm b) : prodR a = prodR b := by
  induction h with
  | nil => rfl
  | cons x _ ih =>
    show x * prodR _ = x * prodR _
    rw [ih]
  | swap x y l =>
    show y * (x * prodR l) = x * (y * prodR l)
    grind
  | trans _ _ a b => rw [a, b]
theorem wm_prod : ∀ (ks : List Int) (xs : List Rat), wm ks xs = prodR ((ks.zip xs).map fun p => pwq p.2 p.1.toNat)
  | [], xs => by simp only [wm, List.zip_nil_left, List.map_nil]; rfl
  | k :: ks, [] => by simp only [wm, List.zip_nil_right, List.map_nil]; rfl
  | k :: ks, x :: xs => by
    simp only [wm, List.zip_cons_cons, List.map_cons]
    rw [wm_prod ks xs]
    rfl
/-- rows led alike: the same worth -/
theorem wm_ren {is : List Nat} {ks : List Int} {xs : List Rat} (hp : is.Perm (List.range ks.length)) (h : ks.length = xs.length) : wm (ren is ks) (is.map fun i => xs.getD i 0) = wm ks xs := by
  rw [wm_prod, wm_prod]
  apply prodR_perm
  have e : (ren is ks).zip (is.map fun i => xs.getD i 0) = is.map fun i => (at0 i ks, xs.getD i 0) := by
    unfold ren
    rw [List.zip_map']
  have e2 : ks.zip xs = (List.range ks.length).map fun i => (at0 i ks, xs.getD i 0) := by
    apply List.ext_getElem
    · simp
      omega
    · intro i h1 h2
      simp only [List.length_zip] at h1
      rw [List.getElem_zip, List.getElem_map, List.getElem_range, at0_get (by omega), List.getD_eq_getElem?_getD, List.getElem?_eq_getElem (by omega)]
      rfl
  rw [e, e2]
  exact (hp.map _).map _
end PV.M
set_option Elab.async false
set_option linter.all false
set_option maxRecDepth 100000
set_option maxHeartbeats 1000000
/-! PM, part K: products are not nought; polynomials told apart by a grid. -/
namespace PV.M
open PySem PV
/-! ### sums with a factor -/
def taddc (c : Rat) (one two : Pl) : Pl := two.foldl (fun d q => acc d q.1 (c * q.2)) one
def tneg (l : Pl) : Pl := l.map fun p => (p.1, -p.2)
theorem tadd_one (one two : Pl) : taddc 1 one two = tadd one two := by
  unfold taddc tadd
  congr 1
  funext d q
  rw [Rat.one_mul]
theorem tadd_neg (one two : Pl) : tadd one (tneg two) = taddc (-1) one two := by
  unfold taddc tadd tneg
  rw [List.foldl_map]
  congr 1
  funext d q
  congr 1
  grind
/-! ### an order of powers -/
def llt : List Int → List Int → Bool
  | a :: as, b :: bs => decide (a < b) || (decide (a = b) && llt as bs)
  | _, _ => false
theorem llt_irrefl : ∀ a, llt a a = false
  | [] => rfl
  | x :: a => by simp [llt, llt_irrefl a]
theorem llt_tri : ∀ {a b : List Int}, a.length = b.length → a = b ∨ llt a b = true ∨ llt b a = true
  | [], [], _ => .inl rfl
  | x :: a, y :: b, h => by
    simp only [llt, Bool.or_eq_true, Bool.and_eq_true, decide_eq_true_eq]
    rcases Int.lt_trichotomy x y with z | z | z
    · exact .inr (.inl (.inl z))
    · subst z
      rcases llt_tri (a := a) (b := b) (by simpa using h) with rfl | z | z
      · exact .inl rfl
      · exact .inr (.inl (.inr ⟨rfl, z⟩))
      · exact .inr (.inr (.inr ⟨rfl, z⟩))
    · exact .inr (.inr (.inl z))
  | [], _ :: _, h => by simp at h
  | _ :: _, [], h => by simp at h
theorem llt_trans : ∀ {a b c : List Int}, llt a b = true → llt b c = true → llt a c = true
  | x :: a, y :: b, z :: c, h, h' => by
    simp only [llt, Bool.or_eq_true, Bool.and_eq_true, decide_eq_true_eq] at h h' ⊢
    rcases h with h | ⟨h, i⟩ <;> rcases h' with h' | ⟨h', i'⟩
    · exact .inl (by omega)
    · exact .inl (by omega)
    · exact .inl (by omega)
    · exact .inr ⟨by omega, llt_trans i i'⟩
  | [], _, _, h, _ => by simp [llt] at h
  | _ :: _, [], _, h, _ => by simp [llt] at h
  | _ :: _, _ :: _, [], _, h => by simp [llt] at h
theorem llt_kadd : ∀ {a b c : List Int}, a.length = c.length → b.length = c.length → llt a b = true → llt (kadd a c) (kadd b c) = true
  | x :: a, y :: b, z :: c, h1, h2, h => by
    have e : ∀ (x z : Int) (a c : List Int), kadd (x :: a) (z :: c) = (x + z) :: kadd a c := fun _ _ _ _ => rfl
    rw [e, e]
    simp only [llt, Bool.or_eq_true, Bool.and_eq_true, decide_eq_true_eq] at h ⊢
    rcases h with h | ⟨h, i⟩
    · exact .inl (by omega)
    · exact .inr ⟨by omega, llt_kadd (by simpa using h1) (by simpa using h2) i⟩
  | [], b, c, h1, h2, h => by simp [llt] at h
  | _ :: _, [], c, h1, h2, h => by simp [llt] at h
  | _ :: _, _ :: _, [], h1, h2, h => by simp at h1
theorem llt_max {n : Nat} : ∀ {l : Pl}, l ≠ [] → (∀ p ∈ l, p.1.length = n) → ∃ m ∈ l, ∀ p ∈ l, p.1 = m.1 ∨ llt p.1 m.1 = true
  | [], h, _ => absurd rfl h
  | [p], _, _ => ⟨p, List.mem_cons_self .., fun q hq => .inl (by rw [List.mem_singleton.mp hq])⟩
  | p :: q :: l, _, hl => by
    obtain ⟨m, hm, h⟩ := llt_max (l := q :: l) (by simp) fun x hx => hl x (List.mem_cons_of_mem _ hx)
    rcases llt_tri (a := p.1) (b := m.1) (by rw [hl p (List.mem_cons_self ..), hl m (List.mem_cons_of_mem _ hm)]) with e | e | e
    · refine ⟨m, List.mem_cons_of_mem _ hm, fun x hx => ?_⟩
      rcases List.mem_cons.mp hx with rfl | hx
      · exact .inl e
      · exact h x hx
    · refine ⟨m, List.mem_cons_of_mem _ hm, fun x hx => ?_⟩
      rcases List.mem_cons.mp hx with rfl | hx
      · exact .inr e
      · exact h x hx
    · refine ⟨p, List.mem_cons_self .., fun x hx => ?_⟩
      rcases List.mem_cons.mp hx with rfl | hx
      · exact .inl rfl
      · rcases h x hx with z | z
        · exact .inr (by rw [z]; exact e)
        · exact .inr (llt_trans z e)
theorem lin_one {φ : List Int → Rat} {k : List Int} {q : Rat} : ∀ {l : Pl}, (keys l).Nodup → (k, q) ∈ l → (∀ p ∈ l, p.1 ≠ k → φ p.1 = 0) → lin φ l = q * φ k
  | [], _, h, _ => by cases h
  | p :: l, hn, h, h0 => by
    have hn' : p.1 ∉ keys l ∧ (keys l).Nodup := List.nodup_cons.mp hn
    simp only [lin]
    rcases List.mem_cons.mp h with h | h
    · subst h
      rw [lin_out fun p hp => h0 p (List.mem_cons_of_mem _ hp) fun e => hn'.1 (by rw [← e]; exact List.mem_map_of_mem (f := (·.1)) hp)]
      grind
    · rw [lin_one hn'.2 h fun p hp => h0 p (List.mem_cons_of_mem _ hp), h0 p (List.mem_cons_self ..) fun e => hn'.1 (by rw [e]; exact List.mem_map_of_mem (f := (·.1)) h)]
      grind
theorem ord_nil : ord [] = [] := by simp [ord, nz, keys, srt]
/-- a product is nought only if one of both is -/
theorem mul_nought {n : Nat} {one two : Pl} (h1 : Fit n one) (h2 : Fit n two) (n1 : (keys one).Nodup) (n2 : (keys two).Nodup) (z1 : ∀ p ∈ one, p.2 ≠ 0) (z2 : ∀ p ∈ two, p.2 ≠ 0) : ord (tmul one two) = [] ↔ one = [] ∨ two = [] := by
  constructor
  · intro h
    by_cases e1 : one = []
    · exact .inl e1
    by_cases e2 : two = []
    · exact .inr e2
    exfalso
    obtain ⟨a, ha, ma⟩ := llt_max e1 fun p hp => (h1 p hp).1
    obtain ⟨b, hb, mb⟩ := llt_max e2 fun p hp => (h2 p hp).1
    have la := (h1 a ha).1
    have lb := (h2 b hb).1
    have key : ∀ p ∈ one, ∀ q ∈ two, kadd p.1 q.1 = kadd a.1 b.1 → p.1 = a.1 ∧ q.1 = b.1 := by
      intro p hp q hq e
      have lp := (h1 p hp).1
      have lq := (h2 q hq).1
      have hq2 : q.1 = b.1 ∨ llt (kadd a.1 q.1) (kadd a.1 b.1) = true := (mb q hq).imp id fun z => by
        rw [kadd_comm a.1 q.1, kadd_comm a.1 b.1]
        exact llt_kadd (by omega) (by omega) z
      rcases ma p hp with z | z
      · refine ⟨z, ?_⟩
        rcases hq2 with w | w
        · exact w
        · rw [show kadd a.1 q.1 = kadd p.1 q.1 by rw [z], e, llt_irrefl] at w
          cases w
      · have s := llt_kadd (c := q.1) (by omega) (by omega) z
        rcases hq2 with w | w
        · rw [w] at s e
          rw [e, llt_irrefl] at s
          cases s
        · have s2 := llt_trans s w
          rw [e, llt_irrefl] at s2
          cases s2
    have val : lin (fun k => if k = kadd a.1 b.1 then (1 : Rat) else 0) (tmul one two) = a.2 * b.2 := by
      rw [lin_tmul, lin_one (k := a.1) (q := a.2) n1 ha fun p hp ne => lin_out fun q hq => if_neg fun e => ne (key p hp q hq e).1]
      rw [lin_one (k := b.1) (q := b.2) n2 hb fun q hq ne => if_neg fun e => ne (key a ha q hq e).2]
      rw [if_pos rfl]
      grind
    have nm := nodup_tmul one two
    have ne : (aget (tmul one two) (kadd a.1 b.1)).getD 0 ≠ 0 := by
      rw [aget_lin nm, val]
      intro z
      rcases Rat.mul_eq_zero.mp z with z | z
      · exact z1 a ha z
      · exact z2 b hb z
    have mem := (mem_nz nm).mpr ne
    have := (srt_perm (keys (nz (tmul one two)))).mem_iff.mpr mem
    rw [← keys_ord, h] at this
    cases this
  · rintro (rfl | rfl)
    · exact ord_nil
    · have : ∀ one : Pl, one.foldl (fun d p => tinn p d []) ([] : Pl) = [] := fun one => by
        induction one with
        | nil => rfl
        | cons p one ih =>
          rw [List.foldl_cons]
          exact ih
      show ord (one.foldl (fun d p => tinn p d []) []) = []
      rw [this]
      exact ord_nil
end PV.M
set_option Elab.async false
set_option linter.all false
set_option maxRecDepth 100000
set_option maxHeartbeats 1000000
/-! PM, part L: polynomials told apart by the worths at a grid. -/
namespace PV.M
open PySem PV
/-- by what numbers the worths at 0 .. T are added, that a power may be told -/
def ivTab : List (List (List Rat)) := [[[(1 : Rat)]],
  [[(1 : Rat), (0 : Rat)], [(-1 : Rat), (1 : Rat)]],
  [[(1 : Rat), (0 : Rat), (0 : Rat)], [(-3 : Rat) / 2, (2 : Rat), (-1 : Rat) / 2], [(1 : Rat) / 2, (-1 : Rat), (1 : Rat) / 2]],
  [[(1 : Rat), (0 : Rat), (0 : Rat), (0 : Rat)], [(-11 : Rat) / 6, (3 : Rat), (-3 : Rat) / 2, (1 : Rat) / 3], [(1 : Rat), (-5 : Rat) / 2, (2 : Rat), (-1 : Rat) / 2], [(-1 : Rat) / 6, (1 : Rat) / 2, (-1 : Rat) / 2, (1 : Rat) / 6]],
  [[(1 : Rat), (0 : Rat), (0 : Rat), (0 : Rat), (0 : Rat)], [(-25 : Rat) / 12, (4 : Rat), (-3 : Rat), (4 : Rat) / 3, (-1 : Rat) / 4], [(35 : Rat) / 24, (-13 : Rat) / 3, (19 : Rat) / 4, (-7 : Rat) / 3, (11 : Rat) / 24], [(-5 : Rat) / 12, (3 : Rat) / 2, (-2 : Rat), (7 : Rat) / 6, (-1 : Rat) / 4], [(1 : Rat) / 24, (-1 : Rat) / 6, (1 : Rat) / 4, (-1 : Rat) / 6, (1 : Rat) / 24]]]
def iv (T j x : Nat) : Rat := ((ivTab.getD T []).getD j []).getD x 0
def nq (x : Nat) : Rat := ((x : Int) : Rat)
def powsum (T i j : Nat) : Rat := ((List.range (T + 1)).map fun x => iv T j x * pwq (nq x) i).sum
theorem iv_all : ((List.range 5).all fun T => (List.range (T + 1)).all fun i => (List.range (T + 1)).all fun j => decide (powsum T i j = if i = j then 1 else 0)) = true := by decide +kernel
theorem iv_ok {T i j : Nat} (hT : T ≤ 4) (hi : i ≤ T) (hj : j ≤ T) : powsum T i j = if i = j then 1 else 0 := by
  have h := iv_all
  rw [List.all_eq_true] at h
  have h1 := h T (List.mem_range.mpr (by omega))
  rw [List.all_eq_true] at h1
  have h2 := h1 i (List.mem_range.mpr (by omega))
  rw [List.all_eq_true] at h2
  exact of_decide_eq_true (h2 j (List.mem_range.mpr (by omega)))
def Box (T N : Nat) (k : List Int) : Prop := k.length = N ∧ ∀ x ∈ k, 0 ≤ x ∧ x ≤ T
def Grid (T N : Nat) (r : List Nat) : Prop := r.length = N ∧ ∀ x ∈ r, x ≤ T
def tot (cs : List (Rat × List Nat)) (k : List Int) : Rat := (cs.map fun p => p.1 * wm k (p.2.map nq)).sum
theorem sum_app (a b : List Rat) : (a ++ b).sum = a.sum + b.sum := by
  induction a with
  | nil =>
    simp only [List.nil_append, List.sum_nil]
    grind
  | cons x a ih =>
    rw [List.cons_append, List.sum_cons, List.sum_cons, ih]
    grind
theorem tot_step {k : Int} {ks : List Int} {c : Rat} {x : Nat} : ∀ cs : List (Rat × List Nat), tot (cs.map fun p => (c * p.1, x :: p.2)) (k :: ks) = c * pwq (nq x) k.toNat * tot cs ks
  | [] => by
    simp only [tot, List.map_nil, List.sum_nil]
    grind
  | p :: cs => by
    have := tot_step (k := k) (ks := ks) (c := c) (x := x) cs
    unfold tot at this ⊢
    simp only [List.map_cons, List.sum_cons] at this ⊢
    rw [this]
    simp only [wm]
    grind
theorem tot_all {k : Int} {ks : List Int} {c : Nat → Rat} {cs : List (Rat × List Nat)} : ∀ xs : List Nat, tot (xs.flatMap fun x => cs.map fun p => (c x * p.1, x :: p.2)) (k :: ks) = (xs.map fun x => c x * pwq (nq x) k.toNat).sum * tot cs ks
  | [] => by
    simp only [List.flatMap_nil, tot, List.map_nil, List.sum_nil]
    grind
  | x :: xs => by
    have := tot_all (k := k) (ks := ks) (c := c) (cs := cs) xs
    rw [List.flatMap_cons, List.map_cons, List.sum_cons]
    rw [show tot ((cs.map fun p => (c x * p.1, x :: p.2)) ++ xs.flatMap fun x => cs.map fun p => (c x * p.1, x :: p.2)) (k :: ks) = tot (cs.map fun p => (c x * p.1, x :: p.2)) (k :: ks) + tot (xs.flatMap fun x => cs.map fun p => (c x * p.1, x :: p.2)) (k :: ks) by
      unfold tot
      rw [List.map_append, sum_app], this, tot_step]
    grind
/-- a coefficient is told by the worths at the grid -/
theorem told {T : Nat} (hT : T ≤ 4) : ∀ {N : Nat} {k : List Int}, Box T N k → ∃ cs : List (Rat × List Nat), (∀ p ∈ cs, Grid T N p.2) ∧ ∀ m, Box T N m → tot cs m = if m = k then 1 else 0
  | 0, k, h => by
    refine ⟨[(1, [])], fun p hp => by rw [List.mem_singleton.mp hp]; exact ⟨rfl, fun x hx => by cases hx⟩, fun m hm => ?_⟩
    have e1 := List.eq_nil_of_length_eq_zero h.1
    have e2 := List.eq_nil_of_length_eq_zero hm.1
    subst e1 e2
    rw [if_pos rfl]
    simp only [tot, List.map_cons, List.map_nil, wm, List.sum_cons, List.sum_nil]
    grind
  | N + 1, [], h => by
    have := h.1
    simp at this
  | N + 1, j :: ks, h => by
    obtain ⟨j0, j1⟩ := h.2 j (List.mem_cons_self ..)
    obtain ⟨cs, c1, c2⟩ := told hT (N := N) (k := ks) ⟨by simpa using h.1, fun x hx => h.2 x (List.mem_cons_of_mem _ hx)⟩
    refine ⟨(List.range (T + 1)).flatMap fun x => cs.map fun p => (iv T j.toNat x * p.1, x :: p.2), fun p hp => ?_, fun m hm => ?_⟩
    · obtain ⟨x, hx, hp⟩ := List.mem_flatMap.mp hp
      obtain ⟨q, hq, rfl⟩ := List.mem_map.mp hp
      have g := c1 q hq
      have := List.mem_range.mp hx
      refine ⟨by simp [g.1], fun y hy => ?_⟩
      rcases List.mem_cons.mp hy with rfl | hy
      · omega
      · exact g.2 y hy
    · match m, hm with
      | i :: ms, hm =>
        obtain ⟨i0, i1⟩ := hm.2 i (List.mem_cons_self ..)
        rw [tot_all, c2 ms ⟨by simpa using hm.1, fun x hx => hm.2 x (List.mem_cons_of_mem _ hx)⟩]
        rw [show ((List.range (T + 1)).map fun x => iv T j.toNat x * pwq (nq x) i.toNat).sum = powsum T i.toNat j.toNat from rfl, iv_ok hT (by omega) (by omega)]
        by_cases e1 : i = j
        · subst e1
          rw [if_pos rfl]
          by_cases e2 : ms = ks
          · subst e2
            rw [if_pos rfl, if_pos rfl]
            grind
          · rw [if_neg e2, if_neg (by simpa using e2)]
            grind
        · rw [if_neg (show ¬ i.toNat = j.toNat by omega), if_neg (show ¬ (i :: ms = j :: ks) from fun z => e1 (List.cons.inj z).1)]
          grind
      | [], hm =>
        have := hm.1
        simp at this
theorem lin_tot {l : Pl} : ∀ cs : List (Rat × List Nat), lin (fun k => tot cs k) l = (cs.map fun p => p.1 * lin (fun k => wm k (p.2.map nq)) l).sum
  | [] => by
    rw [List.map_nil, List.sum_nil]
    exact lin_out fun p hp => rfl
  | p :: cs => by
    rw [List.map_cons, List.sum_cons, ← lin_tot cs, ← lin_mul, ← lin_add]
    refine lin_congr fun q hq => ?_
    simp only [tot, List.map_cons, List.sum_cons]
theorem ord_get {l m : Pl} (hl : (keys l).Nodup) (hm : (keys m).Nodup) (g : ∀ k, (aget l k).getD 0 = (aget m k).getD 0) : ord l = ord m := by
  have pk : (keys (nz l)).Perm (keys (nz m)) := perm_of_nodup (nodup_nz hl) (nodup_nz hm) fun k => by rw [mem_nz hl, mem_nz hm, g]
  have ks : srt (keys (nz l)) = srt (keys (nz m)) := sorted_one ((srt_perm _).trans (pk.trans (srt_perm _).symm)) (srt_sorted (nodup_nz hl)) (srt_sorted (nodup_nz hm))
  unfold ord
  rw [ks]
  exact List.map_congr_left fun k _ => by rw [g]
/-- two polynomials that agree at the grid are the same -/
theorem grid_same {T N : Nat} {one two : Pl} (hT : T ≤ 4) (b1 : ∀ p ∈ one, Box T N p.1) (b2 : ∀ p ∈ two, Box T N p.1) (s1 : (keys one).Pairwise rgt) (s2 : (keys two).Pairwise rgt) (z1 : ∀ p ∈ one, p.2 ≠ 0) (z2 : ∀ p ∈ two, p.2 ≠ 0)
    (h : ∀ r, Grid T N r → lin (fun k => wm k (r.map nq)) one = lin (fun k => wm k (r.map nq)) two) : one = two := by
  have n1 := nodup_rgt s1
  have n2 := nodup_rgt s2
  have e := ord_get n1 n2 fun k => by
    by_cases hb : Box T N k
    · obtain ⟨cs, c1, c2⟩ := told hT hb
      have t : ∀ {l : Pl}, (keys l).Nodup → (∀ p ∈ l, Box T N p.1) → (aget l k).getD 0 = (cs.map fun p => p.1 * lin (fun k => wm k (p.2.map nq)) l).sum := fun {l} hn hl => by
        rw [aget_lin hn, ← lin_tot]
        exact lin_congr fun p hp => (c2 p.1 (hl p hp)).symm
      rw [t n1 b1, t n2 b2]
      congr 1
      exact List.map_congr_left fun p hp => by rw [h p.2 (c1 p hp)]
    · have t : ∀ {l : Pl}, (∀ p ∈ l, Box T N p.1) → aget l k = none := fun {l} hl => aget_none.mpr fun hk => by
        obtain ⟨p, hp, e⟩ := List.mem_map.mp hk
        exact hb (by rw [← e]; exact hl p hp)
      rw [t b1, t b2]
  rw [ord_self s1 z1, ord_self s2 z2] at e
  exact e
end PV.M
set_option Elab.async false
set_option linter.all false
set_option maxRecDepth 100000
set_option maxHeartbeats 0
/-! PV: the defs of k12. -/
namespace PV.K12
open PySem PV.M
def b_is_whole : Sts :=
  (.cons (.ret (.conj (.cons (.isi (.var 0) .int) (.cons (.nott (.isi (.var 0) .bool)) .nil))))
  .nil)
def f_is_whole : Def := { name := "is_whole", params := 1, N := ["value"], br := false, fresh := false, body := b_is_whole }
def b_is_between : Sts :=
  (.cons (.ret (.conj (.cons (.call "is_whole" false (.cons (.var 0) .nil)) (.cons (.cmp2 .le .le (.var 1) (.var 0) (.var 2)) .nil))))
  .nil)
def f_is_between : Def := { name := "is_between", params := 3, N := ["value", "low", "high"], br := false, fresh := false, body := b_is_between }
def b_is_ratio : Sts :=
  (.cons (.iff (.disj (.cons (.nott (.isi (.var 0) .tuple)) (.cons (.cmp .ne (.blt .len (.cons (.var 0) .nil)) (.int 2)) (.cons (.nott (.call "is_whole" false (.cons (.idx (.var 0) (.int 0)) .nil))) (.cons (.nott (.call "is_whole" false (.cons (.idx (.var 0) (.int 1)) .nil))) .nil))))) (.cons (.ret (.bl false))
  .nil) .nil)
  (.cons (.ret (.conj (.cons (.cmp .gt (.idx (.var 0) (.int 1)) (.int 0)) (.cons (.cmp .eq (.blt .gcd (.cons (.idx (.var 0) (.int 0)) (.cons (.idx (.var 0) (.int 1)) .nil))) (.int 1)) .nil))))
  .nil))
def f_is_ratio : Def := { name := "is_ratio", params := 1, N := ["value"], br := false, fresh := false, body := b_is_ratio }
def b_ratio : Sts :=
  (.cons (.set 2 (.ite (.cmp .gt (.var 1) (.int 0)) (.blt .gcd (.cons (.var 0) (.cons (.var 1) .nil))) (.neg (.blt .gcd (.cons (.var 0) (.cons (.var 1) .nil))))))
  (.cons (.ret (.tup (.cons (.bin .fdiv (.var 0) (.var 2)) (.cons (.bin .fdiv (.var 1) (.var 2)) .nil))))
  .nil))
def f_ratio : Def := { name := "ratio", params := 2, N := ["top", "bottom", "by"], br := false, fresh := false, body := b_ratio }
def b_plus_ratios : Sts :=
  (.cons (.ret (.call "ratio" false (.cons (.bin .add (.bin .mul (.idx (.var 0) (.int 0)) (.idx (.var 1) (.int 1))) (.bin .mul (.idx (.var 1) (.int 0)) (.idx (.var 0) (.int 1)))) (.cons (.bin .mul (.idx (.var 0) (.int 1)) (.idx (.var 1) (.int 1))) .nil))))
  .nil)
def f_plus_ratios : Def := { name := "plus_ratios", params := 2, N := ["one", "two"], br := false, fresh := false, body := b_plus_ratios }
def b_opposite : Sts :=
  (.cons (.ret (.tup (.cons (.neg (.idx (.var 0) (.int 0))) (.cons (.idx (.var 0) (.int 1)) .nil))))
  .nil)
def f_opposite : Def := { name := "opposite", params := 1, N := ["one"], br := false, fresh := false, body := b_opposite }
def b_times_ratios : Sts :=
  (.cons (.ret (.call "ratio" false (.cons (.bin .mul (.idx (.var 0) (.int 0)) (.idx (.var 1) (.int 0))) (.cons (.bin .mul (.idx (.var 0) (.int 1)) (.idx (.var 1) (.int 1))) .nil))))
  .nil)
def f_times_ratios : Def := { name := "times_ratios", params := 2, N := ["one", "two"], br := false, fresh := false, body := b_times_ratios }
def b_rank_of : Sts :=
  (.cons (.ret (.tup (.cons (.blt .sum (.cons (.var 0) .nil)) (.cons (.var 0) .nil))))
  .nil)
def f_rank_of : Def := { name := "rank_of", params := 1, N := ["powers"], br := false, fresh := false, body := b_rank_of }
def x1_is_term : Exp :=
  (.call "is_between" false (.cons (.var 2) (.cons (.int 0) (.cons (.glob "MOST_DEGREE" (.int 40)) .nil))))
def b_is_term : Sts :=
  (.cons (.iff (.disj (.cons (.nott (.isi (.var 1) .tuple)) (.cons (.cmp .ne (.blt .len (.cons (.var 1) .nil)) (.int 2)) (.cons (.nott (.isi (.idx (.var 1) (.int 0)) .tuple)) (.cons (.cmp .ne (.blt .len (.cons (.idx (.var 1) (.int 0)) .nil)) (.var 0)) .nil))))) (.cons (.ret (.bl false))
  .nil) .nil)
  (.cons (.iff (.disj (.cons (.nott (.blt .all (.cons (.comp x1_is_term (.name 2) (.seq (.idx (.var 1) (.int 0))) .nil [("each", 2)]) .nil))) (.cons (.cmp .gt (.blt .sum (.cons (.idx (.var 1) (.int 0)) .nil)) (.glob "MOST_DEGREE" (.int 40))) .nil))) (.cons (.ret (.bl false))
  .nil) .nil)
  (.cons (.ret (.conj (.cons (.call "is_ratio" false (.cons (.idx (.var 1) (.int 1)) .nil)) (.cons (.cmp .ne (.idx (.var 1) (.int 1)) (.glob "ZERO" (.tuple [(.int 0), (.int 1)]))) .nil))))
  .nil)))
def f_is_term : Def := { name := "is_term", params := 2, N := ["many", "value", "each"], br := false, fresh := false, body := b_is_term }
def x1_is_polynomial_by : Exp :=
  (.call "is_term" false (.cons (.var 0) (.cons (.var 2) .nil)))
def x2_is_polynomial_by : Exp :=
  (.cmp .gt (.call "rank_of" false (.cons (.idx (.var 3) (.int 0)) .nil)) (.call "rank_of" false (.cons (.idx (.var 4) (.int 0)) .nil)))
def b_is_polynomial_by : Sts :=
  (.cons (.iff (.disj (.cons (.nott (.isi (.var 1) .tuple)) (.cons (.cmp .gt (.blt .len (.cons (.var 1) .nil)) (.glob "MOST_TERMS" (.int 600))) (.cons (.nott (.blt .all (.cons (.comp x1_is_polynomial_by (.name 2) (.seq (.var 1)) .nil [("each", 2)]) .nil))) .nil)))) (.cons (.ret (.bl false))
  .nil) .nil)
  (.cons (.ret (.blt .all (.cons (.comp x2_is_polynomial_by (.tup [(.name 3), (.name 4)]) (.zip (.var 1) (.slice (.var 1) (.som (.int 1)) .non)) .nil [("one", 3), ("two", 4)]) .nil)))
  .nil))
def f_is_polynomial_by : Def := { name := "is_polynomial_by", params := 2, N := ["many", "value", "each", "one", "two"], br := false, fresh := false, body := b_is_polynomial_by }
def b_beyond_in : Sts :=
  (.cons (.iff (.conj (.cons (.cmp .ne (.var 0) (.glob "NOUGHT" (.tuple []))) (.cons (.cmp .gt (.blt .sum (.cons (.idx (.idx (.var 0) (.int 0)) (.int 0)) .nil)) (.glob "MOST_DEGREE" (.int 40))) .nil))) (.cons (.ret (.lst (.cons (.blt .sum (.cons (.idx (.idx (.var 0) (.int 0)) (.int 0)) .nil)) .nil)))
  .nil) .nil)
  (.cons (.ret (.ite (.cmp .gt (.blt .len (.cons (.var 0) .nil)) (.glob "MOST_TERMS" (.int 600))) (.lst (.cons (.blt .len (.cons (.var 0) .nil)) .nil)) (.lst .nil)))
  .nil))
def f_beyond_in : Def := { name := "beyond_in", params := 1, N := ["one"], br := false, fresh := false, body := b_beyond_in }
def x1_ordered : Exp :=
  (.var 2)
def t1_ordered : Exs :=
  (.cons (.cmp .ne (.idx (.var 0) (.var 2)) (.glob "ZERO" (.tuple [(.int 0), (.int 1)]))) .nil)
def x2_ordered : Exp :=
  (.tup (.cons (.var 2) (.cons (.idx (.var 0) (.var 2)) .nil)))
def b_ordered : Sts :=
  (.cons (.set 1 (.comp x1_ordered (.name 2) (.seq (.var 0)) t1_ordered [("powers", 2)]))
  (.cons (.ret (.blt .tuple (.cons (.comp x2_ordered (.name 2) (.seq (.blt .sortrank (.cons (.var 1) .nil))) .nil [("powers", 2)]) .nil)))
  .nil))
def f_ordered : Def := { name := "ordered", params := 1, N := ["found", "left", "powers"], br := false, fresh := false, body := b_ordered }
def l1_plus_by : Sts :=
  (.cons (.setIx 2 (.var 3) (.call "plus_ratios" false (.cons (.get2 2 (.var 3) (.glob "ZERO" (.tuple [(.int 0), (.int 1)]))) (.cons (.var 4) .nil))))
  .nil)
def b_plus_by : Sts :=
  (.cons (.own 2 (.dcomp [("powers", 3), ("number", 4)] 3 4 (.var 0)))
  (.cons (.forr (.tup [(.name 3), (.name 4)]) (.seq (.var 1)) l1_plus_by)
  (.cons (.ret (.call "ordered" false (.cons (.var 2) .nil)))
  .nil)))
def f_plus_by : Def := { name := "plus_by", params := 2, N := ["one", "two", "found", "powers", "number"], br := false, fresh := false, body := b_plus_by }
def x1_opposite_by : Exp :=
  (.tup (.cons (.var 1) (.cons (.call "opposite" false (.cons (.var 2) .nil)) .nil)))
def b_opposite_by : Sts :=
  (.cons (.ret (.blt .tuple (.cons (.comp x1_opposite_by (.tup [(.name 1), (.name 2)]) (.seq (.var 0)) .nil [("powers", 1), ("each", 2)]) .nil)))
  .nil)
def f_opposite_by : Def := { name := "opposite_by", params := 1, N := ["one", "powers", "each"], br := false, fresh := false, body := b_opposite_by }
def b_minus_by : Sts :=
  (.cons (.ret (.call "plus_by" false (.cons (.var 0) (.cons (.call "opposite_by" false (.cons (.var 1) .nil)) .nil))))
  .nil)
def f_minus_by : Def := { name := "minus_by", params := 2, N := ["one", "two"], br := false, fresh := false, body := b_minus_by }
def x1_times_by : Exp :=
  (.bin .add (.var 8) (.var 9))
def l1_times_by : Sts :=
  (.cons (.set 7 (.blt .tuple (.cons (.comp x1_times_by (.tup [(.name 8), (.name 9)]) (.zip (.var 3) (.var 5)) .nil [("here", 8), ("there", 9)]) .nil)))
  (.cons (.setIx 2 (.var 7) (.call "plus_ratios" false (.cons (.get2 2 (.var 7) (.glob "ZERO" (.tuple [(.int 0), (.int 1)]))) (.cons (.call "times_ratios" false (.cons (.var 4) (.cons (.var 6) .nil))) .nil))))
  .nil))
def l2_times_by : Sts :=
  (.cons (.forr (.tup [(.name 5), (.name 6)]) (.seq (.var 1)) l1_times_by)
  .nil)
def b_times_by : Sts :=
  (.cons (.own 2 .dict0)
  (.cons (.forr (.tup [(.name 3), (.name 4)]) (.seq (.var 0)) l2_times_by)
  (.cons (.ret (.call "ordered" false (.cons (.var 2) .nil)))
  .nil)))
def f_times_by : Def := { name := "times_by", params := 2, N := ["one", "two", "found", "powers", "number", "others", "factor", "place", "here", "there"], br := false, fresh := false, body := b_times_by }
def l1_worth_by : Sts :=
  (.cons (.set 5 (.call "times_ratios" false (.cons (.var 5) (.cons (.var 7) .nil))))
  .nil)
def l2_worth_by : Sts :=
  (.cons (.forr (.name 8) (.range1 (.var 6)) l1_worth_by)
  .nil)
def l3_worth_by : Sts :=
  (.cons (.set 5 (.var 4))
  (.cons (.forr (.tup [(.name 6), (.name 7)]) (.zip (.var 3) (.var 1)) l2_worth_by)
  (.cons (.set 2 (.call "plus_ratios" false (.cons (.var 2) (.cons (.var 5) .nil))))
  .nil)))
def b_worth_by : Sts :=
  (.cons (.set 2 (.glob "ZERO" (.tuple [(.int 0), (.int 1)])))
  (.cons (.forr (.tup [(.name 3), (.name 4)]) (.seq (.var 0)) l3_worth_by)
  (.cons (.ret (.var 2))
  .nil)))
def f_worth_by : Def := { name := "worth_by", params := 2, N := ["one", "assignment", "found", "powers", "number", "part", "power", "each", "_"], br := false, fresh := false, body := b_worth_by }
def b_check_many : Sts :=
  (.cons (.iff (.nott (.call "is_between" false (.cons (.var 0) (.cons (.int 0) (.cons (.glob "MOST_UNKNOWNS" (.int 4)) .nil))))) (.cons .never
  .nil) .nil)
  .nil)
def f_check_many : Def := { name := "check_many", params := 1, N := ["value"], br := false, fresh := false, body := b_check_many }
def b_check_polynomial : Sts :=
  (.cons (.iff (.nott (.call "is_polynomial_by" false (.cons (.var 0) (.cons (.var 1) .nil)))) (.cons .never
  .nil) .nil)
  .nil)
def f_check_polynomial : Def := { name := "check_polynomial", params := 2, N := ["many", "value"], br := false, fresh := false, body := b_check_polynomial }
def b_check_one : Sts :=
  (.cons (.expr (.call "check_many" false (.cons (.var 0) .nil)))
  (.cons (.expr (.call "check_polynomial" false (.cons (.var 0) (.cons (.var 1) .nil))))
  .nil))
def f_check_one : Def := { name := "check_one", params := 2, N := ["many", "one"], br := false, fresh := false, body := b_check_one }
def b_check_two : Sts :=
  (.cons (.expr (.call "check_one" false (.cons (.var 0) (.cons (.var 1) .nil))))
  (.cons (.expr (.call "check_polynomial" false (.cons (.var 0) (.cons (.var 2) .nil))))
  .nil))
def f_check_two : Def := { name := "check_two", params := 3, N := ["many", "one", "two"], br := false, fresh := false, body := b_check_two }
def l1_check_point : Sts :=
  (.cons (.iff (.nott (.call "is_ratio" false (.cons (.var 3) .nil))) (.cons .never
  .nil) .nil)
  .nil)
def b_check_point : Sts :=
  (.cons (.iff (.disj (.cons (.nott (.isi (.var 1) .tuple)) (.cons (.cmp .ne (.blt .len (.cons (.var 1) .nil)) (.var 0)) .nil))) (.cons .never
  .nil) .nil)
  (.cons (.forr (.tup [(.name 2), (.name 3)]) (.enum (.var 1)) l1_check_point)
  .nil))
def f_check_point : Def := { name := "check_point", params := 2, N := ["many", "value", "index", "each"], br := false, fresh := false, body := b_check_point }
def l1_kept_small : Sts :=
  (.cons .never
  .nil)
def b_kept_small : Sts :=
  (.cons (.forr (.name 1) (.seq (.call "beyond_in" false (.cons (.var 0) .nil))) l1_kept_small)
  (.cons (.ret (.var 0))
  .nil))
def f_kept_small : Def := { name := "kept_small", params := 1, N := ["found", "each"], br := false, fresh := false, body := b_kept_small }
def b_plus_polynomials : Sts :=
  (.cons (.expr (.call "check_two" false (.cons (.var 0) (.cons (.var 1) (.cons (.var 2) .nil)))))
  (.cons (.ret (.call "kept_small" false (.cons (.call "plus_by" false (.cons (.var 1) (.cons (.var 2) .nil))) .nil)))
  .nil))
def f_plus_polynomials : Def := { name := "plus_polynomials", params := 3, N := ["many", "one", "two"], br := false, fresh := false, body := b_plus_polynomials }
def b_minus : Sts :=
  (.cons (.expr (.call "check_two" false (.cons (.var 0) (.cons (.var 1) (.cons (.var 2) .nil)))))
  (.cons (.ret (.call "kept_small" false (.cons (.call "minus_by" false (.cons (.var 1) (.cons (.var 2) .nil))) .nil)))
  .nil))
def f_minus : Def := { name := "minus", params := 3, N := ["many", "one", "two"], br := false, fresh := false, body := b_minus }
def b_times_polynomials : Sts :=
  (.cons (.expr (.call "check_two" false (.cons (.var 0) (.cons (.var 1) (.cons (.var 2) .nil)))))
  (.cons (.ret (.call "kept_small" false (.cons (.call "times_by" false (.cons (.var 1) (.cons (.var 2) .nil))) .nil)))
  .nil))
def f_times_polynomials : Def := { name := "times_polynomials", params := 3, N := ["many", "one", "two"], br := false, fresh := false, body := b_times_polynomials }
def b_worth : Sts :=
  (.cons (.expr (.call "check_one" false (.cons (.var 0) (.cons (.var 1) .nil))))
  (.cons (.expr (.call "check_point" false (.cons (.var 0) (.cons (.var 2) .nil))))
  (.cons (.ret (.call "worth_by" false (.cons (.var 1) (.cons (.var 2) .nil))))
  .nil)))
def f_worth : Def := { name := "worth", params := 3, N := ["many", "one", "assignment"], br := false, fresh := false, body := b_worth }
def b_law_draw : Sts :=
  (.cons (.iff (.cmp .gt (.idx (.var 0) (.int 0)) (.int 0)) (.cons (.jar 0 (.int 0) 2 (.blt .divmod (.cons (.idx (.var 0) (.int 0)) (.cons (.var 1) .nil))))
  (.cons (.ret (.var 2))
  .nil)) .nil)
  (.cons (.setIx 0 (.int 2) (.bin .add (.idx (.var 0) (.int 2)) (.int 1)))
  (.cons (.set 3 (.bin .mod (.blt .int1 (.cons (.bin .add (.bin .add (.bin .mul (.idx (.var 0) (.int 1)) (.int 48271)) (.bin .mul (.idx (.var 0) (.int 2)) (.int 40009))) (.int 3)) .nil)) (.int 2147483477)))
  (.cons (.setIx 0 (.int 1) (.var 3))
  (.cons (.ret (.bin .mod (.blt .int1 (.cons (.bin .fdiv (.bin .mod (.blt .int1 (.cons (.bin .mul (.var 3) (.bin .add (.bin .mod (.blt .int1 (.cons (.var 3) .nil)) (.int 6007)) (.int 20011))) .nil)) (.int 2147483477)) (.int 613)) .nil)) (.var 1)))
  .nil)))))
def f_law_draw : Def := { name := "_law_draw", params := 2, N := ["jar", "many", "figure", "stirred"], br := true, fresh := false, body := b_law_draw }
def b_law_of : Sts :=
  (.cons (.ret (.idx (.var 1) (.call "_law_draw" true (.cons (.var 0) (.cons (.blt .len (.cons (.var 1) .nil)) .nil)))))
  .nil)
def f_law_of : Def := { name := "_law_of", params := 2, N := ["jar", "some"], br := true, fresh := false, body := b_law_of }
def b_law_same : Sts :=
  (.cons (.ret (.cmp .eq (.blt .repr (.cons (.var 0) .nil)) (.blt .repr (.cons (.var 1) .nil))))
  .nil)
def f_law_same : Def := { name := "_law_same", params := 2, N := ["told", "due"], br := false, fresh := false, body := b_law_same }
def l1_law_jar : Sts :=
  (.cons (.set 2 (.bin .mod (.blt .int1 (.cons (.bin .add (.bin .add (.bin .mul (.var 2) (.int 50021)) (.bin .mul (.bin .mod (.blt .int1 (.cons (.var 3) .nil)) (.int 2147483477)) (.int 17))) (.int 9)) .nil)) (.int 2147483477)))
  .nil)
def b_law_jar : Sts :=
  (.cons (.set 2 (.bin .add (.int 8209) (.bin .mul (.int 7193) (.var 1))))
  (.cons (.forr (.name 3) (.seq (.slice (.var 0) .non (.som (.int 9)))) l1_law_jar)
  (.cons (.set 4 (.ite (.cmp .lt (.var 1) (.blt .len (.cons (.var 0) .nil))) (.blt .int1 (.cons (.idx (.var 0) (.var 1)) .nil)) (.int 0)))
  (.cons (.set 2 (.bin .mod (.blt .int1 (.cons (.bin .add (.bin .add (.bin .mul (.var 2) (.int 43)) (.bin .mul (.bin .mod (.blt .int1 (.cons (.var 4) .nil)) (.int 2147483477)) (.int 30011))) (.int 5)) .nil)) (.int 2147483477)))
  (.cons (.ret (.lst (.cons (.ite (.disj (.cons (.cmp .lt (.var 4) (.int 0)) (.cons (.cmp .ge (.var 4) (.bin .pow (.int 10) (.int 15))) .nil))) (.blt .abs (.cons (.var 4) .nil)) (.int 0)) (.cons (.var 2) (.cons (.int 0) .nil)))))
  .nil)))))
def f_law_jar : Def := { name := "_law_jar", params := 2, N := ["script", "turn", "mixed", "cell", "own"], br := false, fresh := true, body := b_law_jar }
def w1_law_common : Exp :=
  (.cmp .gt (.var 1) (.int 0))
def l1_law_common : Sts :=
  (.cons (.par [(0, false), (1, false)] (.cons (.var 1) (.cons (.bin .mod (.blt .int1 (.cons (.var 0) .nil)) (.var 1)) .nil)))
  .nil)
def b_law_common : Sts :=
  (.cons (.par [(0, false), (1, false)] (.cons (.blt .abs (.cons (.var 0) .nil)) (.cons (.blt .abs (.cons (.var 1) .nil)) .nil)))
  (.cons (.whil w1_law_common l1_law_common)
  (.cons (.ret (.var 0))
  .nil)))
def f_law_common : Def := { name := "_law_common", params := 2, N := ["one", "two"], br := false, fresh := false, body := b_law_common }
def b_law_frac : Sts :=
  (.cons (.set 2 (.call "_law_common" false (.cons (.var 0) (.cons (.var 1) .nil))))
  (.cons (.set 2 (.ite (.cmp .gt (.var 1) (.int 0)) (.var 2) (.bin .sub (.int 0) (.var 2))))
  (.cons (.ret (.tup (.cons (.bin .fdiv (.var 0) (.var 2)) (.cons (.bin .fdiv (.var 1) (.var 2)) .nil))))
  .nil)))
def f_law_frac : Def := { name := "_law_frac", params := 2, N := ["top", "low", "by"], br := false, fresh := false, body := b_law_frac }
def b_law_add : Sts :=
  (.cons (.ret (.call "_law_frac" false (.cons (.bin .add (.bin .mul (.idx (.var 0) (.int 0)) (.idx (.var 1) (.int 1))) (.bin .mul (.idx (.var 1) (.int 0)) (.idx (.var 0) (.int 1)))) (.cons (.bin .mul (.idx (.var 0) (.int 1)) (.idx (.var 1) (.int 1))) .nil))))
  .nil)
def f_law_add : Def := { name := "_law_add", params := 2, N := ["one", "two"], br := false, fresh := false, body := b_law_add }
def b_law_mul : Sts :=
  (.cons (.ret (.call "_law_frac" false (.cons (.bin .mul (.idx (.var 0) (.int 0)) (.idx (.var 1) (.int 0))) (.cons (.bin .mul (.idx (.var 0) (.int 1)) (.idx (.var 1) (.int 1))) .nil))))
  .nil)
def f_law_mul : Def := { name := "_law_mul", params := 2, N := ["one", "two"], br := false, fresh := false, body := b_law_mul }
def b_law_number : Sts :=
  (.cons (.set 1 (.call "_law_draw" true (.cons (.var 0) (.cons (.int 8) .nil))))
  (.cons (.iff (.cmp .lt (.var 1) (.int 5)) (.cons (.ret (.idx (.tup (.cons (.tup (.cons (.int 1) (.cons (.int 1) .nil))) (.cons (.tup (.cons (.neg (.int 1)) (.cons (.int 1) .nil))) (.cons (.tup (.cons (.int 2) (.cons (.int 1) .nil))) (.cons (.tup (.cons (.neg (.int 2)) (.cons (.int 1) .nil))) (.cons (.tup (.cons (.int 3) (.cons (.int 1) .nil))) .nil)))))) (.var 1)))
  .nil) .nil)
  (.cons (.ret (.call "_law_frac" false (.cons (.bin .sub (.call "_law_draw" true (.cons (.var 0) (.cons (.int 41) .nil))) (.int 20)) (.cons (.bin .add (.int 1) (.call "_law_draw" true (.cons (.var 0) (.cons (.int 12) .nil)))) .nil))))
  .nil)))
def f_law_number : Def := { name := "_law_number", params := 1, N := ["jar", "way"], br := true, fresh := false, body := b_law_number }
def l1_law_powers : Sts :=
  (.cons (.append 3 (.ite (.cmp .gt (.call "_law_draw" true (.cons (.var 0) (.cons (.int 3) .nil))) (.int 0)) (.call "_law_draw" true (.cons (.var 0) (.cons (.bin .add (.var 4) (.int 1)) .nil))) (.int 0)))
  (.cons (.set 4 (.bin .sub (.var 4) (.idx (.var 3) (.neg (.int 1)))))
  .nil))
def b_law_powers : Sts :=
  (.cons (.par [(3, true), (4, false)] (.cons (.lst .nil) (.cons (.var 2) .nil)))
  (.cons (.forr (.name 5) (.range1 (.var 1)) l1_law_powers)
  (.cons (.ret (.blt .tuple (.cons (.var 3) .nil)))
  .nil)))
def f_law_powers : Def := { name := "_law_powers", params := 3, N := ["jar", "many", "most", "found", "left", "turn"], br := true, fresh := false, body := b_law_powers }
def b_law_keyed : Sts :=
  (.cons (.ret (.tup (.cons (.blt .sum (.cons (.var 0) .nil)) (.cons (.var 0) .nil))))
  .nil)
def f_law_keyed : Def := { name := "_law_keyed", params := 1, N := ["powers"], br := false, fresh := false, body := b_law_keyed }
def x1_law_told_of : Exp :=
  (.var 2)
def t1_law_told_of : Exs :=
  (.cons (.cmp .ne (.idx (.idx (.var 0) (.var 2)) (.int 0)) (.int 0)) .nil)
def x2_law_told_of : Exp :=
  (.call "_law_keyed" false (.cons (.var 2) .nil))
def x3_law_told_of : Exp :=
  (.tup (.cons (.var 2) (.cons (.idx (.var 0) (.var 2)) .nil)))
def b_law_told_of : Sts :=
  (.cons (.set 1 (.comp x1_law_told_of (.name 2) (.seq (.var 0)) t1_law_told_of [("powers", 2)]))
  (.cons (.set 3 (.comp x3_law_told_of (.tup [(.name 4), (.name 2)]) (.seq (.blt .sorted (.cons (.comp x2_law_told_of (.name 2) (.seq (.var 1)) .nil [("powers", 2)]) .nil))) .nil [("degree", 4), ("powers", 2)]))
  (.cons (.ret (.blt .tuple (.cons (.rev (.var 3)) .nil)))
  .nil)))
def f_law_told_of : Def := { name := "_law_told_of", params := 1, N := ["terms", "some", "powers", "found", "degree"], br := false, fresh := false, body := b_law_told_of }
def l1_law_sum : Sts :=
  (.cons (.setIx 3 (.var 4) (.call "_law_add" false (.cons (.get2 3 (.var 4) (.tup (.cons (.int 0) (.cons (.int 1) .nil)))) (.cons (.call "_law_mul" false (.cons (.var 2) (.cons (.var 5) .nil))) .nil))))
  .nil)
def b_law_sum : Sts :=
  (.cons (.own 3 (.dictof (.var 0)))
  (.cons (.forr (.tup [(.name 4), (.name 5)]) (.seq (.var 1)) l1_law_sum)
  (.cons (.ret (.call "_law_told_of" false (.cons (.var 3) .nil)))
  .nil)))
def f_law_sum : Def := { name := "_law_sum", params := 3, N := ["one", "two", "by", "found", "powers", "amount"], br := false, fresh := false, body := b_law_sum }
def x1_law_product : Exp :=
  (.bin .add (.var 8) (.var 9))
def l1_law_product : Sts :=
  (.cons (.set 7 (.blt .tuple (.cons (.comp x1_law_product (.tup [(.name 8), (.name 9)]) (.zip (.var 3) (.var 5)) .nil [("here", 8), ("there", 9)]) .nil)))
  (.cons (.setIx 2 (.var 7) (.call "_law_add" false (.cons (.get2 2 (.var 7) (.tup (.cons (.int 0) (.cons (.int 1) .nil)))) (.cons (.call "_law_mul" false (.cons (.var 4) (.cons (.var 6) .nil))) .nil))))
  .nil))
def l2_law_product : Sts :=
  (.cons (.forr (.tup [(.name 5), (.name 6)]) (.seq (.var 1)) l1_law_product)
  .nil)
def b_law_product : Sts :=
  (.cons (.own 2 .dict0)
  (.cons (.forr (.tup [(.name 3), (.name 4)]) (.seq (.var 0)) l2_law_product)
  (.cons (.ret (.call "_law_told_of" false (.cons (.var 2) .nil)))
  .nil)))
def f_law_product : Def := { name := "_law_product", params := 2, N := ["one", "two", "found", "powers", "amount", "others", "factor", "both", "here", "there"], br := false, fresh := false, body := b_law_product }
def l1_law_raised : Sts :=
  (.cons (.set 2 (.call "_law_mul" false (.cons (.var 2) (.cons (.var 0) .nil))))
  .nil)
def b_law_raised : Sts :=
  (.cons (.set 2 (.tup (.cons (.int 1) (.cons (.int 1) .nil))))
  (.cons (.forr (.name 3) (.range1 (.var 1)) l1_law_raised)
  (.cons (.ret (.var 2))
  .nil)))
def f_law_raised : Def := { name := "_law_raised", params := 2, N := ["amount", "power", "found", "turn"], br := false, fresh := false, body := b_law_raised }
def l1_law_worth : Sts :=
  (.cons (.set 4 (.call "_law_mul" false (.cons (.var 4) (.cons (.call "_law_raised" false (.cons (.var 6) (.cons (.var 5) .nil))) .nil))))
  .nil)
def l2_law_worth : Sts :=
  (.cons (.forr (.tup [(.name 5), (.name 6)]) (.zip (.var 3) (.var 1)) l1_law_worth)
  (.cons (.set 2 (.call "_law_add" false (.cons (.var 2) (.cons (.var 4) .nil))))
  .nil))
def b_law_worth : Sts :=
  (.cons (.set 2 (.tup (.cons (.int 0) (.cons (.int 1) .nil))))
  (.cons (.forr (.tup [(.name 3), (.name 4)]) (.seq (.var 0)) l2_law_worth)
  (.cons (.ret (.var 2))
  .nil)))
def f_law_worth : Def := { name := "_law_worth", params := 2, N := ["one", "numbers", "found", "powers", "amount", "power", "base"], br := false, fresh := false, body := b_law_worth }
def l1_law_poly : Sts :=
  (.cons (.setIx 4 (.call "_law_powers" true (.cons (.var 0) (.cons (.var 1) (.cons (.var 3) .nil)))) (.call "_law_number" true (.cons (.var 0) .nil)))
  .nil)
def b_law_poly : Sts :=
  (.cons (.own 4 .dict0)
  (.cons (.forr (.name 5) (.range1 (.call "_law_draw" true (.cons (.var 0) (.cons (.bin .add (.var 2) (.int 1)) .nil)))) l1_law_poly)
  (.cons (.ret (.call "_law_told_of" false (.cons (.var 4) .nil)))
  .nil)))
def f_law_poly : Def := { name := "_law_poly", params := 4, N := ["jar", "many", "terms", "degree", "found", "turn"], br := true, fresh := false, body := b_law_poly }
def l1_law_numbers : Sts :=
  (.cons (.append 2 (.call "_law_of" true (.cons (.var 0) (.cons (.tup (.cons (.tup (.cons (.int 0) (.cons (.int 1) .nil))) (.cons (.call "_law_number" true (.cons (.var 0) .nil)) (.cons (.call "_law_number" true (.cons (.var 0) .nil)) .nil)))) .nil))))
  .nil)
def b_law_numbers : Sts :=
  (.cons (.own 2 (.lst .nil))
  (.cons (.forr (.name 3) (.range1 (.var 1)) l1_law_numbers)
  (.cons (.ret (.blt .tuple (.cons (.var 2) .nil)))
  .nil)))
def f_law_numbers : Def := { name := "_law_numbers", params := 2, N := ["jar", "many", "found", "turn"], br := true, fresh := false, body := b_law_numbers }
def x1_law_rows_of : Exp :=
  (.bin .add (.var 5) (.tup (.cons (.var 6) .nil)))
def l1_law_rows_of : Sts :=
  (.cons (.extend 4 (.comp x1_law_rows_of (.name 6) (.range1 (.bin .add (.var 1) (.int 1))) .nil [("amount", 6)]))
  .nil)
def l2_law_rows_of : Sts :=
  (.cons (.own 4 (.lst .nil))
  (.cons (.forr (.name 5) (.seq (.var 2)) l1_law_rows_of)
  (.cons (.set 2 (.var 4))
  .nil)))
def b_law_rows_of : Sts :=
  (.cons (.set 2 (.lst (.cons (.tup .nil) .nil)))
  (.cons (.forr (.name 3) (.range1 (.var 0)) l2_law_rows_of)
  (.cons (.ret (.var 2))
  .nil)))
def f_law_rows_of : Def := { name := "_law_rows_of", params := 2, N := ["many", "top", "found", "turn", "longer", "row", "amount"], br := false, fresh := false, body := b_law_rows_of }
def b_law_are_right : Sts :=
  (.cons (.par [(3, false), (4, false)] (.cons (.call "_law_sum" false (.cons (.var 1) (.cons (.var 2) (.cons (.tup (.cons (.int 1) (.cons (.int 1) .nil))) .nil)))) (.cons (.call "_law_sum" false (.cons (.var 1) (.cons (.var 2) (.cons (.tup (.cons (.neg (.int 1)) (.cons (.int 1) .nil))) .nil)))) .nil)))
  (.cons (.iff (.nott (.call "_law_same" false (.cons (.lst (.cons (.call "plus_polynomials" false (.cons (.var 0) (.cons (.var 1) (.cons (.var 2) .nil)))) (.cons (.callK "plus_polynomials" false .nil (.cons (.var 2) (.cons (.var 1) (.cons (.var 0) .nil))) ["two", "one", "many"] [2, 1, 0]) .nil))) (.cons (.lst (.cons (.var 3) (.cons (.var 3) .nil))) .nil)))) (.cons (.ret (.bl false))
  .nil) .nil)
  (.cons (.iff (.nott (.call "_law_same" false (.cons (.lst (.cons (.call "minus" false (.cons (.var 0) (.cons (.var 1) (.cons (.var 2) .nil)))) (.cons (.callK "minus" false .nil (.cons (.var 2) (.cons (.var 1) (.cons (.var 0) .nil))) ["two", "one", "many"] [2, 1, 0]) .nil))) (.cons (.lst (.cons (.var 4) (.cons (.var 4) .nil))) .nil)))) (.cons (.ret (.bl false))
  .nil) .nil)
  (.cons (.set 5 (.call "_law_product" false (.cons (.var 1) (.cons (.var 2) .nil))))
  (.cons (.iff (.nott (.call "_law_same" false (.cons (.lst (.cons (.call "times_polynomials" false (.cons (.var 0) (.cons (.var 1) (.cons (.var 2) .nil)))) (.cons (.callK "times_polynomials" false .nil (.cons (.var 2) (.cons (.var 1) (.cons (.var 0) .nil))) ["two", "one", "many"] [2, 1, 0]) .nil))) (.cons (.lst (.cons (.var 5) (.cons (.var 5) .nil))) .nil)))) (.cons (.ret (.bl false))
  .nil) .nil)
  (.cons (.ret (.cmp .eq (.cmp .eq (.var 5) (.tup .nil)) (.disj (.cons (.cmp .eq (.var 1) (.tup .nil)) (.cons (.cmp .eq (.var 2) (.tup .nil)) .nil)))))
  .nil))))))
def f_law_are_right : Def := { name := "_law_are_right", params := 3, N := ["many", "one", "two", "total", "rest", "both"], br := false, fresh := false, body := b_law_are_right }
def x1_law_are_told_apart : Exp :=
  (.blt .maxl (.cons (.bin .add (.tup (.cons (.int 0) .nil)) (.var 4)) .nil))
def x2_law_are_told_apart : Exp :=
  (.tup (.cons (.var 8) (.cons (.int 1) .nil)))
def l1_law_are_told_apart : Sts :=
  (.cons (.set 7 (.blt .tuple (.cons (.comp x2_law_are_told_apart (.name 8) (.seq (.var 6)) .nil [("each", 8)]) .nil)))
  (.cons (.iff (.cmp .ne (.call "worth" false (.cons (.var 0) (.cons (.var 1) (.cons (.var 7) .nil)))) (.call "worth" false (.cons (.var 0) (.cons (.var 2) (.cons (.var 7) .nil))))) (.cons (.ret (.cmp .ne (.var 1) (.var 2)))
  .nil) .nil)
  .nil))
def b_law_are_told_apart : Sts :=
  (.cons (.set 3 (.blt .maxl (.cons (.bin .add (.lst (.cons (.int 0) .nil)) (.comp x1_law_are_told_apart (.tup [(.name 4), (.name 5)]) (.seq (.bin .add (.var 1) (.var 2))) .nil [("powers", 4), ("amount", 5)])) .nil)))
  (.cons (.forr (.name 6) (.seq (.call "_law_rows_of" false (.cons (.var 0) (.cons (.var 3) .nil)))) l1_law_are_told_apart)
  (.cons (.ret (.cmp .eq (.var 1) (.var 2)))
  .nil)))
def f_law_are_told_apart : Def := { name := "_law_are_told_apart", params := 3, N := ["many", "one", "two", "top", "powers", "amount", "row", "numbers", "each"], br := false, fresh := false, body := b_law_are_told_apart }
def l1_law_right : Sts :=
  (.cons (.set 5 (.call "_law_numbers" true (.cons (.var 0) (.cons (.var 1) .nil))))
  (.cons (.set 6 (.call "_law_worth" false (.cons (.var 2) (.cons (.var 5) .nil))))
  (.cons (.iff (.nott (.call "_law_same" false (.cons (.lst (.cons (.call "worth" false (.cons (.var 1) (.cons (.var 2) (.cons (.var 5) .nil)))) (.cons (.callK "worth" false .nil (.cons (.var 5) (.cons (.var 2) (.cons (.var 1) .nil))) ["assignment", "one", "many"] [2, 1, 0]) .nil))) (.cons (.lst (.cons (.var 6) (.cons (.var 6) .nil))) .nil)))) (.cons (.ret (.bl false))
  .nil) .nil)
  .nil)))
def b_law_right : Sts :=
  (.cons (.set 1 (.call "_law_draw" true (.cons (.var 0) (.cons (.int 4) .nil))))
  (.cons (.par [(2, false), (3, false)] (.cons (.call "_law_poly" true (.cons (.var 0) (.cons (.var 1) (.cons (.int 4) (.cons (.int 4) .nil))))) (.cons (.call "_law_poly" true (.cons (.var 0) (.cons (.var 1) (.cons (.int 4) (.cons (.int 3) .nil))))) .nil)))
  (.cons (.iff (.disj (.cons (.nott (.call "_law_are_right" false (.cons (.var 1) (.cons (.var 2) (.cons (.var 3) .nil))))) (.cons (.nott (.call "_law_are_right" false (.cons (.var 1) (.cons (.var 2) (.cons (.tup .nil) .nil))))) (.cons (.nott (.call "_law_are_right" false (.cons (.var 1) (.cons (.var 2) (.cons (.var 2) .nil))))) .nil)))) (.cons (.ret (.bl false))
  .nil) .nil)
  (.cons (.forr (.name 4) (.range1 (.int 3)) l1_law_right)
  (.cons (.set 7 (.call "minus" false (.cons (.var 1) (.cons (.call "plus_polynomials" false (.cons (.var 1) (.cons (.var 2) (.cons (.var 3) .nil)))) (.cons (.var 3) .nil)))))
  (.cons (.set 8 (.call "_law_sum" false (.cons (.var 2) (.cons (.tup (.cons (.tup (.cons (.call "_law_powers" true (.cons (.var 0) (.cons (.var 1) (.cons (.int 3) .nil)))) (.cons (.call "_law_number" true (.cons (.var 0) .nil)) .nil))) .nil)) (.cons (.tup (.cons (.int 1) (.cons (.int 1) .nil))) .nil)))))
  (.cons (.ret (.conj (.cons (.call "_law_are_told_apart" false (.cons (.var 1) (.cons (.var 2) (.cons (.var 7) .nil)))) (.cons (.call "_law_are_told_apart" false (.cons (.var 1) (.cons (.var 2) (.cons (.var 8) .nil)))) .nil))))
  .nil)))))))
def f_law_right : Def := { name := "_law_right", params := 1, N := ["jar", "many", "one", "two", "turn", "numbers", "due", "less", "near"], br := true, fresh := false, body := b_law_right }
def x1_law : Exp :=
  (.callJ "_law_right" "_law_jar" (.cons (.var 0) (.cons (.var 1) .nil)))
def b_law : Sts :=
  (.cons (.ret (.blt .all (.cons (.comp x1_law (.name 1) (.range1 (.blt .max2 (.cons (.int 2) (.cons (.blt .min2 (.cons (.blt .len (.cons (.var 0) .nil)) (.cons (.int 5) .nil))) .nil)))) .nil [("turn", 1)]) .nil)))
  .nil)
def f_law : Def := { name := "law", params := 1, N := ["script", "turn"], br := false, fresh := false, body := b_law }
def defs : List Def := [f_is_whole, f_is_between, f_is_ratio, f_ratio, f_plus_ratios, f_opposite, f_times_ratios, f_rank_of, f_is_term, f_is_polynomial_by, f_beyond_in, f_ordered, f_plus_by, f_opposite_by, f_minus_by, f_times_by, f_worth_by, f_check_many, f_check_polynomial, f_check_one, f_check_two, f_check_point, f_kept_small, f_plus_polynomials, f_minus, f_times_polynomials, f_worth, f_law_draw, f_law_of, f_law_same, f_law_jar, f_law_common, f_law_frac, f_law_add, f_law_mul, f_law_number, f_law_powers, f_law_keyed, f_law_told_of, f_law_sum, f_law_product, f_law_raised, f_law_worth, f_law_poly, f_law_numbers, f_law_rows_of, f_law_are_right, f_law_are_told_apart, f_law_right, f_law]
abbrev C (n : Nat) : CallF := callN defs WF n
@[simp] theorem fb_is_whole : f_is_whole.br = false := rfl
@[simp] theorem ff_is_whole : f_is_whole.fresh = false := rfl
theorem g_is_whole {n : Nat} {a0 : D} : C (n + 1) "is_whole" [a0] = endF f_is_whole (evSs (C n) WF false b_is_whole [.val a0]) := callN_eq (fn := f_is_whole) (by kernel_rfl) rfl
@[simp] theorem fb_is_between : f_is_between.br = false := rfl
@[simp] theorem ff_is_between : f_is_between.fresh = false := rfl
theorem g_is_between {n : Nat} {a0 a1 a2 : D} : C (n + 1) "is_between" [a0, a1, a2] = endF f_is_between (evSs (C n) WF false b_is_between [.val a0, .val a1, .val a2]) := callN_eq (fn := f_is_between) (by kernel_rfl) rfl
@[simp] theorem fb_is_ratio : f_is_ratio.br = false := rfl
@[simp] theorem ff_is_ratio : f_is_ratio.fresh = false := rfl
theorem g_is_ratio {n : Nat} {a0 : D} : C (n + 1) "is_ratio" [a0] = endF f_is_ratio (evSs (C n) WF false b_is_ratio [.val a0]) := callN_eq (fn := f_is_ratio) (by kernel_rfl) rfl
@[simp] theorem fb_ratio : f_ratio.br = false := rfl
@[simp] theorem ff_ratio : f_ratio.fresh = false := rfl
theorem g_ratio {n : Nat} {a0 a1 : D} : C (n + 1) "ratio" [a0, a1] = endF f_ratio (evSs (C n) WF false b_ratio [.val a0, .val a1, .non]) := callN_eq (fn := f_ratio) (by kernel_rfl) rfl
@[simp] theorem fb_plus_ratios : f_plus_ratios.br = false := rfl
@[simp] theorem ff_plus_ratios : f_plus_ratios.fresh = false := rfl
theorem g_plus_ratios {n : Nat} {a0 a1 : D} : C (n + 1) "plus_ratios" [a0, a1] = endF f_plus_ratios (evSs (C n) WF false b_plus_ratios [.val a0, .val a1]) := callN_eq (fn := f_plus_ratios) (by kernel_rfl) rfl
@[simp] theorem fb_opposite : f_opposite.br = false := rfl
@[simp] theorem ff_opposite : f_opposite.fresh = false := rfl
theorem g_opposite {n : Nat} {a0 : D} : C (n + 1) "opposite" [a0] = endF f_opposite (evSs (C n) WF false b_opposite [.val a0]) := callN_eq (fn := f_opposite) (by kernel_rfl) rfl
@[simp] theorem fb_times_ratios : f_times_ratios.br = false := rfl
@[simp] theorem ff_times_ratios : f_times_ratios.fresh = false := rfl
theorem g_times_ratios {n : Nat} {a0 a1 : D} : C (n + 1) "times_ratios" [a0, a1] = endF f_times_ratios (evSs (C n) WF false b_times_ratios [.val a0, .val a1]) := callN_eq (fn := f_times_ratios) (by kernel_rfl) rfl
@[simp] theorem fb_rank_of : f_rank_of.br = false := rfl
@[simp] theorem ff_rank_of : f_rank_of.fresh = false := rfl
theorem g_rank_of {n : Nat} {a0 : D} : C (n + 1) "rank_of" [a0] = endF f_rank_of (evSs (C n) WF false b_rank_of [.val a0]) := callN_eq (fn := f_rank_of) (by kernel_rfl) rfl
@[simp] theorem fb_is_term : f_is_term.br = false := rfl
@[simp] theorem ff_is_term : f_is_term.fresh = false := rfl
theorem g_is_term {n : Nat} {a0 a1 : D} : C (n + 1) "is_term" [a0, a1] = endF f_is_term (evSs (C n) WF false b_is_term [.val a0, .val a1, .non]) := callN_eq (fn := f_is_term) (by kernel_rfl) rfl
@[simp] theorem fb_is_polynomial_by : f_is_polynomial_by.br = false := rfl
@[simp] theorem ff_is_polynomial_by : f_is_polynomial_by.fresh = false := rfl
theorem g_is_polynomial_by {n : Nat} {a0 a1 : D} : C (n + 1) "is_polynomial_by" [a0, a1] = endF f_is_polynomial_by (evSs (C n) WF false b_is_polynomial_by [.val a0, .val a1, .non, .non, .non]) := callN_eq (fn := f_is_polynomial_by) (by kernel_rfl) rfl
@[simp] theorem fb_beyond_in : f_beyond_in.br = false := rfl
@[simp] theorem ff_beyond_in : f_beyond_in.fresh = false := rfl
theorem g_beyond_in {n : Nat} {a0 : D} : C (n + 1) "beyond_in" [a0] = endF f_beyond_in (evSs (C n) WF false b_beyond_in [.val a0]) := callN_eq (fn := f_beyond_in) (by kernel_rfl) rfl
@[simp] theorem fb_ordered : f_ordered.br = false := rfl
@[simp] theorem ff_ordered : f_ordered.fresh = false := rfl
theorem g_ordered {n : Nat} {a0 : D} : C (n + 1) "ordered" [a0] = endF f_ordered (evSs (C n) WF false b_ordered [.val a0, .non, .non]) := callN_eq (fn := f_ordered) (by kernel_rfl) rfl
@[simp] theorem fb_plus_by : f_plus_by.br = false := rfl
@[simp] theorem ff_plus_by : f_plus_by.fresh = false := rfl
theorem g_plus_by {n : Nat} {a0 a1 : D} : C (n + 1) "plus_by" [a0, a1] = endF f_plus_by (evSs (C n) WF false b_plus_by [.val a0, .val a1, .non, .non, .non]) := callN_eq (fn := f_plus_by) (by kernel_rfl) rfl
@[simp] theorem fb_opposite_by : f_opposite_by.br = false := rfl
@[simp] theorem ff_opposite_by : f_opposite_by.fresh = false := rfl
theorem g_opposite_by {n : Nat} {a0 : D} : C (n + 1) "opposite_by" [a0] = endF f_opposite_by (evSs (C n) WF false b_opposite_by [.val a0, .non, .non]) := callN_eq (fn := f_opposite_by) (by kernel_rfl) rfl
@[simp] theorem fb_minus_by : f_minus_by.br = false := rfl
@[simp] theorem ff_minus_by : f_minus_by.fresh = false := rfl
theorem g_minus_by {n : Nat} {a0 a1 : D} : C (n + 1) "minus_by" [a0, a1] = endF f_minus_by (evSs (C n) WF false b_minus_by [.val a0, .val a1]) := callN_eq (fn := f_minus_by) (by kernel_rfl) rfl
@[simp] theorem fb_times_by : f_times_by.br = false := rfl
@[simp] theorem ff_times_by : f_times_by.fresh = false := rfl
theorem g_times_by {n : Nat} {a0 a1 : D} : C (n + 1) "times_by" [a0, a1] = endF f_times_by (evSs (C n) WF false b_times_by [.val a0, .val a1, .non, .non, .non, .non, .non, .non, .non, .non]) := callN_eq (fn := f_times_by) (by kernel_rfl) rfl
@[simp] theorem fb_worth_by : f_worth_by.br = false := rfl
@[simp] theorem ff_worth_by : f_worth_by.fresh = false := rfl
theorem g_worth_by {n : Nat} {a0 a1 : D} : C (n + 1) "worth_by" [a0, a1] = endF f_worth_by (evSs (C n) WF false b_worth_by [.val a0, .val a1, .non, .non, .non, .non, .non, .non, .non]) := callN_eq (fn := f_worth_by) (by kernel_rfl) rfl
@[simp] theorem fb_check_many : f_check_many.br = false := rfl
@[simp] theorem ff_check_many : f_check_many.fresh = false := rfl
theorem g_check_many {n : Nat} {a0 : D} : C (n + 1) "check_many" [a0] = endF f_check_many (evSs (C n) WF false b_check_many [.val a0]) := callN_eq (fn := f_check_many) (by kernel_rfl) rfl
@[simp] theorem fb_check_polynomial : f_check_polynomial.br = false := rfl
@[simp] theorem ff_check_polynomial : f_check_polynomial.fresh = false := rfl
theorem g_check_polynomial {n : Nat} {a0 a1 : D} : C (n + 1) "check_polynomial" [a0, a1] = endF f_check_polynomial (evSs (C n) WF false b_check_polynomial [.val a0, .val a1]) := callN_eq (fn := f_check_polynomial) (by kernel_rfl) rfl
@[simp] theorem fb_check_one : f_check_one.br = false := rfl
@[simp] theorem ff_check_one : f_check_one.fresh = false := rfl
theorem g_check_one {n : Nat} {a0 a1 : D} : C (n + 1) "check_one" [a0, a1] = endF f_check_one (evSs (C n) WF false b_check_one [.val a0, .val a1]) := callN_eq (fn := f_check_one) (by kernel_rfl) rfl
@[simp] theorem fb_check_two : f_check_two.br = false := rfl
@[simp] theorem ff_check_two : f_check_two.fresh = false := rfl
theorem g_check_two {n : Nat} {a0 a1 a2 : D} : C (n + 1) "check_two" [a0, a1, a2] = endF f_check_two (evSs (C n) WF false b_check_two [.val a0, .val a1, .val a2]) := callN_eq (fn := f_check_two) (by kernel_rfl) rfl
@[simp] theorem fb_check_point : f_check_point.br = false := rfl
@[simp] theorem ff_check_point : f_check_point.fresh = false := rfl
theorem g_check_point {n : Nat} {a0 a1 : D} : C (n + 1) "check_point" [a0, a1] = endF f_check_point (evSs (C n) WF false b_check_point [.val a0, .val a1, .non, .non]) := callN_eq (fn := f_check_point) (by kernel_rfl) rfl
@[simp] theorem fb_kept_small : f_kept_small.br = false := rfl
@[simp] theorem ff_kept_small : f_kept_small.fresh = false := rfl
theorem g_kept_small {n : Nat} {a0 : D} : C (n + 1) "kept_small" [a0] = endF f_kept_small (evSs (C n) WF false b_kept_small [.val a0, .non]) := callN_eq (fn := f_kept_small) (by kernel_rfl) rfl
@[simp] theorem fb_plus_polynomials : f_plus_polynomials.br = false := rfl
@[simp] theorem ff_plus_polynomials : f_plus_polynomials.fresh = false := rfl
theorem g_plus_polynomials {n : Nat} {a0 a1 a2 : D} : C (n + 1) "plus_polynomials" [a0, a1, a2] = endF f_plus_polynomials (evSs (C n) WF false b_plus_polynomials [.val a0, .val a1, .val a2]) := callN_eq (fn := f_plus_polynomials) (by kernel_rfl) rfl
@[simp] theorem fb_minus : f_minus.br = false := rfl
@[simp] theorem ff_minus : f_minus.fresh = false := rfl
theorem g_minus {n : Nat} {a0 a1 a2 : D} : C (n + 1) "minus" [a0, a1, a2] = endF f_minus (evSs (C n) WF false b_minus [.val a0, .val a1, .val a2]) := callN_eq (fn := f_minus) (by kernel_rfl) rfl
@[simp] theorem fb_times_polynomials : f_times_polynomials.br = false := rfl
@[simp] theorem ff_times_polynomials : f_times_polynomials.fresh = false := rfl
theorem g_times_polynomials {n : Nat} {a0 a1 a2 : D} : C (n + 1) "times_polynomials" [a0, a1, a2] = endF f_times_polynomials (evSs (C n) WF false b_times_polynomials [.val a0, .val a1, .val a2]) := callN_eq (fn := f_times_polynomials) (by kernel_rfl) rfl
@[simp] theorem fb_worth : f_worth.br = false := rfl
@[simp] theorem ff_worth : f_worth.fresh = false := rfl
theorem g_worth {n : Nat} {a0 a1 a2 : D} : C (n + 1) "worth" [a0, a1, a2] = endF f_worth (evSs (C n) WF false b_worth [.val a0, .val a1, .val a2]) := callN_eq (fn := f_worth) (by kernel_rfl) rfl
@[simp] theorem fb_law_draw : f_law_draw.br = true := rfl
@[simp] theorem ff_law_draw : f_law_draw.fresh = false := rfl
theorem g_law_draw {n : Nat} {a0 a1 : D} : C (n + 1) "_law_draw" [a0, a1] = endF f_law_draw (evSs (C n) WF true b_law_draw [.own a0, .val a1, .non, .non]) := callN_eq (fn := f_law_draw) (by kernel_rfl) rfl
@[simp] theorem fb_law_of : f_law_of.br = true := rfl
@[simp] theorem ff_law_of : f_law_of.fresh = false := rfl
theorem g_law_of {n : Nat} {a0 a1 : D} : C (n + 1) "_law_of" [a0, a1] = endF f_law_of (evSs (C n) WF true b_law_of [.own a0, .val a1]) := callN_eq (fn := f_law_of) (by kernel_rfl) rfl
@[simp] theorem fb_law_same : f_law_same.br = false := rfl
@[simp] theorem ff_law_same : f_law_same.fresh = false := rfl
theorem g_law_same {n : Nat} {a0 a1 : D} : C (n + 1) "_law_same" [a0, a1] = endF f_law_same (evSs (C n) WF false b_law_same [.val a0, .val a1]) := callN_eq (fn := f_law_same) (by kernel_rfl) rfl
@[simp] theorem fb_law_jar : f_law_jar.br = false := rfl
@[simp] theorem ff_law_jar : f_law_jar.fresh = true := rfl
theorem g_law_jar {n : Nat} {a0 a1 : D} : C (n + 1) "_law_jar" [a0, a1] = endF f_law_jar (evSs (C n) WF false b_law_jar [.val a0, .val a1, .non, .non, .non]) := callN_eq (fn := f_law_jar) (by kernel_rfl) rfl
@[simp] theorem fb_law_common : f_law_common.br = false := rfl
@[simp] theorem ff_law_common : f_law_common.fresh = false := rfl
theorem g_law_common {n : Nat} {a0 a1 : D} : C (n + 1) "_law_common" [a0, a1] = endF f_law_common (evSs (C n) WF false b_law_common [.val a0, .val a1]) := callN_eq (fn := f_law_common) (by kernel_rfl) rfl
@[simp] theorem fb_law_frac : f_law_frac.br = false := rfl
@[simp] theorem ff_law_frac : f_law_frac.fresh = false := rfl
theorem g_law_frac {n : Nat} {a0 a1 : D} : C (n + 1) "_law_frac" [a0, a1] = endF f_law_frac (evSs (C n) WF false b_law_frac [.val a0, .val a1, .non]) := callN_eq (fn := f_law_frac) (by kernel_rfl) rfl
@[simp] theorem fb_law_add : f_law_add.br = false := rfl
@[simp] theorem ff_law_add : f_law_add.fresh = false := rfl
theorem g_law_add {n : Nat} {a0 a1 : D} : C (n + 1) "_law_add" [a0, a1] = endF f_law_add (evSs (C n) WF false b_law_add [.val a0, .val a1]) := callN_eq (fn := f_law_add) (by kernel_rfl) rfl
@[simp] theorem fb_law_mul : f_law_mul.br = false := rfl
@[simp] theorem ff_law_mul : f_law_mul.fresh = false := rfl
theorem g_law_mul {n : Nat} {a0 a1 : D} : C (n + 1) "_law_mul" [a0, a1] = endF f_law_mul (evSs (C n) WF false b_law_mul [.val a0, .val a1]) := callN_eq (fn := f_law_mul) (by kernel_rfl) rfl
@[simp] theorem fb_law_number : f_law_number.br = true := rfl
@[simp] theorem ff_law_number : f_law_number.fresh = false := rfl
theorem g_law_number {n : Nat} {a0 : D} : C (n + 1) "_law_number" [a0] = endF f_law_number (evSs (C n) WF true b_law_number [.own a0, .non]) := callN_eq (fn := f_law_number) (by kernel_rfl) rfl
@[simp] theorem fb_law_powers : f_law_powers.br = true := rfl
@[simp] theorem ff_law_powers : f_law_powers.fresh = false := rfl
theorem g_law_powers {n : Nat} {a0 a1 a2 : D} : C (n + 1) "_law_powers" [a0, a1, a2] = endF f_law_powers (evSs (C n) WF true b_law_powers [.own a0, .val a1, .val a2, .non, .non, .non]) := callN_eq (fn := f_law_powers) (by kernel_rfl) rfl
@[simp] theorem fb_law_keyed : f_law_keyed.br = false := rfl
@[simp] theorem ff_law_keyed : f_law_keyed.fresh = false := rfl
theorem g_law_keyed {n : Nat} {a0 : D} : C (n + 1) "_law_keyed" [a0] = endF f_law_keyed (evSs (C n) WF false b_law_keyed [.val a0]) := callN_eq (fn := f_law_keyed) (by kernel_rfl) rfl
@[simp] theorem fb_law_told_of : f_law_told_of.br = false := rfl
@[simp] theorem ff_law_told_of : f_law_told_of.fresh = false := rfl
theorem g_law_told_of {n : Nat} {a0 : D} : C (n + 1) "_law_told_of" [a0] = endF f_law_told_of (evSs (C n) WF false b_law_told_of [.val a0, .non, .non, .non, .non]) := callN_eq (fn := f_law_told_of) (by kernel_rfl) rfl
@[simp] theorem fb_law_sum : f_law_sum.br = false := rfl
@[simp] theorem ff_law_sum : f_law_sum.fresh = false := rfl
theorem g_law_sum {n : Nat} {a0 a1 a2 : D} : C (n + 1) "_law_sum" [a0, a1, a2] = endF f_law_sum (evSs (C n) WF false b_law_sum [.val a0, .val a1, .val a2, .non, .non, .non]) := callN_eq (fn := f_law_sum) (by kernel_rfl) rfl
@[simp] theorem fb_law_product : f_law_product.br = false := rfl
@[simp] theorem ff_law_product : f_law_product.fresh = false := rfl
theorem g_law_product {n : Nat} {a0 a1 : D} : C (n + 1) "_law_product" [a0, a1] = endF f_law_product (evSs (C n) WF false b_law_product [.val a0, .val a1, .non, .non, .non, .non, .non, .non, .non, .non]) := callN_eq (fn := f_law_product) (by kernel_rfl) rfl
@[simp] theorem fb_law_raised : f_law_raised.br = false := rfl
@[simp] theorem ff_law_raised : f_law_raised.fresh = false := rfl
theorem g_law_raised {n : Nat} {a0 a1 : D} : C (n + 1) "_law_raised" [a0, a1] = endF f_law_raised (evSs (C n) WF false b_law_raised [.val a0, .val a1, .non, .non]) := callN_eq (fn := f_law_raised) (by kernel_rfl) rfl
@[simp] theorem fb_law_worth : f_law_worth.br = false := rfl
@[simp] theorem ff_law_worth : f_law_worth.fresh = false := rfl
theorem g_law_worth {n : Nat} {a0 a1 : D} : C (n + 1) "_law_worth" [a0, a1] = endF f_law_worth (evSs (C n) WF false b_law_worth [.val a0, .val a1, .non, .non, .non, .non, .non]) := callN_eq (fn := f_law_worth) (by kernel_rfl) rfl
@[simp] theorem fb_law_poly : f_law_poly.br = true := rfl
@[simp] theorem ff_law_poly : f_law_poly.fresh = false := rfl
theorem g_law_poly {n : Nat} {a0 a1 a2 a3 : D} : C (n + 1) "_law_poly" [a0, a1, a2, a3] = endF f_law_poly (evSs (C n) WF true b_law_poly [.own a0, .val a1, .val a2, .val a3, .non, .non]) := callN_eq (fn := f_law_poly) (by kernel_rfl) rfl
@[simp] theorem fb_law_numbers : f_law_numbers.br = true := rfl
@[simp] theorem ff_law_numbers : f_law_numbers.fresh = false := rfl
theorem g_law_numbers {n : Nat} {a0 a1 : D} : C (n + 1) "_law_numbers" [a0, a1] = endF f_law_numbers (evSs (C n) WF true b_law_numbers [.own a0, .val a1, .non, .non]) := callN_eq (fn := f_law_numbers) (by kernel_rfl) rfl
@[simp] theorem fb_law_rows_of : f_law_rows_of.br = false := rfl
@[simp] theorem ff_law_rows_of : f_law_rows_of.fresh = false := rfl
theorem g_law_rows_of {n : Nat} {a0 a1 : D} : C (n + 1) "_law_rows_of" [a0, a1] = endF f_law_rows_of (evSs (C n) WF false b_law_rows_of [.val a0, .val a1, .non, .non, .non, .non, .non]) := callN_eq (fn := f_law_rows_of) (by kernel_rfl) rfl
@[simp] theorem fb_law_are_right : f_law_are_right.br = false := rfl
@[simp] theorem ff_law_are_right : f_law_are_right.fresh = false := rfl
theorem g_law_are_right {n : Nat} {a0 a1 a2 : D} : C (n + 1) "_law_are_right" [a0, a1, a2] = endF f_law_are_right (evSs (C n) WF false b_law_are_right [.val a0, .val a1, .val a2, .non, .non, .non]) := callN_eq (fn := f_law_are_right) (by kernel_rfl) rfl
@[simp] theorem fb_law_are_told_apart : f_law_are_told_apart.br = false := rfl
@[simp] theorem ff_law_are_told_apart : f_law_are_told_apart.fresh = false := rfl
theorem g_law_are_told_apart {n : Nat} {a0 a1 a2 : D} : C (n + 1) "_law_are_told_apart" [a0, a1, a2] = endF f_law_are_told_apart (evSs (C n) WF false b_law_are_told_apart [.val a0, .val a1, .val a2, .non, .non, .non, .non, .non, .non]) := callN_eq (fn := f_law_are_told_apart) (by kernel_rfl) rfl
@[simp] theorem fb_law_right : f_law_right.br = true := rfl
@[simp] theorem ff_law_right : f_law_right.fresh = false := rfl
theorem g_law_right {n : Nat} {a0 : D} : C (n + 1) "_law_right" [a0] = endF f_law_right (evSs (C n) WF true b_law_right [.own a0, .non, .non, .non, .non, .non, .non, .non, .non]) := callN_eq (fn := f_law_right) (by kernel_rfl) rfl
@[simp] theorem fb_law : f_law.br = false := rfl
@[simp] theorem ff_law : f_law.fresh = false := rfl
theorem g_law {n : Nat} {a0 : D} : C (n + 1) "law" [a0] = endF f_law (evSs (C n) WF false b_law [.val a0, .non]) := callN_eq (fn := f_law) (by kernel_rfl) rfl
end PV.K12
set_option Elab.async false
set_option linter.all false
set_option maxRecDepth 100000
set_option maxHeartbeats 1000000
namespace PV.K12
open PySem PV.M
/-- a whole number's datum -/
def isInt : D → Bool
  | .int _ => true
  | _ => false
def isBetween (lo hi : Int) : D → Bool
  | .int i => decide (lo ≤ i) && decide (i ≤ hi)
  | _ => false
theorem e_is_whole {n : Nat} {d : D} : C (n + 1) "is_whole" [d] = .ok (.bool (isInt d), .none) := by
  rw [g_is_whole]
  cases d <;> simp [b_is_whole, isInt]
theorem e_is_between {n : Nat} {d : D} {lo hi : Int} : C (n + 2) "is_between" [d, .int lo, .int hi] = .ok (.bool (isBetween lo hi d), .none) := by
  rw [g_is_between]
  cases d <;> simp [b_is_between, e_is_whole, isInt, isBetween]
/-- a fraction in lowest terms -/
def isRatio : D → Bool
  | .tuple [.int a, .int b] => decide (0 < b) && decide (((Nat.gcd a.natAbs b.natAbs : Nat) : Int) = 1)
  | _ => false
theorem e_is_ratio {n : Nat} {d : D} : C (n + 2) "is_ratio" [d] = .ok (.bool (isRatio d), .none) := by
  rw [g_is_ratio]
  cases d with
  | tuple ds =>
    match ds with
    | [] => simp [b_is_ratio, isRatio]
    | [x] => simp [b_is_ratio, isRatio]
    | [x, y] =>
      cases x <;> cases y <;> simp [b_is_ratio, isRatio, e_is_whole, isInt]
      done
    | x :: y :: z :: r =>
      have h : ¬ ((r.length : Int) + 1 + 1 + 1 = 2) := by omega
      simp [b_is_ratio, isRatio, h]
  | _ => simp [b_is_ratio, isRatio]

theorem e_draw {n m : Nat} {j : J} {many : Int} (ok : JOk m j) (hm : m < 2 ^ 40) (h1 : 1 ≤ many) (h2 : many < 2 ^ 30) : Dr (m + 1) (Below many) (C (n + 1) "_law_draw" [jd j, .int many]) := by
  obtain ⟨a, b, c⟩ := j
  obtain ⟨a0, b0, b1, c0, c1⟩ := ok
  simp only at a0 b0 b1 c0 c1
  rw [g_law_draw]
  by_cases h : 0 < a
  · refine ⟨.int (a % many), ⟨a / many, b, c⟩, ?_, ⟨?_, b0, b1, c0, by simp only; omega⟩, _, rfl, Int.emod_nonneg _ (by omega), Int.emod_lt_of_pos _ (by omega)⟩
    · simp (disch := omega) [b_law_draw, jd, h, divmod_int, jarF, place, L2.ixN]
    · exact Int.ediv_nonneg a0 (by omega)
  · have s0 := Int.emod_nonneg (b * 48271 + (c + 1) * 40009 + 3) (b := 2147483477) (by decide)
    have s1 := Int.emod_lt_of_pos (b * 48271 + (c + 1) * 40009 + 3) (b := 2147483477) (by decide)
    have t0 := Int.emod_nonneg ((b * 48271 + (c + 1) * 40009 + 3) % 2147483477) (b := 6007) (by decide)
    have t1 := Int.emod_lt_of_pos ((b * 48271 + (c + 1) * 40009 + 3) % 2147483477) (b := 6007) (by decide)
    refine ⟨.int ((((b * 48271 + (c + 1) * 40009 + 3) % 2147483477 * ((b * 48271 + (c + 1) * 40009 + 3) % 2147483477 % 6007 + 20011)) % 2147483477 / 613) % many), ⟨a, (b * 48271 + (c + 1) * 40009 + 3) % 2147483477, c + 1⟩, ?_, ⟨a0, s0, by simp only; omega, by simp only; omega, by simp only; omega⟩, _, rfl, Int.emod_nonneg _ (by omega), Int.emod_lt_of_pos _ (by omega)⟩
    simp (disch := omega) [b_law_draw, jd, h, setF, place, L2.ixN, mul_int, mod_pos, fdiv_pos]
theorem e_of {n m : Nat} {j : J} {xs : List D} {d : D} (hd : d = .tuple xs ∨ d = .list xs) (ok : JOk m j) (hm : m < 2 ^ 40) (h1 : xs ≠ []) (h2 : xs.length < 2 ^ 20) : Dr (m + 1) (· ∈ xs) (C (n + 2) "_law_of" [jd j, d]) := by
  have hl : 0 < xs.length := List.length_pos_iff.mpr h1
  obtain ⟨x, j', e, ok', r, rfl, r0, r1⟩ := e_draw (n := n) (many := xs.length) ok hm (by omega) (by omega)
  have hr : r.toNat < xs.length := by omega
  refine ⟨xs[r.toNat], j', ?_, ok', List.getElem_mem hr⟩
  rw [g_law_of]
  rcases hd with rfl | rfl <;> simp [b_law_of, e, r0, hr]
theorem e_same {n : Nat} {d : D} (h : Sh d) : C (n + 1) "_law_same" [d, d] = .ok (.bool true, .none) := by
  rw [g_law_same]
  simp [b_law_same, h.one, cmp_shown h]
theorem e_common {n : Nat} {a b : Int} (hb : b.natAbs < 2 ^ 4000) : C (n + 1) "_law_common" [.int a, .int b] = .ok (.int ((Nat.gcd a.natAbs b.natAbs : Nat) : Int), .none) := by
  rw [g_law_common]
  have e1 : ∀ i : Int, (if i < 0 then -i else i) = (i.natAbs : Int) := fun i => by split <;> omega
  have e2 := euclid2 (test := wTest (C n) w1_law_common) (body := wBody (C n) WF false l1_law_common) (fun a b => [.val (.int a), .val (.int b)]) (fun a b => by simp [w1_law_common]) (fun a b h => by simp [l1_law_common, mod_pos h]) 4000 b.natAbs a.natAbs WF hb (by rw [WF_eq]; omega)
  simp [b_law_common, e1, e2]
/-- the fraction of two numbers -/
theorem e_ratio {n : Nat} {t b : Int} (hb : b ≠ 0) (hl : b.natAbs < 2 ^ 4000) : C (n + 1) "ratio" [.int t, .int b] = .ok (fr (Rat.divInt t b), .none) := by
  obtain ⟨g0, gl, p1, p2⟩ := frac_parts (t := t) hb rfl
  rw [g_ratio]
  generalize hg : (if 0 < b then ((Nat.gcd t.natAbs b.natAbs : Nat) : Int) else -((Nat.gcd t.natAbs b.natAbs : Nat) : Int)) = g at *
  have hl' : g.natAbs < 2 ^ 9000 := lt_pow (Nat.lt_of_le_of_lt gl hl) (by omega)
  have d1 : binF .fdiv (.int t) (.int g) = some (.int (Rat.divInt t b).num) := by rw [fdiv_big g0 hl', p1]
  have d2 : binF .fdiv (.int b) (.int g) = some (.int ((Rat.divInt t b).den : Int)) := by rw [fdiv_big g0 hl', p2]
  by_cases h : 0 < b
  · rw [if_pos h] at hg
    simp [b_ratio, h, hg, d1, d2, fr]
  · rw [if_neg h] at hg
    simp [b_ratio, h, hg, d1, d2, fr]
theorem e_law_frac {n : Nat} {t b : Int} (hb : b ≠ 0) (hl : b.natAbs < 2 ^ 4000) : C (n + 2) "_law_frac" [.int t, .int b] = .ok (fr (Rat.divInt t b), .none) := by
  obtain ⟨g0, gl, p1, p2⟩ := frac_parts (t := t) hb rfl
  rw [g_law_frac]
  generalize hg : (if 0 < b then ((Nat.gcd t.natAbs b.natAbs : Nat) : Int) else -((Nat.gcd t.natAbs b.natAbs : Nat) : Int)) = g at *
  have hl' : g.natAbs < 2 ^ 9000 := lt_pow (Nat.lt_of_le_of_lt gl hl) (by omega)
  have d1 : binF .fdiv (.int t) (.int g) = some (.int (Rat.divInt t b).num) := by rw [fdiv_big g0 hl', p1]
  have d2 : binF .fdiv (.int b) (.int g) = some (.int ((Rat.divInt t b).den : Int)) := by rw [fdiv_big g0 hl', p2]
  by_cases h : 0 < b
  · rw [if_pos h] at hg
    simp [b_law_frac, e_common hl, h, hg, d1, d2, fr]
  · rw [if_neg h] at hg
    simp [b_law_frac, e_common hl, h, hg, d1, d2, fr]
section
variable {n : Nat} {p q : Rat}
theorem dd4 (hp : Sm p) (hq : Sm q) : ((p.den : Int) * q.den).natAbs < 2 ^ 4000 := lt_pow (hp.dd hq) (by omega)
theorem e_plus (hp : Sm p) (hq : Sm q) : C (n + 2) "plus_ratios" [fr p, fr q] = .ok (fr (p + q), .none) := by
  rw [g_plus_ratios]
  have e := e_ratio (n := n) (t := p.num * q.den + q.num * p.den) (dd_ne p q) (dd4 hp hq)
  rw [add_divInt] at e
  simp [b_plus_ratios, fr, mul_big hp.n' hq.d', mul_big hq.n' hp.d', mul_big hp.d' hq.d', e]
theorem e_times (hp : Sm p) (hq : Sm q) : C (n + 2) "times_ratios" [fr p, fr q] = .ok (fr (p * q), .none) := by
  rw [g_times_ratios]
  have e := e_ratio (n := n) (t := p.num * q.num) (dd_ne p q) (dd4 hp hq)
  rw [mul_divInt] at e
  simp [b_times_ratios, fr, mul_big hp.n' hq.n', mul_big hp.d' hq.d', e]
theorem e_law_add (hp : Sm p) (hq : Sm q) : C (n + 3) "_law_add" [fr p, fr q] = .ok (fr (p + q), .none) := by
  rw [g_law_add]
  have e := e_law_frac (n := n) (t := p.num * q.den + q.num * p.den) (dd_ne p q) (dd4 hp hq)
  rw [add_divInt] at e
  simp [b_law_add, fr, mul_big hp.n' hq.d', mul_big hq.n' hp.d', mul_big hp.d' hq.d', e]
theorem e_law_mul (hp : Sm p) (hq : Sm q) : C (n + 3) "_law_mul" [fr p, fr q] = .ok (fr (p * q), .none) := by
  rw [g_law_mul]
  have e := e_law_frac (n := n) (t := p.num * q.num) (dd_ne p q) (dd4 hp hq)
  rw [mul_divInt] at e
  simp [b_law_mul, fr, mul_big hp.n' hq.n', mul_big hp.d' hq.d', e]
end
end PV.K12
set_option Elab.async false
set_option linter.all false
set_option maxRecDepth 100000
set_option maxHeartbeats 1000000
namespace PV.K12
open PySem PV.M
/-- the ints of a row, added -/
def sumD : List D → Int
  | [] => 0
  | .int i :: r => i + sumD r
  | _ :: r => sumD r
theorem sumD_map : ∀ ns : List Int, sumD (ns.map .int) = ns.sum
  | [] => rfl
  | n :: ns => by
    rw [List.map_cons, List.sum_cons]
    show n + sumD _ = _
    rw [sumD_map ns]
def isPow (many : Int) : D → Bool
  | .tuple ps => decide ((ps.length : Int) = many) && allB (isBetween 0 40) ps && decide (sumD ps ≤ 40)
  | _ => false
def nonZero : D → Bool
  | .tuple [.int a, .int b] => !decide (a = 0)
  | _ => false
def isTerm (many : Int) : D → Bool
  | .tuple [p, q] => isPow many p && isRatio q && nonZero q
  | _ => false
theorem between_int {d : D} (h : isBetween 0 40 d = true) : ∃ i, d = .int i := by
  cases d <;> simp [isBetween] at h
  exact ⟨_, rfl⟩
theorem ratio_form {d : D} (h : isRatio d = true) : ∃ a b, d = .tuple [.int a, .int b] ∧ 0 < b ∧ Nat.gcd a.natAbs b.natAbs = 1 := by
  unfold isRatio at h
  split at h
  · rename_i a b
    simp at h
    exact ⟨a, b, rfl, h.1, by omega⟩
  · cases h
theorem ne_zero {a b : Int} (h : isRatio (.tuple [.int a, .int b]) = true) : cmpF .ne (.tuple [.int a, .int b]) (.tuple [.int 0, .int 1]) = some (!decide (a = 0)) := by
  rw [ne_data (by simp [eqOk, PyData.canLay0, PyData.canLayAll0, PyData.depth, PyData.depthAll, noDict, noDict.noDicts]) (by decide)]
  simp
  obtain ⟨a', b', e, h1, h2⟩ := ratio_form h
  cases e
  by_cases ha : a = 0
  · subst ha
    simp at h2
    simp
    omega
  · simp [ha]
theorem e_is_term {n : Nat} {many : Int} {d : D} (hm : many ≤ 1000) : C (n + 3) "is_term" [.int many, d] = .ok (.bool (isTerm many d), .none) := by
  rw [g_is_term]
  cases d with
  | tuple ds =>
    match ds with
    | [] => simp [b_is_term, isTerm]
    | [x] => simp [b_is_term, isTerm]
    | x :: y :: z :: r =>
      have h : ¬ ((r.length : Int) + 1 + 1 + 1 = 2) := by omega
      simp [b_is_term, isTerm, h]
    | [p, q] =>
      cases p with
      | tuple ps =>
        by_cases h1 : (ps.length : Int) = many
        · simp [b_is_term, h1]
          rw [cRun_map1 (fun x => PyData.bool (isBetween 0 40 x))]
          case h => rfl
          case hl =>
            show _ ≤ 16777216
            omega
          case hr => rfl
          case ht =>
            intro x hx
            simp [cTurn_eq, x1_is_term, e_is_between]
          simp
          cases h2 : allB (isBetween 0 40) ps with
          | true =>
            obtain ⟨ns, rfl⟩ := ints_of (fun d => between_int) h2
            have h1' : (ns.length : Int) = many := by simpa using h1
            by_cases h3 : 40 < ns.sum
            · have h4 : ¬ (ns.sum ≤ 40) := by omega
              simp [h2, h3, h4, isTerm, isPow, sumD_map]
            · have h4 : ns.sum ≤ 40 := by omega
              simp [h2, h3, h4, isTerm, isPow, sumD_map, e_is_ratio, h1']
              cases h5 : isRatio q with
              | false => simp
              | true =>
                obtain ⟨x, y, rfl, h6, h7⟩ := ratio_form h5
                simp [ne_zero h5, nonZero]
          | false => simp [h2, isTerm, isPow]
        · simp [b_is_term, h1, isTerm, isPow]
      | _ => simp [b_is_term, isTerm, isPow]
  | _ => simp [b_is_term, isTerm]
/-- what a term is compared by -/
def keyOf : D → D
  | .tuple (.tuple ps :: _) => .tuple [.int (sumD ps), .tuple ps]
  | _ => .none
def descB (ts : List D) : Bool := allB (fun p : D × D => PySem.W.dataLt (keyOf p.2) (keyOf p.1)) (ts.zip (ts.drop 1))
def isPoly (many : Int) : D → Bool
  | .tuple ts => decide ((ts.length : Int) ≤ 600) && allB (isTerm many) ts && descB ts
  | _ => false
theorem term_form {many : Int} {t : D} (h : isTerm many t = true) : ∃ (ns : List Int) (q : D), t = .tuple [.tuple (ns.map .int), q] ∧ keyOf t = keyI ns.sum ns ∧ (ns.length : Int) = many := by
  unfold isTerm at h
  split at h
  · rename_i p q
    simp at h
    obtain ⟨⟨hp, _⟩, _⟩ := h
    unfold isPow at hp
    split at hp
    · rename_i ps
      simp at hp
      obtain ⟨ns, rfl⟩ := ints_of (fun d => between_int) hp.1.2
      exact ⟨ns, q, rfl, by simp [keyOf, keyI, sumD_map], by simpa using hp.1.1⟩
    · cases hp
  · cases h
theorem e_rank_of {n : Nat} {ns : List Int} : C (n + 1) "rank_of" [.tuple (ns.map .int)] = .ok (keyI ns.sum ns, .none) := by
  rw [g_rank_of]
  simp [b_rank_of, keyI]
theorem e_keyed {n : Nat} {ns : List Int} : C (n + 1) "_law_keyed" [.tuple (ns.map .int)] = .ok (keyI ns.sum ns, .none) := by
  rw [g_law_keyed]
  simp [b_law_keyed, keyI]
theorem e_is_polynomial_by {n : Nat} {many : Int} {d : D} (hm : many ≤ 1000) : C (n + 4) "is_polynomial_by" [.int many, d] = .ok (.bool (isPoly many d), .none) := by
  rw [g_is_polynomial_by]
  cases d with
  | tuple ts =>
    by_cases h1 : 600 < (ts.length : Int)
    · have h2 : ¬ ((ts.length : Int) ≤ 600) := by omega
      simp [b_is_polynomial_by, isPoly, h1, h2]
    · have h2 : (ts.length : Int) ≤ 600 := by omega
      have h3 : ts.length ≤ LINE := by
        show _ ≤ 16777216
        omega
      simp [b_is_polynomial_by, h1]
      rw [cRun_map1 (fun x => PyData.bool (isTerm many x))]
      case h => rfl
      case hl => exact h3
      case hr => rfl
      case ht =>
        intro x hx
        simp [cTurn_eq, x1_is_polynomial_by, e_is_term hm]
      cases h4 : allB (isTerm many) ts with
      | false => simp [h4, isPoly]
      | true =>
        simp [h4, isPoly, h2]
        rw [cRun_zip (fun x y => PyData.bool (PySem.W.dataLt (keyOf y) (keyOf x)))]
        case h => rfl
        case hl => exact h3
        case hr => rfl
        case ht =>
          intro x hx y hy
          obtain ⟨ns, q, rfl, k1, _⟩ := term_form (allB_true.mp h4 x hx)
          obtain ⟨ms, q', rfl, k2, _⟩ := term_form (allB_true.mp h4 y (List.mem_of_mem_tail hy))
          rw [k1, k2]
          simp [cTurn_eq, x2_is_polynomial_by, e_rank_of, gt_key]
        simp [descB]
  | _ => simp [b_is_polynomial_by, isPoly]
theorem e_check_many {n : Nat} {many : Int} (h0 : 0 ≤ many) (h1 : many ≤ 4) : C (n + 3) "check_many" [.int many] = .ok (.none, .none) := by
  rw [g_check_many]
  simp [b_check_many, e_is_between, isBetween, h0, h1]

/-! ### polynomials -/
structure PolyT (n deg len t : Nat) (l : Pl) : Prop where
  fit : ∀ p ∈ l, p.1.length = n ∧ (∀ x ∈ p.1, 0 ≤ x) ∧ p.1.sum ≤ deg
  nz : ∀ p ∈ l, p.2 ≠ 0
  bs : ∀ p ∈ l, BS t 1 p.2
  few : l.length ≤ len
  srt : (keys l).Pairwise rgt
theorem PolyT.fits {n deg len t : Nat} {l : Pl} (h : PolyT n deg len t l) : Fit n l := fun p hp => ⟨(h.fit p hp).1, (h.fit p hp).2.1⟩
theorem PolyT.nodup {n deg len t : Nat} {l : Pl} (h : PolyT n deg len t l) : (keys l).Nodup := List.Pairwise.imp (R := rgt) (S := fun a b => a ≠ b) (fun {a b} z e => rgt_irrefl a (by rw [← e] at z; exact z)) h.srt
theorem le_sum : ∀ {k : List Int}, (∀ x ∈ k, 0 ≤ x) → 0 ≤ k.sum ∧ ∀ x ∈ k, x ≤ k.sum
  | [], _ => ⟨by simp, fun x hx => by cases hx⟩
  | y :: k, h => by
    obtain ⟨a, b⟩ := le_sum fun x hx => h x (List.mem_cons_of_mem _ hx)
    have y0 := h y (List.mem_cons_self ..)
    rw [List.sum_cons]
    refine ⟨by omega, fun x hx => ?_⟩
    rcases List.mem_cons.mp hx with rfl | hx
    · omega
    · have := b x hx
      omega
theorem ratio_fr (q : Rat) : isRatio (fr q) = true := by
  have h1 := q.den_pos
  have h2 := q.reduced
  unfold Nat.Coprime at h2
  show (decide (0 < (q.den : Int)) && decide (((Nat.gcd q.num.natAbs (q.den : Int).natAbs : Nat) : Int) = 1)) = true
  rw [Int.natAbs_natCast, h2]
  simp
  omega
theorem ne_fr (q : Rat) : cmpF .ne (fr q) (.tuple [.int 0, .int 1]) = some (decide (q ≠ 0)) := by
  have h := ne_zero (a := q.num) (b := (q.den : Int)) (ratio_fr q)
  show cmpF .ne (.tuple [.int q.num, .int (q.den : Int)]) _ = _
  rw [h]
  by_cases e : q = 0
  · subst e
    simp
  · have : q.num ≠ 0 := fun z => e (Rat.num_eq_zero.mp z)
    simp [e, this]
theorem isTerm_td {n deg : Nat} {p : List Int × Rat} (h1 : p.1.length = n) (h2 : ∀ x ∈ p.1, 0 ≤ x) (h3 : p.1.sum ≤ deg) (h4 : p.2 ≠ 0) (hd : deg ≤ 40) : isTerm n (td p) = true := by
  obtain ⟨_, le⟩ := le_sum h2
  show (isPow n (pw p.1) && isRatio (fr p.2) && nonZero (fr p.2)) = true
  rw [ratio_fr]
  have a : isPow n (pw p.1) = true := by
    show (decide (((p.1.map PyData.int).length : Int) = n) && allB (isBetween 0 40) (p.1.map PyData.int) && decide (sumD (p.1.map PyData.int) ≤ 40)) = true
    rw [sumD_map]
    simp only [Bool.and_eq_true, decide_eq_true_eq, List.length_map, allB_true]
    refine ⟨⟨by omega, fun x hx => ?_⟩, by omega⟩
    obtain ⟨y, hy, rfl⟩ := List.mem_map.mp hx
    have := h2 y hy
    have := le y hy
    simp [isBetween]
    omega
  have b : nonZero (fr p.2) = true := by
    show (!decide (p.2.num = 0)) = true
    have : p.2.num ≠ 0 := fun z => h4 (Rat.num_eq_zero.mp z)
    simp [this]
  rw [a, b]
  rfl
theorem keyOf_td (p : List Int × Rat) : keyOf (td p) = keyI p.1.sum p.1 := by
  show PyData.tuple [.int (sumD (p.1.map PyData.int)), .tuple (p.1.map PyData.int)] = _
  rw [sumD_map]
  rfl
theorem pair_next {A : Type} {R : A → A → Prop} : ∀ {l : List A}, l.Pairwise R → ∀ p ∈ l.zip (l.drop 1), R p.1 p.2
  | [], _, p, hp => by simp at hp
  | [x], _, p, hp => by simp at hp
  | x :: y :: l, h, p, hp => by
    rw [List.drop_succ_cons, List.drop_zero, List.zip_cons_cons] at hp
    obtain ⟨a, b⟩ := List.pairwise_cons.mp h
    rcases List.mem_cons.mp hp with rfl | hp
    · exact a y (List.mem_cons_self ..)
    · exact pair_next b p (by simpa using hp)
theorem isPoly_pl {n deg len t : Nat} {l : Pl} (h : PolyT n deg len t l) (hd : deg ≤ 40) (hl : len ≤ 600) : isPoly n (pl l) = true := by
  have few := h.few
  show (decide (((l.map td).length : Int) ≤ 600) && allB (isTerm n) (l.map td) && descB (l.map td)) = true
  have a : allB (isTerm n) (l.map td) = true := allB_true.mpr fun x hx => by
    obtain ⟨p, hp, rfl⟩ := List.mem_map.mp hx
    obtain ⟨h1, h2, h3⟩ := h.fit p hp
    exact isTerm_td h1 h2 h3 (h.nz p hp) hd
  have b : descB (l.map td) = true := by
    unfold descB
    rw [← List.map_drop, List.zip_map, allB_map]
    refine allB_true.mpr fun q hq => ?_
    have hs : l.Pairwise fun a b => rgt a.1 b.1 := by
      have := h.srt
      unfold keys at this
      exact List.pairwise_map.mp this
    have := pair_next hs q hq
    show PySem.W.dataLt (keyOf (td q.2)) (keyOf (td q.1)) = true
    rw [keyOf_td, keyOf_td]
    exact this
  rw [a, b, decide_eq_true (by rw [List.length_map]; omega)]
  rfl
section
variable {n : Nat}
theorem e_check_polynomial {many deg len t : Nat} {l : Pl} (h : PolyT many deg len t l) (hm : many ≤ 4) (hd : deg ≤ 40) (hl : len ≤ 600) : C (n + 5) "check_polynomial" [.int many, pl l] = .ok (.none, .none) := by
  rw [g_check_polynomial]
  have e := e_is_polynomial_by (n := n) (many := many) (d := pl l) (by omega)
  rw [isPoly_pl h hd hl] at e
  simp [b_check_polynomial, e]
theorem e_check_one {many deg len t : Nat} {l : Pl} (h : PolyT many deg len t l) (hm : many ≤ 4) (hd : deg ≤ 40) (hl : len ≤ 600) : C (n + 6) "check_one" [.int many, pl l] = .ok (.none, .none) := by
  rw [g_check_one]
  simp [b_check_one, e_check_many (n := n + 2) (many := many) (by omega) (by omega), e_check_polynomial (n := n) h hm hd hl]
theorem e_check_two {many deg len t deg' len' t' : Nat} {l l' : Pl} (h : PolyT many deg len t l) (h' : PolyT many deg' len' t' l') (hm : many ≤ 4) (hd : deg ≤ 40) (hl : len ≤ 600) (hd' : deg' ≤ 40) (hl' : len' ≤ 600) : C (n + 7) "check_two" [.int many, pl l, pl l'] = .ok (.none, .none) := by
  rw [g_check_two]
  simp [b_check_two, e_check_one (n := n) h hm hd hl, e_check_polynomial (n := n + 1) h' hm hd' hl']
theorem walk_dd (l : Pl) : (dd l).map (·.1) = (keys l).map pw := by
  unfold dd keys
  rw [List.map_map, List.map_map]
  rfl
/-- what stands under a key, as it is looked up -/
def look1 (l : Pl) (k : List Int) : D := fr ((aget l k).getD 0)
theorem idx_look {l : Pl} {k : List Int} (h : k ∈ keys l) : idxF (.dict (dd l)) (pw k) = some (look1 l k) := by
  rw [idx_dd]
  cases e : aget l k with
  | none => exact absurd h (aget_none.mp e)
  | some q => simp [look1, e]
theorem fil_nz {l : Pl} (hn : (keys l).Nodup) : (keys l).filter (fun k => decide ((aget l k).getD 0 ≠ 0)) = keys (nz l) := by
  unfold keys nz
  rw [List.filter_map]
  congr 1
  apply List.filter_congr
  intro p hp
  show decide ((aget l p.1).getD 0 ≠ 0) = decide (p.2 ≠ 0)
  rw [aget_of (q := p.2) hn hp]
  rfl
theorem srt_sub {l : Pl} {k : List Int} (h : k ∈ srt (keys (nz l))) : k ∈ keys l := by
  have := (srt_perm _).mem_iff.mp h
  obtain ⟨p, hp, rfl⟩ := List.mem_map.mp this
  exact List.mem_map_of_mem (f := (·.1)) (List.mem_filter.mp hp).1
theorem len_keys_nz (l : Pl) : (keys (nz l)).length ≤ l.length := by
  unfold keys nz
  rw [List.length_map]
  exact List.length_filter_le _ _
theorem e_ordered {l : Pl} (hn : (keys l).Nodup) (hl : l.length ≤ 1000) : C (n + 1) "ordered" [.dict (dd l)] = .ok (pl (ord l), .none) := by
  have hk : (keys l).length ≤ 1000 := by
    unfold keys
    simpa using hl
  have hk2 := len_keys_nz l
  have L : LINE = 16777216 := rfl
  rw [g_ordered]
  simp [b_ordered]
  rw [show (List.map (fun x => x.fst) (dd l)) = (keys l).map pw from walk_dd l]
  rw [cRun_fil pw (fun k => decide ((aget l k).getD 0 ≠ 0)) pw]
  case h => rfl
  case hl => omega
  case hr => rfl
  case ht =>
    intro k hk
    by_cases h : (aget l k).getD 0 = 0 <;> simp [cTurn_eq, x1_ordered, t1_ordered, idx_look hk, look1, ne_fr, h]
  rw [fil_nz hn]
  simp [sortrank_keys (ks := keys (nz l)) (by omega)]
  rw [cRun_typed pw (fun k => td (k, (aget l k).getD 0))]
  case h => rfl
  case hl => rw [(srt_perm _).length_eq]; omega
  case hr => rfl
  case ht =>
    intro k hk
    simp [cTurn_eq, x2_ordered, idx_look (srt_sub hk), look1, td]
  simp [pl, ord, List.map_map]
theorem e_told_of {l : Pl} (hn : (keys l).Nodup) (hl : l.length ≤ 1000) : C (n + 2) "_law_told_of" [.dict (dd l)] = .ok (pl (ord l), .none) := by
  have hk : (keys l).length ≤ 1000 := by
    unfold keys
    simpa using hl
  have hk2 := len_keys_nz l
  have L : LINE = 16777216 := rfl
  have e1 : ∀ k : List Int, C (n + 1) "_law_keyed" [pw k] = .ok (keyI k.sum k, .none) := fun k => e_keyed (n := n) (ns := k)
  rw [g_law_told_of]
  simp [b_law_told_of]
  rw [show (List.map (fun x => x.fst) (dd l)) = (keys l).map pw from walk_dd l]
  rw [cRun_fil pw (fun k => decide ((aget l k).getD 0 ≠ 0)) pw]
  case h => rfl
  case hl => omega
  case hr => rfl
  case ht =>
    intro k hk
    by_cases h : (aget l k).getD 0 = 0
    · simp [cTurn_eq, x1_law_told_of, t1_law_told_of, idx_look hk, look1, h, fr]
    · have h' : ((aget l k).getD 0).num ≠ 0 := fun z => h (Rat.num_eq_zero.mp z)
      simp [cTurn_eq, x1_law_told_of, t1_law_told_of, idx_look hk, look1, h, fr, h']
  rw [fil_nz hn]
  simp
  rw [cRun_typed pw (fun k => keyI k.sum k)]
  case h => rfl
  case hl => omega
  case hr => rfl
  case ht =>
    intro k hk
    simp [cTurn_eq, x2_law_told_of, e1]
  simp [sorted_keys (ks := keys (nz l)) (nodup_nz hn) (by omega)]
  rw [← List.map_reverse, cRun_typed (fun k : List Int => keyI k.sum k) (fun k => td (k, (aget l k).getD 0))]
  case h => rfl
  case hl => rw [List.length_reverse, (srt_perm _).length_eq]; omega
  case hr => rfl
  case ht =>
    intro k hk
    have := idx_look (srt_sub (List.mem_reverse.mp hk))
    simp [cTurn_eq, x3_law_told_of, keyI]
    rw [show PyData.tuple (k.map .int) = pw k from rfl, this]
    rfl
  simp [pl, ord, List.map_map]
end
end PV.K12
set_option Elab.async false
set_option linter.all false
set_option maxRecDepth 100000
set_option maxHeartbeats 1000000
namespace PV.K12
open PySem PV.M
/-! ### products of polynomials -/
/-- a dict that is being filled -/
structure DOk (n deg t c : Nat) (l : Pl) : Prop where
  nd : (keys l).Nodup
  fit : ∀ p ∈ l, p.1.length = n ∧ (∀ x ∈ p.1, 0 ≤ x) ∧ p.1.sum ≤ deg
  bs : ∀ p ∈ l, BS t c p.2
  few : l.length ≤ c
theorem DOk.nil {n deg t : Nat} : DOk n deg t 0 [] := ⟨List.Pairwise.nil, (fun p h => by cases h), (fun p h => by cases h), Nat.le_refl _⟩
theorem DOk.put {n deg t c : Nat} {l : Pl} {k : List Int} {v : Rat} (h : DOk n deg t c l) (hk : k.length = n ∧ (∀ x ∈ k, 0 ≤ x) ∧ k.sum ≤ deg) (hv : BS t (c + 1) v) : DOk n deg t (c + 1) (aput l k v) := by
  refine ⟨nodup_aput h.nd, fun p hp => ?_, fun p hp => ?_, ?_⟩
  · rcases mem_aput hp with rfl | hp
    · exact hk
    · exact h.fit p hp
  · rcases mem_aput hp with rfl | hp
    · exact hv
    · exact (h.bs p hp).more (by omega)
  · have := len_aput (k := k) (v := v) (l := l)
    have := h.few
    omega
theorem DOk.get {n deg t c : Nat} {l : Pl} {k : List Int} (h : DOk n deg t c l) : BS t c ((aget l k).getD 0) := by
  cases e : aget l k with
  | none => exact BS.zero
  | some q => exact h.bs _ (aget_mem e)
theorem DOk.acc {n deg t c : Nat} {l : Pl} {k : List Int} {x : Rat} (h : DOk n deg t c l) (hk : k.length = n ∧ (∀ x ∈ k, 0 ≤ x) ∧ k.sum ≤ deg) (hx : BS t 1 x) : DOk n deg t (c + 1) (acc l k x) := h.put hk (h.get.add hx)
theorem DOk.ord {n deg t c : Nat} {l : Pl} (h : DOk n deg t c l) (hc : c ≤ 1000) : PolyT n deg c (t + 1) (ord l) :=
  ⟨fun p hp => h.fit p ((mem_ord h.nd).mp hp).1, fun p hp => ((mem_ord h.nd).mp hp).2, fun p hp => (h.bs p ((mem_ord h.nd).mp hp).1).up hc, Nat.le_trans len_ord h.few, ord_sorted h.nd⟩
theorem kadd_fit {n d d' : Nat} : ∀ {a b : List Int}, a.length = b.length → (∀ x ∈ a, 0 ≤ x) → (∀ x ∈ b, 0 ≤ x) → (kadd a b).length = a.length ∧ (∀ x ∈ kadd a b, 0 ≤ x) ∧ (kadd a b).sum = a.sum + b.sum
  | [], [], _, _, _ => ⟨rfl, (fun x hx => by cases hx), rfl⟩
  | x :: a, y :: b, h, h1, h2 => by
    obtain ⟨i1, i2, i3⟩ := kadd_fit (n := n) (d := d) (d' := d') (a := a) (b := b) (by simpa using h) (fun z hz => h1 z (List.mem_cons_of_mem _ hz)) fun z hz => h2 z (List.mem_cons_of_mem _ hz)
    have x0 := h1 x (List.mem_cons_self ..)
    have y0 := h2 y (List.mem_cons_self ..)
    have e : kadd (x :: a) (y :: b) = (x + y) :: kadd a b := rfl
    rw [e]
    refine ⟨by simp [i1], fun z hz => ?_, by rw [List.sum_cons, List.sum_cons, List.sum_cons, i3]; omega⟩
    rcases List.mem_cons.mp hz with rfl | hz
    · omega
    · exact i2 z hz
  | [], _ :: _, h, _, _ => by simp at h
  | _ :: _, [], h, _, _ => by simp at h
theorem flats_ints : ∀ ns : List Int, flat.flats (ns.map .int) = true
  | [] => rfl
  | n :: ns => by
    rw [List.map_cons, flat.flats, flats_ints ns]
    rfl
theorem flats_td : ∀ l : Pl, flat.flats (l.map td) = true
  | [] => rfl
  | p :: l => by
    rw [List.map_cons, flat.flats, flats_td l, Bool.and_true]
    show flat.flats [pw p.1, fr p.2] = true
    rw [flat.flats, show flat (pw p.1) = true from flats_ints _]
    rfl
theorem flat_pl (l : Pl) : flat (pl l) = true := flats_td l
theorem get_dd0 {l : Pl} {k : List Int} : getF (.dict (dd l)) (pw k) (.tuple [.int 0, .int 1]) = some (fr ((aget l k).getD 0)) := get_dd (z := 0)
section
variable {n : Nat}
theorem e_times_by {N d1 d2 l1 l2 t1 t2 : Nat} {one two : Pl} (h1 : PolyT N d1 l1 t1 one) (h2 : PolyT N d2 l2 t2 two) (ht : t1 + t2 ≤ 50) (hN : N ≤ 1000) (hl : one.length * two.length ≤ 600) :
    C (n + 3) "times_by" [pl one, pl two] = .ok (pl (ord (tmul one two)), .none) ∧ DOk N (d1 + d2) (t1 + t2) (one.length * two.length) (tmul one two) := by
  have L : LINE = 16777216 := rfl
  have inner : ∀ (p : List Int × Rat), p ∈ one → ∀ (c : Nat) (d : Pl) (s5 s6 s7 : Slot), DOk N (d1 + d2) (t1 + t2) c d → c + two.length ≤ 600 → sOwn (some s5) = false → sOwn (some s6) = false → sOwn (some s7) = false →
      ∃ (r5 r6 r7 : Slot), forLoop (fTurn (C (n + 2)) WF false (.tup [.name 5, .name 6]) l1_times_by) (two.map td) [.val (pl one), .val (pl two), .own (.dict (dd d)), .val (pw p.1), .val (fr p.2), s5, s6, s7, .non, .non] = .ok (.nx, [.val (pl one), .val (pl two), .own (.dict (dd (tinn p d two))), .val (pw p.1), .val (fr p.2), r5, r6, r7, .non, .non]) ∧
        DOk N (d1 + d2) (t1 + t2) (c + two.length) (tinn p d two) ∧ sOwn (some r5) = false ∧ sOwn (some r6) = false ∧ sOwn (some r7) = false := by
    intro p hp c d s5 s6 s7 hd hc e5 e6 e7
    obtain ⟨a1, a2, a3⟩ := h1.fit p hp
    have key := forLoop_fold (turn := fTurn (C (n + 2)) WF false (.tup [.name 5, .name 6]) l1_times_by) td (fun (d : Pl) q => acc d (kadd p.1 q.1) (p.2 * q.2))
      (fun d rest e => ∃ (c' : Nat) (s5 s6 s7 : Slot), (∀ q ∈ rest, q ∈ two) ∧ DOk N (d1 + d2) (t1 + t2) c' d ∧ c' + rest.length = c + two.length ∧ e = [.val (pl one), .val (pl two), .own (.dict (dd d)), .val (pw p.1), .val (fr p.2), s5, s6, s7, .non, .non] ∧ sOwn (some s5) = false ∧ sOwn (some s6) = false ∧ sOwn (some s7) = false)
      (by
        rintro d q rest e ⟨c', s5, s6, s7, hr, hd, hc', rfl, e5, e6, e7⟩
        simp only [List.length_cons] at hc'
        have hq := hr q (List.mem_cons_self ..)
        obtain ⟨b1, b2, b3⟩ := h2.fit q hq
        obtain ⟨k1, k2, k3⟩ := kadd_fit (n := N) (d := d1) (d' := d2) (a := p.1) (b := q.1) (by omega) a2 b2
        have bx := (h1.bs p hp).mul (h2.bs q hq)
        have hd' := hd.acc (k := kadd p.1 q.1) (x := p.2 * q.2) ⟨by omega, k2, by omega⟩ (by simpa using bx)
        refine ⟨[.val (pl one), .val (pl two), .own (.dict (dd (acc d (kadd p.1 q.1) (p.2 * q.2)))), .val (pw p.1), .val (fr p.2), .val (pw q.1), .val (fr q.2), .val (pw (kadd p.1 q.1)), .non, .non], ?_, c' + 1, .val (pw q.1), .val (fr q.2), .val (pw (kadd p.1 q.1)), fun x hx => hr x (List.mem_cons_of_mem _ hx), hd', by omega, rfl, rfl, rfl, rfl⟩
        have q1 := e_times (n := n) ((h1.bs p hp).sm (by omega) (by omega)) ((h2.bs q hq).sm (by omega) (by omega))
        have q2 := e_plus (n := n) ((hd.get (k := kadd p.1 q.1)).sm (by omega) (by have := hd.few; omega)) (bx.sm (by omega) (by omega))
        have few := hd.few
        have q3 : (dd d).length < LINE := by
          unfold dd
          rw [List.length_map]
          omega
        have q4 := setD_2 (s0 := .val (pl one)) (s1 := .val (pl two)) (l := [.val (pw p.1), .val (fr p.2), .val (pw q.1), .val (fr q.2), .val (pw (kadd p.1 q.1)), .non, .non]) (x := fr ((aget d (kadd p.1 q.1)).getD 0 + p.2 * q.2)) (key_ints (ns := kadd p.1 q.1)) q3
        rw [dPut_dd hd.nd] at q4
        simp [e5, e6, e7, fTurn_eq, l1_times_by, td]
        rw [show pw p.1 = .tuple (p.1.map PyData.int) from rfl, show pw q.1 = .tuple (q.1.map PyData.int) from rfl]
        simp
        rw [cRun_zipT PyData.int PyData.int (fun a b => PyData.int (a + b))]
        case h => rfl
        case hl => omega
        case hr => rfl
        case ht =>
          intro x hx y hy
          simp [cTurn_eq, x1_times_by]
        have q5 : List.zipWith (fun a b => PyData.int (a + b)) p.1 q.1 = (kadd p.1 q.1).map PyData.int := by
          unfold kadd
          rw [List.map_zipWith]
        simp [q5]
        rw [show PyData.tuple ((kadd p.1 q.1).map PyData.int) = pw (kadd p.1 q.1) from rfl, show PyData.tuple (p.1.map PyData.int) = pw p.1 from rfl, show PyData.tuple (q.1.map PyData.int) = pw q.1 from rfl]
        simp [get_dd0, q1, q2, q4]
        rfl)
      (xs := two) (s := d) (e := [.val (pl one), .val (pl two), .own (.dict (dd d)), .val (pw p.1), .val (fr p.2), s5, s6, s7, .non, .non]) ⟨c, s5, s6, s7, fun q hq => hq, hd, rfl, rfl, e5, e6, e7⟩
    obtain ⟨e', k1, c', r5, r6, r7, _, k2, k3, rfl, k4, k5, k6⟩ := key
    have : c' = c + two.length := by simpa using k3
    subst this
    exact ⟨r5, r6, r7, k1, k2, k4, k5, k6⟩
  have key := forLoop_fold (turn := fTurn (C (n + 2)) WF false (.tup [.name 3, .name 4]) l2_times_by) td (fun (d : Pl) p => tinn p d two)
    (fun d rest e => ∃ (c : Nat) (s3 s4 s5 s6 s7 : Slot), (∀ p ∈ rest, p ∈ one) ∧ DOk N (d1 + d2) (t1 + t2) c d ∧ c + rest.length * two.length = one.length * two.length ∧ e = [.val (pl one), .val (pl two), .own (.dict (dd d)), s3, s4, s5, s6, s7, .non, .non] ∧ sOwn (some s3) = false ∧ sOwn (some s4) = false ∧ sOwn (some s5) = false ∧ sOwn (some s6) = false ∧ sOwn (some s7) = false)
    (by
      rintro d p rest e ⟨c, s3, s4, s5, s6, s7, hr, hd, hc, rfl, e3, e4, e5, e6, e7⟩
      simp only [List.length_cons] at hc
      rw [Nat.add_mul, Nat.one_mul] at hc
      obtain ⟨r5, r6, r7, k1, k2, k4, k5, k6⟩ := inner p (hr p (List.mem_cons_self ..)) c d s5 s6 s7 hd (by omega) e5 e6 e7
      refine ⟨[.val (pl one), .val (pl two), .own (.dict (dd (tinn p d two))), .val (pw p.1), .val (fr p.2), r5, r6, r7, .non, .non], ?_, c + two.length, .val (pw p.1), .val (fr p.2), r5, r6, r7, fun x hx => hr x (List.mem_cons_of_mem _ hx), k2, by omega, rfl, rfl, rfl, k4, k5, k6⟩
      have w : walk? (pl two) = some (two.map td) := rfl
      simp [e3, e4, fTurn_eq, l2_times_by, td, w]
      simp [k1])
    (xs := one) (s := []) (e := [.val (pl one), .val (pl two), .own (.dict (dd [])), .non, .non, .non, .non, .non, .non, .non]) ⟨0, .non, .non, .non, .non, .non, fun q hq => hq, DOk.nil, by omega, rfl, rfl, rfl, rfl, rfl, rfl⟩
  obtain ⟨e', k1, c, s3, s4, s5, s6, s7, _, k2, k3, rfl, k4, k5, k6, k7, k8⟩ := key
  have hc : c = one.length * two.length := by simpa using k3
  subst hc
  refine ⟨?_, k2⟩
  have k2 : DOk N (d1 + d2) (t1 + t2) (one.length * two.length) (tmul one two) := k2
  have few := k2.few
  have o := e_ordered (n := n + 1) (l := tmul one two) k2.nd (by omega)
  have w : walk? (pl one) = some (one.map td) := rfl
  rw [g_times_by]
  have k1' : forLoop (fTurn (C (n + 2)) WF false (.tup [.name 3, .name 4]) l2_times_by) (one.map td) [.val (pl one), .val (pl two), .own (.dict []), .non, .non, .non, .non, .non, .non, .non] = .ok (.nx, [.val (pl one), .val (pl two), .own (.dict (dd (tmul one two))), s3, s4, s5, s6, s7, .non, .non]) := k1
  simp [b_times_by, w, k1', o, flat_pl]
end
end PV.K12
set_option Elab.async false
set_option linter.all false
set_option maxRecDepth 100000
set_option maxHeartbeats 1000000
namespace PV.K12
open PySem PV.M
theorem lay_ints : ∀ ns : List Int, PyData.canLayAll0 (ns.map .int) = true
  | [] => by simp [PyData.canLayAll0]
  | n :: ns => by
    have := lay_ints ns
    simp [PyData.canLayAll0, PyData.canLay0, this]
theorem lay_td (p : List Int × Rat) : PyData.canLay0 (td p) = true ∧ PyData.depth (td p) ≤ 3 ∧ noDict (td p) = true := by
  have a := lay_ints p.1
  have b := depths_ints p.1
  have c := noDicts_ints p.1
  refine ⟨?_, ?_, ?_⟩
  · simp [td, pw, fr, PyData.canLay0, PyData.canLayAll0, a]
  · have e : PyData.depth (td p) = max (PyData.depthAll (p.1.map .int) + 1) (max (max 0 (max 0 0) + 1) 0) + 1 := by
      simp only [td, pw, fr, PyData.depth, PyData.depthAll]
    rw [e]
    omega
  · simp [td, pw, fr, noDict, noDict.noDicts, c]
theorem lay_tds : ∀ l : Pl, PyData.canLayAll0 (l.map td) = true ∧ PyData.depthAll (l.map td) ≤ 3 ∧ noDict.noDicts (l.map td) = true
  | [] => by simp [PyData.canLayAll0, PyData.depthAll, noDict.noDicts]
  | p :: l => by
    obtain ⟨a, b, c⟩ := lay_tds l
    obtain ⟨a', b', c'⟩ := lay_td p
    rw [List.map_cons]
    simp [PyData.canLayAll0, PyData.depthAll, noDict.noDicts, a, a', c, c']
    omega
theorem eqOk_pl (l : Pl) : eqOk (pl l) = true := by
  obtain ⟨a, b, c⟩ := lay_tds l
  have h : PyData.canLay0 (pl l) = true ∧ PyData.depth (pl l) ≤ 64 ∧ noDict (pl l) = true := by
    refine ⟨by simpa [pl, PyData.canLay0] using a, ?_, by simpa [pl, noDict] using c⟩
    simp [pl, PyData.depth]
    omega
  unfold eqOk
  rw [h.1, h.2.2, decide_eq_true h.2.1]
  rfl
theorem ne_pl (l : Pl) : cmpF .ne (pl l) (.tuple []) = some (!l.isEmpty) := by
  rw [ne_data (eqOk_pl l) (by decide)]
  cases l <;> simp [pl]
section
variable {n : Nat}
theorem e_kept_small {N deg len t : Nat} {l : Pl} (h : PolyT N deg len t l) (hd : deg ≤ 40) (hl : len ≤ 600) : C (n + 2) "kept_small" [pl l] = .ok (pl l, .none) := by
  have few := h.few
  have e : C (n + 1) "beyond_in" [pl l] = .ok (.list [], .none) := by
    rw [g_beyond_in]
    have hlen : bltF .len [pl l] = some (.int (l.length : Int)) := by
      show some (PyData.int ((l.map td).length : Int)) = _
      rw [List.length_map]
    have h1 : ¬ (600 < (l.length : Int)) := by omega
    cases l with
    | nil => simp [b_beyond_in, ne_pl, hlen]
    | cons p l =>
      obtain ⟨a1, a2, a3⟩ := h.fit p (List.mem_cons_self ..)
      have i1 : idxF (pl (p :: l)) (.int 0) = some (td p) := by
        show idxF (.tuple ((p :: l).map td)) (.int 0) = _
        simp
      have i2 : idxF (td p) (.int 0) = some (pw p.1) := by
        show idxF (.tuple [pw p.1, fr p.2]) (.int 0) = _
        simp
      have i3 : bltF .sum [pw p.1] = some (.int p.1.sum) := blt_sum_tuple
      have h2 : ¬ (40 < p.1.sum) := by omega
      simp only [List.length_cons] at hlen h1
      have h3 : ¬ (600 < ((l.length + 1 : Nat) : Int)) := h1
      simp [b_beyond_in, ne_pl, i1, i2, i3, h2, hlen, h3, -Int.natCast_add]
  rw [g_kept_small]
  simp [b_kept_small, e]
theorem e_times_poly {N d1 d2 l1 l2 t1 t2 : Nat} {one two : Pl} (h1 : PolyT N d1 l1 t1 one) (h2 : PolyT N d2 l2 t2 two) (ht : t1 + t2 ≤ 50) (hN : N ≤ 4) (hd1 : d1 ≤ 20) (hd2 : d2 ≤ 20) (hl1 : l1 ≤ 600) (hl2 : l2 ≤ 600) (hl : l1 * l2 ≤ 600) :
    C (n + 8) "times_polynomials" [.int N, pl one, pl two] = .ok (pl (ord (tmul one two)), .none) ∧ PolyT N (d1 + d2) (l1 * l2) (t1 + t2 + 1) (ord (tmul one two)) := by
  have few : one.length * two.length ≤ l1 * l2 := Nat.mul_le_mul h1.few h2.few
  obtain ⟨e, k⟩ := e_times_by (n := n + 4) h1 h2 ht (by omega) (by omega)
  have P0 := k.ord (by omega)
  have P : PolyT N (d1 + d2) (l1 * l2) (t1 + t2 + 1) (ord (tmul one two)) := ⟨P0.fit, P0.nz, P0.bs, Nat.le_trans P0.few few, P0.srt⟩
  refine ⟨?_, P⟩
  rw [g_times_polynomials]
  simp [b_times_polynomials, e_check_two (n := n) h1 h2 hN (by omega) hl1 (by omega) hl2, e, e_kept_small (n := n + 5) P (by omega) hl]
end
end PV.K12
set_option Elab.async false
set_option linter.all false
set_option maxRecDepth 100000
set_option maxHeartbeats 1000000
namespace PV.K12
open PySem PV.M
theorem PolyT.up {n d l t d' l' t' : Nat} {p : Pl} (h : PolyT n d l t p) (hd : d ≤ d') (hl : l ≤ l') (ht : t ≤ t') : PolyT n d' l' t' p :=
  ⟨fun q hq => ⟨(h.fit q hq).1, (h.fit q hq).2.1, by have := (h.fit q hq).2.2; omega⟩, h.nz, fun q hq => (h.bs q hq).to ht, Nat.le_trans h.few hl, h.srt⟩
theorem PolyT.dok {n d l t : Nat} {p : Pl} (h : PolyT n d l t p) : DOk n d t p.length p :=
  ⟨h.nodup, h.fit, fun q hq => (h.bs q hq).more (List.length_pos_of_mem hq), Nat.le_refl _⟩
theorem PolyT.ordf {n d l t : Nat} {p : Pl} (h : PolyT n d l t p) : ord p = p := ord_self h.srt h.nz
theorem dFold_app : ∀ {l acc : Pl}, (keys (acc ++ l)).Nodup → (acc ++ l).length ≤ LINE → dFold (dd acc) (l.map td) = some (dd (acc ++ l))
  | [], acc, _, _ => by rw [List.append_nil]; rfl
  | p :: l, acc, hn, hl => by
    have new : p.1 ∉ keys acc := by
      unfold keys at hn ⊢
      rw [List.map_append, List.map_cons] at hn
      have := (List.nodup_append.mp hn).2.2
      intro h
      exact this _ h _ (List.mem_cons_self ..) rfl
    have na : (keys acc).Nodup := by
      unfold keys at hn ⊢
      rw [List.map_append] at hn
      exact (List.nodup_append.mp hn).1
    have e := dFold_app (l := l) (acc := acc ++ [p]) (by simpa using hn) (by simpa using hl)
    have put := dPut_dd (k := p.1) (v := p.2) na
    rw [aput_new new] at put
    have lt : (dd acc).length < LINE := by
      unfold dd
      rw [List.length_map]
      simp only [List.length_append, List.length_cons] at hl
      omega
    rw [List.map_cons]
    show (key? (pw p.1)).bind (fun q => if (dd acc).length < LINE then dFold (dPut (dd acc) q (pw p.1) (fr p.2)) (l.map td) else none) = _
    rw [key_ints]
    show (if (dd acc).length < LINE then dFold (dPut (dd acc) (ky p.1) (pw p.1) (fr p.2)) (l.map td) else none) = _
    rw [if_pos lt, put]
    simpa using e
theorem dictOf_pl {l : Pl} (hn : (keys l).Nodup) (hl : l.length ≤ 1000) : dictOfF (pl l) = some (.dict (dd l)) := by
  have L : LINE = 16777216 := rfl
  have e := dFold_app (l := l) (acc := []) (by simpa using hn) (by simp; omega)
  show (if (l.map td).length ≤ LINE then (dFold [] (l.map td)).map PyData.dict else none) = _
  rw [if_pos (by rw [List.length_map]; omega)]
  rw [show dFold [] (l.map td) = some (dd l) from e]
  rfl
theorem len_dd (l : Pl) : (dd l).length = l.length := by
  unfold dd
  rw [List.length_map]
section
variable {n : Nat}
theorem e_plus_by {N d l1 l2 t : Nat} {one two : Pl} (h1 : PolyT N d l1 t one) (h2 : PolyT N d l2 t two) (ht : t ≤ 50) (hl : l1 + l2 ≤ 600) :
    C (n + 3) "plus_by" [pl one, pl two] = .ok (pl (ord (tadd one two)), .none) ∧ DOk N d t (one.length + two.length) (tadd one two) := by
  have L : LINE = 16777216 := rfl
  have f1 := h1.few
  have f2 := h2.few
  have key := forLoop_fold (turn := fTurn (C (n + 2)) WF false (.tup [.name 3, .name 4]) l1_plus_by) td (fun (d : Pl) q => acc d q.1 q.2)
    (fun d' rest e => ∃ (c' : Nat) (s3 s4 : Slot), (∀ q ∈ rest, q ∈ two) ∧ DOk N d t c' d' ∧ c' + rest.length = one.length + two.length ∧ e = [.val (pl one), .val (pl two), .own (.dict (dd d')), s3, s4] ∧ sOwn (some s3) = false ∧ sOwn (some s4) = false)
    (by
      rintro d' q rest e ⟨c', s3, s4, hr, hd, hc', rfl, e3, e4⟩
      simp only [List.length_cons] at hc'
      have hq := hr q (List.mem_cons_self ..)
      obtain ⟨b1, b2, b3⟩ := h2.fit q hq
      have bx := h2.bs q hq
      have hd' := hd.acc (k := q.1) (x := q.2) ⟨b1, b2, b3⟩ bx
      refine ⟨[.val (pl one), .val (pl two), .own (.dict (dd (acc d' q.1 q.2))), .val (pw q.1), .val (fr q.2)], ?_, c' + 1, .val (pw q.1), .val (fr q.2), fun x hx => hr x (List.mem_cons_of_mem _ hx), hd', by omega, rfl, rfl, rfl⟩
      have few := hd.few
      have q2 := e_plus (n := n) ((hd.get (k := q.1)).sm (by omega) (by omega)) (bx.sm (by omega) (by omega))
      have q4 := setD_2 (s0 := .val (pl one)) (s1 := .val (pl two)) (l := [.val (pw q.1), .val (fr q.2)]) (x := fr ((aget d' q.1).getD 0 + q.2)) (kvs := dd d') (key_ints (ns := q.1)) (by rw [len_dd]; omega)
      rw [dPut_dd hd.nd] at q4
      simp [e3, e4, fTurn_eq, l1_plus_by, td, get_dd0, q2, q4]
      rfl)
    (xs := two) (s := one) (e := [.val (pl one), .val (pl two), .own (.dict (dd one)), .non, .non]) ⟨one.length, .non, .non, fun q hq => hq, h1.dok, rfl, rfl, rfl, rfl⟩
  obtain ⟨e', k1, c, s3, s4, _, k2, k3, rfl, k4, k5⟩ := key
  have hc : c = one.length + two.length := by simpa using k3
  subst hc
  refine ⟨?_, k2⟩
  have k2 : DOk N d t (one.length + two.length) (tadd one two) := k2
  have few := k2.few
  have o := e_ordered (n := n + 1) (l := tadd one two) k2.nd (by omega)
  have w : walk? (pl two) = some (two.map td) := rfl
  have k1' : forLoop (fTurn (C (n + 2)) WF false (.tup [.name 3, .name 4]) l1_plus_by) (two.map td) [.val (pl one), .val (pl two), .own (.dict (dd one)), .non, .non] = .ok (.nx, [.val (pl one), .val (pl two), .own (.dict (dd (tadd one two))), s3, s4]) := k1
  rw [g_plus_by]
  simp [b_plus_by, dictOf_pl h1.nodup (by omega), w, k1', o, flat_pl]
theorem e_plus_poly {N d l1 l2 t : Nat} {one two : Pl} (h1 : PolyT N d l1 t one) (h2 : PolyT N d l2 t two) (ht : t ≤ 50) (hN : N ≤ 4) (hd : d ≤ 40) (hl : l1 + l2 ≤ 600) :
    C (n + 8) "plus_polynomials" [.int N, pl one, pl two] = .ok (pl (ord (tadd one two)), .none) ∧ PolyT N d (l1 + l2) (t + 1) (ord (tadd one two)) := by
  have f1 := h1.few
  have f2 := h2.few
  obtain ⟨e, k⟩ := e_plus_by (n := n + 4) h1 h2 ht hl
  have P := (k.ord (by omega)).up (Nat.le_refl d) (show _ ≤ l1 + l2 by omega) (Nat.le_refl (t + 1))
  refine ⟨?_, P⟩
  rw [g_plus_polynomials]
  simp [b_plus_polynomials, e_check_two (n := n) h1 h2 hN hd (by omega) hd (by omega), e, e_kept_small (n := n + 5) P hd hl]

theorem rat_one (x : Int) : Rat.divInt x 1 = (x : Rat) := Rat.num_divInt_den (x : Rat)
theorem fr_whole (x : Int) : PyData.tuple [.int x, .int 1] = fr (x : Rat) := by
  unfold fr
  rw [Rat.num_intCast, Rat.den_intCast]
  rfl
theorem BS.whole {x : Int} (h : x.natAbs ≤ 1000) : BS 1 1 (x : Rat) := by
  rw [← rat_one]
  exact BS.small h (by decide) (by decide)

/-! ### differences, the law's sums and products -/
theorem fr_neg (q : Rat) : PyData.tuple [.int (-q.num), .int (q.den : Int)] = fr (-q) := by
  rfl
theorem e_opposite {q : Rat} : C (n + 1) "opposite" [fr q] = .ok (fr (-q), .none) := by
  rw [g_opposite, ← fr_neg]
  simp [b_opposite, fr]
theorem PolyT.tneg {N d l t : Nat} {p : Pl} (h : PolyT N d l t p) : PolyT N d l t (tneg p) := by
  have mem : ∀ q ∈ PV.M.tneg p, (q.1, -q.2) ∈ p := fun q hq => by
    obtain ⟨r, hr, rfl⟩ := List.mem_map.mp hq
    rw [show (-(-r.2)) = r.2 by grind]
    exact hr
  refine ⟨fun q hq => h.fit (q.1, -q.2) (mem q hq), fun q hq e => h.nz (q.1, -q.2) (mem q hq) (by show -q.2 = 0; rw [e]; grind), fun q hq => ?_, by unfold PV.M.tneg; rw [List.length_map]; exact h.few, ?_⟩
  · have := (h.bs (q.1, -q.2) (mem q hq)).neg
    rw [show (-(-q.2)) = q.2 by grind] at this
    exact this
  · have e : keys (PV.M.tneg p) = keys p := by
      unfold keys PV.M.tneg
      rw [List.map_map]
      rfl
    rw [e]
    exact h.srt
theorem e_opposite_by {p : Pl} (hl : p.length ≤ 1000) : C (n + 2) "opposite_by" [pl p] = .ok (pl (tneg p), .none) := by
  have L : LINE = 16777216 := rfl
  rw [g_opposite_by]
  have w : walk? (pl p) = some (p.map td) := rfl
  simp -implicitDefEqProofs [b_opposite_by, w]
  rw [cRun_typed td (fun q => td (q.1, -q.2))]
  case h => rfl
  case hl => omega
  case hr => rfl
  case ht =>
    intro q hq
    simp -implicitDefEqProofs [cTurn_eq, x1_opposite_by, td, e_opposite]
  simp -implicitDefEqProofs [pl, tneg, List.map_map]
theorem e_minus {N d l1 l2 t : Nat} {one two : Pl} (h1 : PolyT N d l1 t one) (h2 : PolyT N d l2 t two) (ht : t ≤ 50) (hN : N ≤ 4) (hd : d ≤ 40) (hl : l1 + l2 ≤ 600) :
    C (n + 8) "minus" [.int N, pl one, pl two] = .ok (pl (ord (taddc (-1) one two)), .none) ∧ PolyT N d (l1 + l2) (t + 1) (ord (taddc (-1) one two)) := by
  have f1 := h1.few
  have f2 := h2.few
  obtain ⟨e, k⟩ := e_plus_by (n := n + 3) h1 h2.tneg ht hl
  have f3 := h2.tneg.few
  have P := (k.ord (by omega)).up (Nat.le_refl d) (show _ ≤ l1 + l2 by omega) (Nat.le_refl (t + 1))
  rw [tadd_neg] at e P
  refine ⟨?_, P⟩
  have e2 : C (n + 7) "minus_by" [pl one, pl two] = .ok (pl (ord (taddc (-1) one two)), .none) := by
    rw [g_minus_by]
    simp -implicitDefEqProofs [b_minus_by, e_opposite_by (n := n + 4) (p := two) (by omega), e]
  rw [g_minus]
  simp -implicitDefEqProofs [b_minus, e_check_two (n := n) h1 h2 hN hd (by omega) hd (by omega), e2, e_kept_small (n := n + 5) P hd hl]
/-- terms, any of them nought -/
structure PolyW (n deg len t : Nat) (l : Pl) : Prop where
  fit : ∀ p ∈ l, p.1.length = n ∧ (∀ x ∈ p.1, 0 ≤ x) ∧ p.1.sum ≤ deg
  bs : ∀ p ∈ l, BS t 1 p.2
  few : l.length ≤ len
theorem PolyT.w {n d l t : Nat} {p : Pl} (h : PolyT n d l t p) : PolyW n d l t p := ⟨h.fit, h.bs, h.few⟩
theorem e_law_sum {N d l1 l2 t : Nat} {one two : Pl} {c : Rat} (h1 : PolyT N d l1 t one) (h2 : PolyW N d l2 t two) (hcb : BS 0 1 c) (ht : t ≤ 50) (hl : l1 + l2 ≤ 600) :
    C (n + 4) "_law_sum" [pl one, pl two, fr c] = .ok (pl (ord (taddc c one two)), .none) ∧ PolyT N d (l1 + l2) (t + 1) (ord (taddc c one two)) := by
  have L : LINE = 16777216 := rfl
  have f1 := h1.few
  have f2 := h2.few
  have key := forLoop_fold (turn := fTurn (C (n + 3)) WF false (.tup [.name 4, .name 5]) l1_law_sum) td (fun (d : Pl) q => acc d q.1 (c * q.2))
    (fun d' rest e => ∃ (c' : Nat) (s3 s4 : Slot), (∀ q ∈ rest, q ∈ two) ∧ DOk N d t c' d' ∧ c' + rest.length = one.length + two.length ∧ e = [.val (pl one), .val (pl two), .val (fr c), .own (.dict (dd d')), s3, s4] ∧ sOwn (some s3) = false ∧ sOwn (some s4) = false)
    (by
      rintro d' q rest e ⟨c', s3, s4, hr, hd, hc', rfl, e3, e4⟩
      simp only [List.length_cons] at hc'
      have hq := hr q (List.mem_cons_self ..)
      obtain ⟨b1, b2, b3⟩ := h2.fit q hq
      have bx : BS t 1 (c * q.2) := by simpa using hcb.mul (h2.bs q hq)
      have hd' := hd.acc (k := q.1) (x := c * q.2) ⟨b1, b2, b3⟩ bx
      refine ⟨[.val (pl one), .val (pl two), .val (fr c), .own (.dict (dd (acc d' q.1 (c * q.2)))), .val (pw q.1), .val (fr q.2)], ?_, c' + 1, .val (pw q.1), .val (fr q.2), fun x hx => hr x (List.mem_cons_of_mem _ hx), hd', by omega, rfl, rfl, rfl⟩
      have few := hd.few
      have q1 := e_law_mul (n := n) (hcb.sm (by omega) (by omega)) ((h2.bs q hq).sm (by omega) (by omega))
      have q2 := e_law_add (n := n) ((hd.get (k := q.1)).sm (by omega) (by omega)) (bx.sm (by omega) (by omega))
      have q4 := setD_3 (s0 := .val (pl one)) (s1 := .val (pl two)) (s2 := .val (fr c)) (kvs := dd d') (l := [.val (pw q.1), .val (fr q.2)]) (x := fr ((aget d' q.1).getD 0 + c * q.2)) (key_ints (ns := q.1)) (by rw [len_dd]; omega)
      rw [dPut_dd hd.nd] at q4
      simp [e3, e4, fTurn_eq, l1_law_sum, td, get_dd0, q1, q2, q4]
      rfl)
    (xs := two) (s := one) (e := [.val (pl one), .val (pl two), .val (fr c), .own (.dict (dd one)), .non, .non]) ⟨one.length, .non, .non, fun q hq => hq, h1.dok, rfl, rfl, rfl, rfl⟩
  obtain ⟨e', k1, c', s3, s4, _, k2, k3, rfl, k4, k5⟩ := key
  have hc : c' = one.length + two.length := by simpa using k3
  subst hc
  have k2 : DOk N d t (one.length + two.length) (taddc c one two) := k2
  have few := k2.few
  refine ⟨?_, (k2.ord (by omega)).up (Nat.le_refl d) (show _ ≤ l1 + l2 by omega) (Nat.le_refl (t + 1))⟩
  have o := e_told_of (n := n + 1) (l := taddc c one two) k2.nd (by omega)
  have w : walk? (pl two) = some (two.map td) := rfl
  have k1' : forLoop (fTurn (C (n + 3)) WF false (.tup [.name 4, .name 5]) l1_law_sum) (two.map td) [.val (pl one), .val (pl two), .val (fr c), .own (.dict (dd one)), .non, .non] = .ok (.nx, [.val (pl one), .val (pl two), .val (fr c), .own (.dict (dd (taddc c one two))), s3, s4]) := k1
  rw [g_law_sum]
  simp [b_law_sum, dictOf_pl h1.nodup (by omega), w, k1', o, flat_pl]
theorem e_law_product {N d1 d2 l1 l2 t1 t2 : Nat} {one two : Pl} (h1 : PolyT N d1 l1 t1 one) (h2 : PolyT N d2 l2 t2 two) (ht : t1 + t2 ≤ 50) (hN : N ≤ 1000) (hl : one.length * two.length ≤ 600) :
    C (n + 4) "_law_product" [pl one, pl two] = .ok (pl (ord (tmul one two)), .none) ∧ DOk N (d1 + d2) (t1 + t2) (one.length * two.length) (tmul one two) := by
  have L : LINE = 16777216 := rfl
  have inner : ∀ (p : List Int × Rat), p ∈ one → ∀ (c : Nat) (d : Pl) (s5 s6 s7 : Slot), DOk N (d1 + d2) (t1 + t2) c d → c + two.length ≤ 600 → sOwn (some s5) = false → sOwn (some s6) = false → sOwn (some s7) = false →
      ∃ (r5 r6 r7 : Slot), forLoop (fTurn (C (n + 3)) WF false (.tup [.name 5, .name 6]) l1_law_product) (two.map td) [.val (pl one), .val (pl two), .own (.dict (dd d)), .val (pw p.1), .val (fr p.2), s5, s6, s7, .non, .non] = .ok (.nx, [.val (pl one), .val (pl two), .own (.dict (dd (tinn p d two))), .val (pw p.1), .val (fr p.2), r5, r6, r7, .non, .non]) ∧
        DOk N (d1 + d2) (t1 + t2) (c + two.length) (tinn p d two) ∧ sOwn (some r5) = false ∧ sOwn (some r6) = false ∧ sOwn (some r7) = false := by
    intro p hp c d s5 s6 s7 hd hc e5 e6 e7
    obtain ⟨a1, a2, a3⟩ := h1.fit p hp
    have key := forLoop_fold (turn := fTurn (C (n + 3)) WF false (.tup [.name 5, .name 6]) l1_law_product) td (fun (d : Pl) q => acc d (kadd p.1 q.1) (p.2 * q.2))
      (fun d rest e => ∃ (c' : Nat) (s5 s6 s7 : Slot), (∀ q ∈ rest, q ∈ two) ∧ DOk N (d1 + d2) (t1 + t2) c' d ∧ c' + rest.length = c + two.length ∧ e = [.val (pl one), .val (pl two), .own (.dict (dd d)), .val (pw p.1), .val (fr p.2), s5, s6, s7, .non, .non] ∧ sOwn (some s5) = false ∧ sOwn (some s6) = false ∧ sOwn (some s7) = false)
      (by
        rintro d q rest e ⟨c', s5, s6, s7, hr, hd, hc', rfl, e5, e6, e7⟩
        simp only [List.length_cons] at hc'
        have hq := hr q (List.mem_cons_self ..)
        obtain ⟨b1, b2, b3⟩ := h2.fit q hq
        obtain ⟨k1, k2, k3⟩ := kadd_fit (n := N) (d := d1) (d' := d2) (a := p.1) (b := q.1) (by omega) a2 b2
        have bx := (h1.bs p hp).mul (h2.bs q hq)
        have hd' := hd.acc (k := kadd p.1 q.1) (x := p.2 * q.2) ⟨by omega, k2, by omega⟩ (by simpa using bx)
        refine ⟨[.val (pl one), .val (pl two), .own (.dict (dd (acc d (kadd p.1 q.1) (p.2 * q.2)))), .val (pw p.1), .val (fr p.2), .val (pw q.1), .val (fr q.2), .val (pw (kadd p.1 q.1)), .non, .non], ?_, c' + 1, .val (pw q.1), .val (fr q.2), .val (pw (kadd p.1 q.1)), fun x hx => hr x (List.mem_cons_of_mem _ hx), hd', by omega, rfl, rfl, rfl, rfl⟩
        have q1 := e_law_mul (n := n) ((h1.bs p hp).sm (by omega) (by omega)) ((h2.bs q hq).sm (by omega) (by omega))
        have q2 := e_law_add (n := n) ((hd.get (k := kadd p.1 q.1)).sm (by omega) (by have := hd.few; omega)) (bx.sm (by omega) (by omega))
        have few := hd.few
        have q3 : (dd d).length < LINE := by
          unfold dd
          rw [List.length_map]
          omega
        have q4 := setD_2 (s0 := .val (pl one)) (s1 := .val (pl two)) (l := [.val (pw p.1), .val (fr p.2), .val (pw q.1), .val (fr q.2), .val (pw (kadd p.1 q.1)), .non, .non]) (x := fr ((aget d (kadd p.1 q.1)).getD 0 + p.2 * q.2)) (key_ints (ns := kadd p.1 q.1)) q3
        rw [dPut_dd hd.nd] at q4
        simp [e5, e6, e7, fTurn_eq, l1_law_product, td]
        rw [show pw p.1 = .tuple (p.1.map PyData.int) from rfl, show pw q.1 = .tuple (q.1.map PyData.int) from rfl]
        simp
        rw [cRun_zipT PyData.int PyData.int (fun a b => PyData.int (a + b))]
        case h => rfl
        case hl => omega
        case hr => rfl
        case ht =>
          intro x hx y hy
          simp [cTurn_eq, x1_law_product]
        have q5 : List.zipWith (fun a b => PyData.int (a + b)) p.1 q.1 = (kadd p.1 q.1).map PyData.int := by
          unfold kadd
          rw [List.map_zipWith]
        simp [q5]
        rw [show PyData.tuple ((kadd p.1 q.1).map PyData.int) = pw (kadd p.1 q.1) from rfl, show PyData.tuple (p.1.map PyData.int) = pw p.1 from rfl, show PyData.tuple (q.1.map PyData.int) = pw q.1 from rfl]
        simp [get_dd0, q1, q2, q4]
        rfl)
      (xs := two) (s := d) (e := [.val (pl one), .val (pl two), .own (.dict (dd d)), .val (pw p.1), .val (fr p.2), s5, s6, s7, .non, .non]) ⟨c, s5, s6, s7, fun q hq => hq, hd, rfl, rfl, e5, e6, e7⟩
    obtain ⟨e', k1, c', r5, r6, r7, _, k2, k3, rfl, k4, k5, k6⟩ := key
    have : c' = c + two.length := by simpa using k3
    subst this
    exact ⟨r5, r6, r7, k1, k2, k4, k5, k6⟩
  have key := forLoop_fold (turn := fTurn (C (n + 3)) WF false (.tup [.name 3, .name 4]) l2_law_product) td (fun (d : Pl) p => tinn p d two)
    (fun d rest e => ∃ (c : Nat) (s3 s4 s5 s6 s7 : Slot), (∀ p ∈ rest, p ∈ one) ∧ DOk N (d1 + d2) (t1 + t2) c d ∧ c + rest.length * two.length = one.length * two.length ∧ e = [.val (pl one), .val (pl two), .own (.dict (dd d)), s3, s4, s5, s6, s7, .non, .non] ∧ sOwn (some s3) = false ∧ sOwn (some s4) = false ∧ sOwn (some s5) = false ∧ sOwn (some s6) = false ∧ sOwn (some s7) = false)
    (by
      rintro d p rest e ⟨c, s3, s4, s5, s6, s7, hr, hd, hc, rfl, e3, e4, e5, e6, e7⟩
      simp only [List.length_cons] at hc
      rw [Nat.add_mul, Nat.one_mul] at hc
      obtain ⟨r5, r6, r7, k1, k2, k4, k5, k6⟩ := inner p (hr p (List.mem_cons_self ..)) c d s5 s6 s7 hd (by omega) e5 e6 e7
      refine ⟨[.val (pl one), .val (pl two), .own (.dict (dd (tinn p d two))), .val (pw p.1), .val (fr p.2), r5, r6, r7, .non, .non], ?_, c + two.length, .val (pw p.1), .val (fr p.2), r5, r6, r7, fun x hx => hr x (List.mem_cons_of_mem _ hx), k2, by omega, rfl, rfl, rfl, k4, k5, k6⟩
      have w : walk? (pl two) = some (two.map td) := rfl
      simp [e3, e4, fTurn_eq, l2_law_product, td, w]
      simp [k1])
    (xs := one) (s := []) (e := [.val (pl one), .val (pl two), .own (.dict (dd [])), .non, .non, .non, .non, .non, .non, .non]) ⟨0, .non, .non, .non, .non, .non, fun q hq => hq, DOk.nil, by omega, rfl, rfl, rfl, rfl, rfl, rfl⟩
  obtain ⟨e', k1, c, s3, s4, s5, s6, s7, _, k2, k3, rfl, k4, k5, k6, k7, k8⟩ := key
  have hc : c = one.length * two.length := by simpa using k3
  subst hc
  refine ⟨?_, k2⟩
  have k2 : DOk N (d1 + d2) (t1 + t2) (one.length * two.length) (tmul one two) := k2
  have few := k2.few
  have o := e_told_of (n := n + 1) (l := tmul one two) k2.nd (by omega)
  have w : walk? (pl one) = some (one.map td) := rfl
  rw [g_law_product]
  have k1' : forLoop (fTurn (C (n + 3)) WF false (.tup [.name 3, .name 4]) l2_law_product) (one.map td) [.val (pl one), .val (pl two), .own (.dict []), .non, .non, .non, .non, .non, .non, .non] = .ok (.nx, [.val (pl one), .val (pl two), .own (.dict (dd (tmul one two))), s3, s4, s5, s6, s7, .non, .non]) := k1
  simp [b_law_product, w, k1', o, flat_pl]
end
end PV.K12
set_option Elab.async false
set_option linter.all false
set_option maxRecDepth 100000
set_option maxHeartbeats 1000000
namespace PV.K12
open PySem PV.M
theorem BS.wstep {s : Nat} {q : Rat} {p : Int × Rat} (h : BS s 1 q) (hp : BS 1 1 p.2) : BS (s + p.1.toNat) 1 (PV.M.wstep q p) := by
  have := h.mul (BS.pwq hp p.1.toNat)
  rw [Nat.mul_one] at this
  exact this
section
variable {n : Nat}
theorem e_pow1 {x q : Rat} {s p : Nat} {a0 a1 a2 a3 a4 a6 s8 : Slot} (hx : BS 1 1 x) (hq : BS s 1 q) (hs : s + p ≤ 55) (h8 : sOwn (some s8) = false) :
    ∃ r8, forLoop (fTurn (C (n + 2)) WF false (.name 8) l1_worth_by) (rangeD 0 (p : Int)) [a0, a1, a2, a3, a4, .val (fr q), a6, .val (fr x), s8] = .ok (.nx, [a0, a1, a2, a3, a4, .val (fr (q * pwq x p)), a6, .val (fr x), r8]) ∧ sOwn (some r8) = false := by
  have key := forLoop_fold (turn := fTurn (C (n + 2)) WF false (.name 8) l1_worth_by) (fun (i : Nat) => PyData.int i) (fun (q : Rat) _ => q * x)
    (fun q' rest e => ∃ (m : Nat) (t : Slot), BS (s + m) 1 q' ∧ m + rest.length = p ∧ q' = q * pwq x m ∧ e = [a0, a1, a2, a3, a4, .val (fr q'), a6, .val (fr x), t] ∧ sOwn (some t) = false)
    (by
      rintro q' i rest e ⟨m, t, hb, hm, rfl, rfl, ht⟩
      simp only [List.length_cons] at hm
      have hb' := hb.mul hx
      rw [Nat.mul_one] at hb'
      have e1 := e_times (n := n) (hb.sm (by omega) (by omega)) (hx.sm (by omega) (by omega))
      refine ⟨[a0, a1, a2, a3, a4, .val (fr (q * pwq x m * x)), a6, .val (fr x), .val (.int i)], ?_, m + 1, .val (.int i), by rw [← Nat.add_assoc]; exact hb', by omega, ?_, rfl, rfl⟩
      · simp -implicitDefEqProofs [ht, fTurn_eq, l1_worth_by, e1]
      · simp only [pwq]
        grind)
    (xs := List.range p) (s := q) (e := [a0, a1, a2, a3, a4, .val (fr q), a6, .val (fr x), s8]) ⟨0, s8, by simpa using hq, by simp, by simp only [pwq]; grind, rfl, h8⟩
  obtain ⟨e', k1, m, t, k2, k3, k4, rfl, k5⟩ := key
  have : m = p := by simpa using k3
  subst this
  refine ⟨t, ?_, k5⟩
  rw [rangeD_nat, k1, k4]
theorem e_pow2 {q : Rat} {s b : Nat} {ks : List Int} {xs : List Rat} {a0 a2 a3 a4 s6 s7 s8 : Slot} {a1 : Slot} (hx : ∀ x ∈ xs, BS 1 1 x) (hk : ∀ k ∈ ks, 0 ≤ k) (hb : ks.sum ≤ b) (hq : BS s 1 q) (hs : s + b ≤ 55) (h6 : sOwn (some s6) = false) (h7 : sOwn (some s7) = false) (h8 : sOwn (some s8) = false) :
    ∃ r6 r7 r8, forLoop (fTurn (C (n + 2)) WF false (.tup [.name 6, .name 7]) l2_worth_by) (zipD (ks.map .int) (xs.map fr)) [a0, a1, a2, a3, a4, .val (fr q), s6, s7, s8] = .ok (.nx, [a0, a1, a2, a3, a4, .val (fr (q * wm ks xs)), r6, r7, r8]) ∧ BS (s + b) 1 (q * wm ks xs) ∧ sOwn (some r6) = false ∧ sOwn (some r7) = false ∧ sOwn (some r8) = false := by
  have key := forLoop_fold (turn := fTurn (C (n + 2)) WF false (.tup [.name 6, .name 7]) l2_worth_by) (fun (p : Int × Rat) => PyData.tuple [.int p.1, fr p.2]) PV.M.wstep
    (fun q' rest e => ∃ (m : Nat) (t6 t7 t8 : Slot), BS m 1 q' ∧ (∀ p ∈ rest, 0 ≤ p.1 ∧ BS 1 1 p.2) ∧ (m : Int) + (rest.map (·.1)).sum ≤ s + b ∧ e = [a0, a1, a2, a3, a4, .val (fr q'), t6, t7, t8] ∧ sOwn (some t6) = false ∧ sOwn (some t7) = false ∧ sOwn (some t8) = false)
    (by
      rintro q' p rest e ⟨m, t6, t7, t8, hb', hr, hm, rfl, h6, h7, h8⟩
      obtain ⟨p0, px⟩ := hr p (List.mem_cons_self ..)
      rw [List.map_cons, List.sum_cons] at hm
      have rest0 : 0 ≤ (rest.map (·.1)).sum := by
        refine (le_sum fun y hy => ?_).1
        obtain ⟨z, hz, rfl⟩ := List.mem_map.mp hy
        exact (hr z (List.mem_cons_of_mem _ hz)).1
      obtain ⟨r8, k1, k2⟩ := e_pow1 (n := n) (x := p.2) (q := q') (s := m) (p := p.1.toNat) (a0 := a0) (a1 := a1) (a2 := a2) (a3 := a3) (a4 := a4) (a6 := .val (.int p.1)) (s8 := t8) px hb' (by omega) h8
      refine ⟨[a0, a1, a2, a3, a4, .val (fr (PV.M.wstep q' p)), .val (.int p.1), .val (fr p.2), r8], ?_, m + p.1.toNat, .val (.int p.1), .val (fr p.2), r8, BS.wstep hb' px, fun z hz => hr z (List.mem_cons_of_mem _ hz), by omega, rfl, rfl, rfl, k2⟩
      rw [show ((p.1.toNat : Nat) : Int) = p.1 by omega] at k1
      simp -implicitDefEqProofs [h6, h7, h8, fTurn_eq, l2_worth_by, rng1_int (j := p.1) (by omega) (by show _ ≤ (16777216 : Int); omega), k1]
      rfl)
    (xs := ks.zip xs) (s := q) (e := [a0, a1, a2, a3, a4, .val (fr q), s6, s7, s8]) ⟨s, s6, s7, s8, hq, fun p hp => ⟨hk _ (List.of_mem_zip hp).1, hx _ (List.of_mem_zip hp).2⟩, by
      have z : ∀ (ks : List Int) (xs : List Rat), (∀ k ∈ ks, 0 ≤ k) → ((ks.zip xs).map (·.1)).sum ≤ ks.sum := fun ks => by
        induction ks with
        | nil => intro xs _; simp
        | cons k ks ih =>
          intro xs h
          have h0 := (le_sum h).1
          cases xs with
          | nil => simpa using h0
          | cons x xs =>
            have := ih xs fun y hy => h y (List.mem_cons_of_mem _ hy)
            simp only [List.zip_cons_cons, List.map_cons, List.sum_cons]
            omega
      have := z ks xs hk
      omega, rfl, h6, h7, h8⟩
  obtain ⟨e', k1, m, t6, t7, t8, k2, _, k3, rfl, k4, k5, k6⟩ := key
  rw [fold_wm] at k1 k2
  refine ⟨t6, t7, t8, ?_, k2.to (by simp at k3; omega), k4, k5, k6⟩
  rw [zipD_typed, k1]
/-- what a polynomial is worth -/
def worthP (xs : List Rat) (l : Pl) : Rat := lin (fun k => wm k xs) l
theorem e_worth_by {N d l t : Nat} {one : Pl} {xs : List Rat} (h : PolyT N d l t one) (hx : ∀ x ∈ xs, BS 1 1 x) (ht : t + d ≤ 55) (hl : l ≤ 600) :
    C (n + 3) "worth_by" [pl one, .tuple (xs.map fr)] = .ok (fr (worthP xs one), .none) ∧ BS (t + d) l (worthP xs one) := by
  have L : LINE = 16777216 := rfl
  have few := h.few
  have key := forLoop_fold (turn := fTurn (C (n + 2)) WF false (.tup [.name 3, .name 4]) l3_worth_by) td (fun (s : Rat) p => s + p.2 * wm p.1 xs)
    (fun s' rest e => ∃ (c' : Nat) (s3 s4 s5 s6 s7 s8 : Slot), (∀ q ∈ rest, q ∈ one) ∧ BS (t + d) c' s' ∧ c' + rest.length = one.length ∧ e = [.val (pl one), .val (.tuple (xs.map fr)), .val (fr s'), s3, s4, s5, s6, s7, s8] ∧ sOwn (some s3) = false ∧ sOwn (some s4) = false ∧ sOwn (some s5) = false ∧ sOwn (some s6) = false ∧ sOwn (some s7) = false ∧ sOwn (some s8) = false)
    (by
      rintro s' p rest e ⟨c', s3, s4, s5, s6, s7, s8, hr, hs, hc', rfl, e3, e4, e5, e6, e7, e8⟩
      simp only [List.length_cons] at hc'
      have hp := hr p (List.mem_cons_self ..)
      obtain ⟨f1, f2, f3⟩ := h.fit p hp
      obtain ⟨r6, r7, r8, k1, k2, k6, k7, k8⟩ := e_pow2 (n := n) (q := p.2) (s := t) (b := d) (ks := p.1) (xs := xs) (a0 := .val (pl one)) (a1 := .val (.tuple (xs.map fr))) (a2 := .val (fr s')) (a3 := .val (pw p.1)) (a4 := .val (fr p.2)) (s6 := s6) (s7 := s7) (s8 := s8) hx f2 f3 (h.bs p hp) ht e6 e7 e8
      have e1 := e_plus (n := n) (hs.sm (by omega) (by omega)) (k2.sm (by omega) (by omega))
      refine ⟨[.val (pl one), .val (.tuple (xs.map fr)), .val (fr (s' + p.2 * wm p.1 xs)), .val (pw p.1), .val (fr p.2), .val (fr (p.2 * wm p.1 xs)), r6, r7, r8], ?_, c' + 1, .val (pw p.1), .val (fr p.2), .val (fr (p.2 * wm p.1 xs)), r6, r7, r8, fun x hx => hr x (List.mem_cons_of_mem _ hx), hs.add k2, by omega, rfl, rfl, rfl, rfl, k6, k7, k8⟩
      have it : items? (pw p.1) = some (p.1.map PyData.int) := rfl
      simp -implicitDefEqProofs [e3, e4, e5, e6, e7, e8, fTurn_eq, l3_worth_by, td, it, k1, e1])
    (xs := one) (s := 0) (e := [.val (pl one), .val (.tuple (xs.map fr)), .val (fr 0), .non, .non, .non, .non, .non, .non]) ⟨0, .non, .non, .non, .non, .non, .non, fun q hq => hq, BS.zero, by omega, rfl, rfl, rfl, rfl, rfl, rfl, rfl⟩
  obtain ⟨e', k1, c, s3, s4, s5, s6, s7, s8, _, k2, k3, rfl, k4⟩ := key
  have hc : c = one.length := by simpa using k3
  subst hc
  have ev : one.foldl (fun (s : Rat) p => s + p.2 * wm p.1 xs) 0 = worthP xs one := by
    rw [fold_lin fun k => wm k xs]
    unfold worthP
    grind
  rw [ev] at k1 k2
  refine ⟨?_, k2.more few⟩
  have w : walk? (pl one) = some (one.map td) := rfl
  rw [fr_zero] at k1
  rw [g_worth_by]
  simp -implicitDefEqProofs [b_worth_by, w, k1]
theorem e_check_point {N : Nat} {xs : List Rat} (hN : xs.length = N) (hN4 : N ≤ 1000) : C (n + 3) "check_point" [.int N, .tuple (xs.map fr)] = .ok (.none, .none) := by
  have key := forLoop_fold (turn := fTurn (C (n + 2)) WF false (.tup [.name 2, .name 3]) l1_check_point) (fun (p : Rat × Nat) => PyData.tuple [.int p.2, fr p.1]) (fun (u : Unit) _ => u)
    (fun _ rest e => ∃ (s2 s3 : Slot), e = [.val (.int N), .val (.tuple (xs.map fr)), s2, s3] ∧ sOwn (some s2) = false ∧ sOwn (some s3) = false)
    (by
      rintro _ p rest e ⟨s2, s3, rfl, e2, e3⟩
      refine ⟨[.val (.int N), .val (.tuple (xs.map fr)), .val (.int p.2), .val (fr p.1)], ?_, .val (.int p.2), .val (fr p.1), rfl, rfl, rfl⟩
      simp -implicitDefEqProofs [e2, e3, fTurn_eq, l1_check_point, e_is_ratio, ratio_fr])
    (xs := xs.zipIdx 0) (s := ()) (e := [.val (.int N), .val (.tuple (xs.map fr)), .non, .non]) ⟨.non, .non, rfl, rfl, rfl⟩
  obtain ⟨e', k1, s2, s3, rfl, _, _⟩ := key
  rw [g_check_point]
  simp -implicitDefEqProofs [b_check_point, hN, enumD_typed, k1]
theorem e_worth {N d l t : Nat} {one : Pl} {xs : List Rat} (h : PolyT N d l t one) (hx : ∀ x ∈ xs, BS 1 1 x) (hN : xs.length = N) (hN4 : N ≤ 4) (ht : t + d ≤ 55) (hd : d ≤ 40) (hl : l ≤ 600) :
    C (n + 7) "worth" [.int N, pl one, .tuple (xs.map fr)] = .ok (fr (worthP xs one), .none) := by
  rw [g_worth]
  simp -implicitDefEqProofs [b_worth, e_check_one (n := n) h hN4 hd hl, e_check_point (n := n + 3) hN (by omega), (e_worth_by (n := n + 3) h hx ht hl).1]
theorem e_law_raised {x : Rat} {p : Nat} (hx : BS 1 1 x) (hp : p ≤ 55) : C (n + 4) "_law_raised" [fr x, .int p] = .ok (fr (pwq x p), .none) := by
  have key := forLoop_fold (turn := fTurn (C (n + 3)) WF false (.name 3) l1_law_raised) (fun (i : Nat) => PyData.int i) (fun (q : Rat) _ => q * x)
    (fun q' rest e => ∃ (m : Nat) (t : Slot), BS m 1 q' ∧ m + rest.length = p ∧ q' = pwq x m ∧ e = [.val (fr x), .val (.int p), .val (fr q'), t] ∧ sOwn (some t) = false)
    (by
      rintro q' i rest e ⟨m, t, hb, hm, rfl, rfl, ht⟩
      simp only [List.length_cons] at hm
      have e1 := e_law_mul (n := n) (hb.sm (by omega) (by omega)) (hx.sm (by omega) (by omega))
      refine ⟨[.val (fr x), .val (.int p), .val (fr (pwq x m * x)), .val (.int i)], ?_, m + 1, .val (.int i), BS.pwq hx (m + 1), by omega, rfl, rfl, rfl⟩
      simp -implicitDefEqProofs [ht, fTurn_eq, l1_law_raised, e1])
    (xs := List.range p) (s := 1) (e := [.val (fr x), .val (.int p), .val (fr 1), .non]) ⟨0, .non, BS.one (by omega), by simp, rfl, rfl, rfl⟩
  obtain ⟨e', k1, m, t, k2, k3, k4, rfl, k5⟩ := key
  have : m = p := by simpa using k3
  subst this
  rw [k4, fr_one] at k1
  rw [g_law_raised]
  simp -implicitDefEqProofs [b_law_raised, rng1_int (j := (m : Int)) (by omega) (by show _ ≤ (16777216 : Int); omega), rangeD_nat, k1]
theorem e_lpow2 {q : Rat} {s b : Nat} {ks : List Int} {xs : List Rat} {a0 a1 a2 a3 s5 s6 : Slot} (hx : ∀ x ∈ xs, BS 1 1 x) (hk : ∀ k ∈ ks, 0 ≤ k) (hb : ks.sum ≤ b) (hq : BS s 1 q) (hs : s + b ≤ 55) (h5 : sOwn (some s5) = false) (h6 : sOwn (some s6) = false) :
    ∃ r5 r6, forLoop (fTurn (C (n + 4)) WF false (.tup [.name 5, .name 6]) l1_law_worth) (zipD (ks.map .int) (xs.map fr)) [a0, a1, a2, a3, .val (fr q), s5, s6] = .ok (.nx, [a0, a1, a2, a3, .val (fr (q * wm ks xs)), r5, r6]) ∧ BS (s + b) 1 (q * wm ks xs) ∧ sOwn (some r5) = false ∧ sOwn (some r6) = false := by
  have key := forLoop_fold (turn := fTurn (C (n + 4)) WF false (.tup [.name 5, .name 6]) l1_law_worth) (fun (p : Int × Rat) => PyData.tuple [.int p.1, fr p.2]) PV.M.wstep
    (fun q' rest e => ∃ (m : Nat) (t5 t6 : Slot), BS m 1 q' ∧ (∀ p ∈ rest, 0 ≤ p.1 ∧ BS 1 1 p.2) ∧ (m : Int) + (rest.map (·.1)).sum ≤ s + b ∧ e = [a0, a1, a2, a3, .val (fr q'), t5, t6] ∧ sOwn (some t5) = false ∧ sOwn (some t6) = false)
    (by
      rintro q' p rest e ⟨m, t5, t6, hb', hr, hm, rfl, h5, h6⟩
      obtain ⟨p0, px⟩ := hr p (List.mem_cons_self ..)
      rw [List.map_cons, List.sum_cons] at hm
      have rest0 : 0 ≤ (rest.map (·.1)).sum := by
        refine (le_sum fun y hy => ?_).1
        obtain ⟨z, hz, rfl⟩ := List.mem_map.mp hy
        exact (hr z (List.mem_cons_of_mem _ hz)).1
      have k1 := e_law_raised (n := n) (x := p.2) (p := p.1.toNat) px (by omega)
      rw [show ((p.1.toNat : Nat) : Int) = p.1 by omega] at k1
      have k2 := e_law_mul (n := n + 1) (hb'.sm (by omega) (by omega)) ((BS.pwq px p.1.toNat).sm (by omega) (by omega))
      refine ⟨[a0, a1, a2, a3, .val (fr (PV.M.wstep q' p)), .val (.int p.1), .val (fr p.2)], ?_, m + p.1.toNat, .val (.int p.1), .val (fr p.2), BS.wstep hb' px, fun z hz => hr z (List.mem_cons_of_mem _ hz), by omega, rfl, rfl, rfl⟩
      simp -implicitDefEqProofs [h5, h6, fTurn_eq, l1_law_worth, k1, k2]
      rfl)
    (xs := ks.zip xs) (s := q) (e := [a0, a1, a2, a3, .val (fr q), s5, s6]) ⟨s, s5, s6, hq, fun p hp => ⟨hk _ (List.of_mem_zip hp).1, hx _ (List.of_mem_zip hp).2⟩, by
      have z : ∀ (ks : List Int) (xs : List Rat), (∀ k ∈ ks, 0 ≤ k) → ((ks.zip xs).map (·.1)).sum ≤ ks.sum := fun ks => by
        induction ks with
        | nil => intro xs _; simp
        | cons k ks ih =>
          intro xs h
          have h0 := (le_sum h).1
          cases xs with
          | nil => simpa using h0
          | cons x xs =>
            have := ih xs fun y hy => h y (List.mem_cons_of_mem _ hy)
            simp only [List.zip_cons_cons, List.map_cons, List.sum_cons]
            omega
      have := z ks xs hk
      omega, rfl, h5, h6⟩
  obtain ⟨e', k1, m, t5, t6, k2, _, k3, rfl, k4, k5⟩ := key
  rw [fold_wm] at k1 k2
  refine ⟨t5, t6, ?_, k2.to (by simp at k3; omega), k4, k5⟩
  rw [zipD_typed, k1]
theorem e_law_worth {N d l t : Nat} {one : Pl} {xs : List Rat} (h : PolyT N d l t one) (hx : ∀ x ∈ xs, BS 1 1 x) (ht : t + d ≤ 55) (hl : l ≤ 600) :
    C (n + 5) "_law_worth" [pl one, .tuple (xs.map fr)] = .ok (fr (worthP xs one), .none) := by
  have L : LINE = 16777216 := rfl
  have few := h.few
  have key := forLoop_fold (turn := fTurn (C (n + 4)) WF false (.tup [.name 3, .name 4]) l2_law_worth) td (fun (s : Rat) p => s + p.2 * wm p.1 xs)
    (fun s' rest e => ∃ (c' : Nat) (s3 s4 s5 s6 : Slot), (∀ q ∈ rest, q ∈ one) ∧ BS (t + d) c' s' ∧ c' + rest.length = one.length ∧ e = [.val (pl one), .val (.tuple (xs.map fr)), .val (fr s'), s3, s4, s5, s6] ∧ sOwn (some s3) = false ∧ sOwn (some s4) = false ∧ sOwn (some s5) = false ∧ sOwn (some s6) = false)
    (by
      rintro s' p rest e ⟨c', s3, s4, s5, s6, hr, hs, hc', rfl, e3, e4, e5, e6⟩
      simp only [List.length_cons] at hc'
      have hp := hr p (List.mem_cons_self ..)
      obtain ⟨f1, f2, f3⟩ := h.fit p hp
      obtain ⟨r5, r6, k1, k2, k6, k7⟩ := e_lpow2 (n := n) (q := p.2) (s := t) (b := d) (ks := p.1) (xs := xs) (a0 := .val (pl one)) (a1 := .val (.tuple (xs.map fr))) (a2 := .val (fr s')) (a3 := .val (pw p.1)) (s5 := s5) (s6 := s6) hx f2 f3 (h.bs p hp) ht e5 e6
      have e1 := e_law_add (n := n + 1) (hs.sm (by omega) (by omega)) (k2.sm (by omega) (by omega))
      refine ⟨[.val (pl one), .val (.tuple (xs.map fr)), .val (fr (s' + p.2 * wm p.1 xs)), .val (pw p.1), .val (fr (p.2 * wm p.1 xs)), r5, r6], ?_, c' + 1, .val (pw p.1), .val (fr (p.2 * wm p.1 xs)), r5, r6, fun x hx => hr x (List.mem_cons_of_mem _ hx), hs.add k2, by omega, rfl, rfl, rfl, k6, k7⟩
      have it : items? (pw p.1) = some (p.1.map PyData.int) := rfl
      simp -implicitDefEqProofs [e3, e4, e5, e6, fTurn_eq, l2_law_worth, td, it, k1, e1])
    (xs := one) (s := 0) (e := [.val (pl one), .val (.tuple (xs.map fr)), .val (fr 0), .non, .non, .non, .non]) ⟨0, .non, .non, .non, .non, fun q hq => hq, BS.zero, by omega, rfl, rfl, rfl, rfl, rfl⟩
  obtain ⟨e', k1, c, s3, s4, s5, s6, _, k2, k3, rfl, k4⟩ := key
  have ev : one.foldl (fun (s : Rat) p => s + p.2 * wm p.1 xs) 0 = worthP xs one := by
    rw [fold_lin fun k => wm k xs]
    unfold worthP
    grind
  rw [ev] at k1
  have w : walk? (pl one) = some (one.map td) := rfl
  rw [fr_zero] at k1
  rw [g_law_worth]
  simp -implicitDefEqProofs [b_law_worth, w, k1]
end
end PV.K12
set_option Elab.async false
set_option linter.all false
set_option maxRecDepth 100000
set_option maxHeartbeats 1000000
namespace PV.K12
open PySem PV.M
/-- a drawn fraction -/
structure Fq (q : Rat) : Prop where
  b : BS 1 1 q
  n : q.num.natAbs ≤ 1000
  d : q.den ≤ 1000
theorem Fq.zero : Fq 0 := ⟨BS.zero, by decide, by decide⟩
theorem Fq.of {a b : Int} (ha : a.natAbs ≤ 1000) (b0 : 0 < b) (b1 : b ≤ 12) : Fq (Rat.divInt a b) := by
  refine ⟨BS.small ha b0 b1, ?_, ?_⟩
  · rw [Rat.num_divInt, Int.sign_eq_one_of_pos b0, Int.one_mul]
    have := Int.natAbs_ediv_le_natAbs a ((b.gcd a : Nat) : Int)
    omega
  · rw [Rat.den_divInt, if_neg (by omega)]
    have := Nat.div_le_self b.natAbs (b.gcd a)
    omega
theorem fr_int (a : Int) : fr (Rat.divInt a 1) = .tuple [.int a, .int 1] := by
  obtain ⟨_, _, p1, p2⟩ := frac_parts (t := a) (b := 1) (by omega) rfl
  rw [if_pos (by omega)] at p1 p2
  have g : Nat.gcd a.natAbs (1 : Int).natAbs = 1 := by
    show Nat.gcd a.natAbs 1 = 1
    exact Nat.gcd_one_right _
  rw [g] at p1 p2
  unfold fr
  rw [← p1, ← p2]
  have : a.fdiv ((1 : Nat) : Int) = a := Int.fdiv_one a
  rw [this]
  rfl
def DrF (d : D) : Prop := ∃ q, d = fr q ∧ Fq q
theorem e_number {n m : Nat} {j : J} (ok : JOk m j) (hm : m < 2 ^ 39) : Dr (m + 3) DrF (C (n + 3) "_law_number" [jd j]) := by
  obtain ⟨_, j1, e1, ok1, r, rfl, r0, r1⟩ := e_draw (n := n + 1) (many := 8) ok (by omega) (by omega) (by omega)
  by_cases h : r < 5
  · have : r = 0 ∨ r = 1 ∨ r = 2 ∨ r = 3 ∨ r = 4 := by omega
    rcases this with rfl | rfl | rfl | rfl | rfl
    · exact ⟨.tuple [.int 1, .int 1], j1, by rw [g_law_number]; simp [b_law_number, e1], ok1.mono (by omega), _, (fr_int 1).symm, Fq.of (by decide) (by decide) (by decide)⟩
    · exact ⟨.tuple [.int (-1), .int 1], j1, by rw [g_law_number]; simp [b_law_number, e1], ok1.mono (by omega), _, (fr_int (-1)).symm, Fq.of (by decide) (by decide) (by decide)⟩
    · exact ⟨.tuple [.int 2, .int 1], j1, by rw [g_law_number]; simp [b_law_number, e1], ok1.mono (by omega), _, (fr_int 2).symm, Fq.of (by decide) (by decide) (by decide)⟩
    · exact ⟨.tuple [.int (-2), .int 1], j1, by rw [g_law_number]; simp [b_law_number, e1], ok1.mono (by omega), _, (fr_int (-2)).symm, Fq.of (by decide) (by decide) (by decide)⟩
    · exact ⟨.tuple [.int 3, .int 1], j1, by rw [g_law_number]; simp [b_law_number, e1], ok1.mono (by omega), _, (fr_int 3).symm, Fq.of (by decide) (by decide) (by decide)⟩
  · obtain ⟨_, j2, e2, ok2, s, rfl, s0, s1⟩ := e_draw (n := n + 1) (many := 41) ok1 (by omega) (by omega) (by omega)
    obtain ⟨_, j3, e3, ok3, t, rfl, t0, t1⟩ := e_draw (n := n + 1) (many := 12) ok2 (by omega) (by omega) (by omega)
    have e4 := e_law_frac (n := n) (t := s - 20) (b := 1 + t) (by omega) (Nat.lt_of_lt_of_le (show (1 + t).natAbs < 2 ^ 8 by omega) (Nat.pow_le_pow_right (by omega) (by omega)))
    refine ⟨fr (Rat.divInt (s - 20) (1 + t)), j3, ?_, ok3, _, rfl, Fq.of (by omega) (by omega) (by omega)⟩
    rw [g_law_number]
    simp [b_law_number, e1, e2, e3, e4, h]
/-- drawn powers -/
def Pows (many most : Int) (d : D) : Prop := ∃ ns : List Int, d = pw ns ∧ (ns.length : Int) = many ∧ (∀ k ∈ ns, 0 ≤ k) ∧ ns.sum ≤ most
theorem e_powers {n m : Nat} {j : J} {many most : Int} (ok : JOk m j) (hm : m < 2 ^ 39) (h0 : 0 ≤ many) (h1 : many ≤ 4) (h2 : 0 ≤ most) (h3 : most ≤ 1000) : Dr (m + 8) (Pows many most) (C (n + 2) "_law_powers" [jd j, .int many, .int most]) := by
  have key := forLoop_inv (turn := fTurn (C (n + 1)) WF true (.name 5) l1_law_powers)
    (fun xs e => ∃ (j' : J) (ns : List Int) (l : Int) (t : Slot), e = [.own (jd j'), .val (.int many), .val (.int most), .own (.list (ns.map .int)), .val (.int l), t] ∧ JOk (m + 2 * ns.length) j' ∧ (ns.length : Int) + xs.length = many ∧ (∀ k ∈ ns, 0 ≤ k) ∧ 0 ≤ l ∧ ns.sum + l = most ∧ sOwn (some t) = false)
    (by
      rintro x xs e ⟨j', ns, l, t, rfl, ok', hn, hk, hl0, hl1, ht⟩
      simp only [List.length_cons] at hn
      have hnl : ns.length < LINE := by
        show _ < 16777216
        omega
      obtain ⟨_, j1, e1, ok1, r, rfl, r0, r1⟩ := e_draw (n := n) (many := 3) ok' (by omega) (by omega) (by omega)
      have hs0 := (le_sum hk).1
      by_cases hr : 0 < r
      · obtain ⟨_, j2, e2, ok2, s, rfl, s0, s1⟩ := e_draw (n := n) (many := l + 1) ok1 (by omega) (by omega) (by omega)
        refine ⟨[.own (jd j2), .val (.int many), .val (.int most), .own (.list ((ns ++ [s]).map .int)), .val (.int (l - s)), .val x], ?_, j2, ns ++ [s], l - s, .val x, rfl, ok2.mono (by simp; omega), by simp; omega, ?_, by omega, by rw [List.sum_append]; simp; omega, rfl⟩
        · simp [ht, fTurn_eq, l1_law_powers, e1, e2, hr, hnl]
        · intro k hk'
          rcases List.mem_append.mp hk' with h | h
          · exact hk k h
          · have : k = s := by simpa using h
            omega
      · refine ⟨[.own (jd j1), .val (.int many), .val (.int most), .own (.list ((ns ++ [0]).map .int)), .val (.int (l - 0)), .val x], ?_, j1, ns ++ [0], l - 0, .val x, rfl, ok1.mono (by simp; omega), by simp; omega, ?_, by omega, by rw [List.sum_append]; simp; omega, rfl⟩
        · simp [ht, fTurn_eq, l1_law_powers, e1, hr, hnl]
        · intro k hk'
          rcases List.mem_append.mp hk' with h | h
          · exact hk k h
          · have : k = 0 := by simpa using h
            omega) (xs := rangeD 0 many) (e := [.own (jd j), .val (.int many), .val (.int most), .own (.list []), .val (.int most), .non]) ⟨j, [], most, .non, rfl, ok, by rw [len_rangeD]; simp; omega, by simp, h2, by simp, rfl⟩
  obtain ⟨e', e1, j', ns, l, t, rfl, ok', hn, hk, hl0, hl1, ht⟩ := key
  rw [g_law_powers]
  refine ⟨.tuple (ns.map .int), j', ?_, ok'.mono (by simp at hn; omega), ns, rfl, by simpa using hn, hk, by omega⟩
  simp [b_law_powers, rng1_int (j := many) (by omega) (by show _ ≤ (16777216 : Int); omega), e1]
/-- a drawn polynomial -/
def DrP (N deg len : Nat) (d : D) : Prop := ∃ l : Pl, d = pl l ∧ PolyT N deg len 2 l
theorem e_poly {n m N terms deg : Nat} {j : J} (ok : JOk m j) (hm : m < 2 ^ 38) (h1 : N ≤ 4) (ht : terms ≤ 20) (hd : deg ≤ 40) : Dr (m + 1 + 11 * terms) (DrP N deg terms) (C (n + 4) "_law_poly" [jd j, .int N, .int terms, .int deg]) := by
  obtain ⟨_, j1, e1, ok1, r, rfl, r0, r1⟩ := e_draw (n := n + 2) (many := (terms : Int) + 1) ok (by omega) (by omega) (by omega)
  have key := forLoop_inv (turn := fTurn (C (n + 3)) WF true (.name 5) l1_law_poly)
    (fun xs e => ∃ (j' : J) (l : Pl) (c : Nat) (t : Slot), e = [.own (jd j'), .val (.int N), .val (.int terms), .val (.int deg), .own (.dict (dd l)), t] ∧ JOk (m + 1 + 11 * (terms - xs.length)) j' ∧ c + xs.length ≤ terms ∧ DOk N deg 1 c l ∧ sOwn (some t) = false)
    (by
      rintro x xs e ⟨j', l, c, t, rfl, ok', hn, hl, ht⟩
      simp only [List.length_cons] at hn ok'
      obtain ⟨_, j2, e2, ok2, v, rfl, hv⟩ := e_number (n := n) ok' (by omega)
      obtain ⟨_, j3, e3, ok3, ns, rfl, k1, k2, k3⟩ := e_powers (n := n + 1) (many := N) (most := deg) ok2 (by omega) (by omega) (by omega) (by omega) (by omega)
      have few := hl.few
      have hkl : (dd l).length < LINE := by
        unfold dd
        rw [List.length_map]
        show _ < 16777216
        omega
      have hput := setD_4 (s0 := .own (jd j3)) (s1 := .val (.int N)) (s2 := .val (.int terms)) (s3 := .val (.int deg)) (l := [.val x]) (x := fr v) (key_ints (ns := ns)) hkl
      rw [dPut_dd hl.nd] at hput
      refine ⟨[.own (jd j3), .val (.int N), .val (.int terms), .val (.int deg), .own (.dict (dd (aput l ns v))), .val x], ?_, j3, aput l ns v, c + 1, .val x, rfl, ok3.mono (by omega), by omega, hl.put ⟨by omega, k2, by omega⟩ (hv.b.more (by omega)), rfl⟩
      simp -implicitDefEqProofs [ht, fTurn_eq, l1_law_poly, e2, e3, hput]) (xs := rangeD 0 r) (e := [.own (jd j1), .val (.int N), .val (.int terms), .val (.int deg), .own (.dict (dd [])), .non]) ⟨j1, [], 0, .non, rfl, ok1.mono (by omega), by rw [len_rangeD]; omega, DOk.nil, rfl⟩
  obtain ⟨e', e2, j', l, c, t, rfl, ok', hn, hl, ht⟩ := key
  have hc : c ≤ terms := by simpa using hn
  have few := hl.few
  have e3 := e_told_of (n := n + 1) (l := l) hl.nd (by omega)
  have P := hl.ord (by omega)
  rw [g_law_poly]
  have e2' : forLoop (fTurn (C (n + 3)) WF true (.name 5) l1_law_poly) (rangeD 0 r) [.own (jd j1), .val (.int N), .val (.int terms), .val (.int deg), .own (.dict []), .non] = .ok (.nx, [.own (jd j'), .val (.int N), .val (.int terms), .val (.int deg), .own (.dict (dd l)), t]) := e2
  refine ⟨pl (ord l), j', ?_, ok'.mono (by simp), ord l, rfl, P.fit, P.nz, P.bs, Nat.le_trans P.few hc, P.srt⟩
  simp -implicitDefEqProofs [b_law_poly, e1, rng1_int (j := r) (by omega) (by show _ ≤ (16777216 : Int); omega), e2', e3, flat_pl]
/-- drawn fractions -/
theorem e_numbers {n m : Nat} {j : J} {k : Nat} (ok : JOk m j) (hm : m < 2 ^ 37) (hk : k ≤ 100) : ∃ (qs : List Rat) (j' : J), C (n + 4) "_law_numbers" [jd j, .int k] = .ok (.tuple (qs.map fr), jd j') ∧ JOk (m + 7 * k) j' ∧ qs.length = k ∧ ∀ q ∈ qs, Fq q := by
  have L : LINE = 16777216 := rfl
  have key := forLoop_inv (turn := fTurn (C (n + 3)) WF true (.name 3) l1_law_numbers)
    (fun xs e => ∃ (j' : J) (qs : List Rat) (t : Slot), e = [.own (jd j'), .val (.int k), .own (.list (qs.map fr)), t] ∧ JOk (m + 7 * qs.length) j' ∧ qs.length + xs.length = k ∧ (∀ q ∈ qs, Fq q) ∧ sOwn (some t) = false)
    (by
      rintro x xs e ⟨j', qs, t, rfl, ok', hn, hq, ht⟩
      simp only [List.length_cons] at hn
      obtain ⟨_, j1, e1, ok1, q1, rfl, h1⟩ := e_number (n := n) ok' (by omega)
      obtain ⟨_, j2, e2, ok2, q2, rfl, h2⟩ := e_number (n := n) ok1 (by omega)
      obtain ⟨d, j3, e3, ok3, hd⟩ := e_of (n := n + 1) (d := .tuple [fr 0, fr q1, fr q2]) (.inl rfl) ok2 (by omega) (by simp) (by simp)
      obtain ⟨q, rfl, hq'⟩ : ∃ q, d = fr q ∧ Fq q := by
        simp at hd
        rcases hd with rfl | rfl | rfl
        · exact ⟨0, rfl, Fq.zero⟩
        · exact ⟨q1, rfl, h1⟩
        · exact ⟨q2, rfl, h2⟩
      rw [fr_zero] at e3
      have hl : (qs.map fr).length < LINE := by
        rw [List.length_map]
        omega
      refine ⟨[.own (jd j3), .val (.int k), .own (.list ((qs ++ [q]).map fr)), .val x], ?_, j3, qs ++ [q], .val x, rfl, ok3.mono (by simp; omega), by simp; omega, fun y hy => (List.mem_append.mp hy).elim (hq y) fun h => by rw [List.mem_singleton.mp h]; exact hq', rfl⟩
      simp -implicitDefEqProofs [ht, fTurn_eq, l1_law_numbers, e1, e2, e3, hl]
      simp at hl
      simp [hl]) (xs := rangeD 0 (k : Int)) (e := [.own (jd j), .val (.int k), .own (.list []), .non]) ⟨j, [], .non, rfl, ok, by rw [len_rangeD]; simp, by simp, rfl⟩
  obtain ⟨e', e1, j', qs, t, rfl, ok', hn, hq, ht⟩ := key
  have hlen : qs.length = k := by simpa using hn
  refine ⟨qs, j', ?_, ok'.mono (by omega), hlen, hq⟩
  rw [g_law_numbers]
  simp -implicitDefEqProofs [b_law_numbers, rng1_int (j := (k : Int)) (by omega) (by show _ ≤ (16777216 : Int); omega), e1]
end PV.K12
set_option Elab.async false
set_option linter.all false
set_option maxRecDepth 100000
set_option maxHeartbeats 2000000
namespace PV.K12
open PySem PV.M
theorem sh_bulk {d : D} (h : M.plain d = true) (hd : PyData.depth d ≤ 64) (hw : PyData.bulk d ≤ 8000) : Sh d := by
  obtain ⟨a, b, c, e⟩ := plain_show d h
  have l := PyData.shown_le_bulk 1921 (by decide) d e
  have hl : d.shown.length ≤ LINE := by
    have : (1921 + 2) * d.bulk ≤ 1923 * 8000 := Nat.mul_le_mul (by omega) hw
    show _ ≤ 16777216
    omega
  refine ⟨?_, strOk_of (plain_cps d h)⟩
  show (if d.showable && !d.hasDict && decide (d.shown.length ≤ LINE) && decide (PyData.depth d ≤ 64) && noDict d then some (PyData.str d.shown) else none) = _
  rw [a, b, c, decide_eq_true hl, decide_eq_true hd]
  rfl
theorem plain_fr {q : Rat} (h : Sm q) : M.plain (fr q) = true := by
  have a := log2_lt h.n (by omega)
  have b := log2_lt h.d1 (by omega)
  show M.plains [.int q.num, .int (q.den : Int)] = true
  simp only [M.plains, M.plain, Bool.and_eq_true, decide_eq_true_eq]
  exact ⟨by omega, by omega, trivial⟩
theorem plains_ints {d : Nat} (hd : d ≤ 1000) : ∀ {ns : List Int}, (∀ x ∈ ns, 0 ≤ x ∧ x ≤ d) → M.plains (ns.map .int) = true ∧ PyData.bulkAll (ns.map .int) = ns.length
  | [], _ => ⟨rfl, by simp [PyData.bulkAll]⟩
  | x :: ns, h => by
    obtain ⟨a, b⟩ := plains_ints hd (ns := ns) fun y hy => h y (List.mem_cons_of_mem _ hy)
    obtain ⟨x0, x1⟩ := h x (List.mem_cons_self ..)
    have l : x.natAbs.log2 < 1800 := log2_lt (lt_pow (show x.natAbs < 2 ^ 10 by omega) (by omega)) (by omega)
    rw [List.map_cons]
    refine ⟨?_, ?_⟩
    · simp only [M.plains, M.plain, a, Bool.and_true, decide_eq_true_eq]
      omega
    · simp only [PyData.bulkAll, PyData.bulk, b, List.length_cons]
      omega
theorem td_parts {N d : Nat} {p : List Int × Rat} (hN : N ≤ 4) (hd : d ≤ 1000) (hf : p.1.length = N ∧ (∀ x ∈ p.1, 0 ≤ x) ∧ p.1.sum ≤ d) (hs : Sm p.2) : M.plain (td p) = true ∧ PyData.bulk (td p) ≤ 12 := by
  obtain ⟨h1, h2, h3⟩ := hf
  have le := (le_sum h2).2
  obtain ⟨a, b⟩ := plains_ints hd (ns := p.1) fun x hx => ⟨h2 x hx, by have := le x hx; omega⟩
  refine ⟨?_, ?_⟩
  · show M.plains [pw p.1, fr p.2] = true
    simp only [M.plains, plain_fr hs, Bool.and_true]
    exact a
  · have c : PyData.bulk (fr p.2) = 2 := by simp [fr, PyData.bulk, PyData.bulkAll]
    have e : PyData.bulk (pw p.1) = p.1.length := b
    show PyData.bulkAll [pw p.1, fr p.2] ≤ 12
    simp only [PyData.bulkAll, c, e]
    omega
theorem pl_parts {N d : Nat} (hN : N ≤ 4) (hd : d ≤ 1000) : ∀ {l : Pl}, (∀ p ∈ l, (p.1.length = N ∧ (∀ x ∈ p.1, 0 ≤ x) ∧ p.1.sum ≤ d) ∧ Sm p.2) → M.plain (pl l) = true ∧ PyData.bulk (pl l) ≤ 13 * l.length
  | [], _ => ⟨rfl, by simp [pl, PyData.bulk, PyData.bulkAll]⟩
  | p :: l, h => by
    obtain ⟨a, b⟩ := pl_parts hN hd (l := l) fun q hq => h q (List.mem_cons_of_mem _ hq)
    obtain ⟨c, e⟩ := td_parts hN hd (h p (List.mem_cons_self ..)).1 (h p (List.mem_cons_self ..)).2
    refine ⟨?_, ?_⟩
    · show M.plains (td p :: l.map td) = true
      simp only [M.plains, c, Bool.true_and]
      exact a
    · have b : PyData.bulkAll (l.map td) ≤ 13 * l.length := b
      show PyData.bulkAll (td p :: l.map td) ≤ _
      simp only [PyData.bulkAll, List.length_cons]
      omega
theorem PolyT.parts {N d l t : Nat} {p : Pl} (h : PolyT N d l t p) (hN : N ≤ 4) (hd : d ≤ 1000) (ht : t ≤ 60) : M.plain (pl p) = true ∧ PyData.bulk (pl p) ≤ 13 * l ∧ PyData.depth (pl p) ≤ 4 := by
  obtain ⟨a, b⟩ := pl_parts hN hd (l := p) fun q hq => ⟨h.fit q hq, (h.bs q hq).sm ht (by omega)⟩
  have f := h.few
  obtain ⟨_, c, _⟩ := lay_tds p
  refine ⟨a, by omega, ?_⟩
  show PyData.depthAll (p.map td) + 1 ≤ 4
  omega
theorem sh_pl {N d l t : Nat} {p : Pl} (h : PolyT N d l t p) (hN : N ≤ 4) (hd : d ≤ 1000) (ht : t ≤ 60) (hl : l ≤ 600) : Sh (pl p) := by
  obtain ⟨a, b, c⟩ := h.parts hN hd ht
  exact sh_bulk a (by omega) (by omega)
theorem sh_pls {N d l t d' l' t' : Nat} {p q : Pl} (h : PolyT N d l t p) (h' : PolyT N d' l' t' q) (hN : N ≤ 4) (hd : d ≤ 1000) (ht : t ≤ 60) (hl : l ≤ 200) (hd' : d' ≤ 1000) (ht' : t' ≤ 60) (hl' : l' ≤ 200) : Sh (.list [pl p, pl q]) := by
  obtain ⟨a, b, c⟩ := h.parts hN hd ht
  obtain ⟨a', b', c'⟩ := h'.parts hN hd' ht'
  refine sh_bulk ?_ ?_ ?_
  · show M.plains [pl p, pl q] = true
    simp only [M.plains, a, a', Bool.and_true]
  · simp only [PyData.depth, PyData.depthAll]
    omega
  · show PyData.bulkAll [pl p, pl q] ≤ 8000
    simp only [PyData.bulkAll]
    omega
theorem sh_pf {N d l t : Nat} {p : Pl} {q : Rat} (h : PolyT N d l t p) (hq : Sm q) (hN : N ≤ 4) (hd : d ≤ 1000) (ht : t ≤ 60) (hl : l ≤ 200) : Sh (.list [pl p, fr q]) := by
  obtain ⟨a, b, c⟩ := h.parts hN hd ht
  have e : PyData.bulk (fr q) = 2 := by simp [fr, PyData.bulk, PyData.bulkAll]
  have f : PyData.depth (fr q) = 1 := by simp [fr, PyData.depth, PyData.depthAll]
  refine sh_bulk ?_ ?_ ?_
  · show M.plains [pl p, fr q] = true
    simp only [M.plains, a, plain_fr hq, Bool.and_true]
  · simp only [PyData.depth, PyData.depthAll, f]
    omega
  · show PyData.bulkAll [pl p, fr q] ≤ 8000
    simp only [PyData.bulkAll, e]
    omega
theorem e_jar {n : Nat} {ns : List Int} {turn : Int} (h0 : 0 ≤ turn) (h1 : turn ≤ 10) : ∃ j, C (n + 1) "_law_jar" [.list (ns.map .int), .int turn] = .ok (jd j, .none) ∧ JOk 0 j := by
  have key := forLoop_inv (turn := fTurn (C n) WF false (.name 3) l1_law_jar)
    (fun xs e => ∃ (mx : Int) (rest : List Int) (t : Slot), xs = rest.map .int ∧ e = [.val (.list (ns.map .int)), .val (.int turn), .val (.int mx), t, .non] ∧ 0 ≤ mx ∧ mx < 2 ^ 31 ∧ sOwn (some t) = false)
    (by
      rintro x xs e ⟨mx, rest, t, e1, rfl, m0, m1, ht⟩
      cases rest with
      | nil => cases e1
      | cons c rest =>
        rw [List.map_cons] at e1
        injection e1 with e2 e3
        subst e2 e3
        have c0 := Int.emod_nonneg c (b := 2147483477) (by decide)
        have c1 := Int.emod_lt_of_pos c (b := 2147483477) (by decide)
        refine ⟨[.val (.list (ns.map .int)), .val (.int turn), .val (.int ((mx * 50021 + c % 2147483477 * 17 + 9) % 2147483477)), .val (.int c), .non], ?_, _, rest, .val (.int c), rfl, rfl, Int.emod_nonneg _ (by decide), by have := Int.emod_lt_of_pos (mx * 50021 + c % 2147483477 * 17 + 9) (b := 2147483477) (by decide); omega, rfl⟩
        simp (disch := omega) [ht, fTurn_eq, l1_law_jar, mul_int, mod_pos])
    (xs := (ns.take 9).map .int) (e := [.val (.list (ns.map .int)), .val (.int turn), .val (.int (8209 + 7193 * turn)), .non, .non]) ⟨_, ns.take 9, .non, rfl, rfl, by omega, by omega, rfl⟩
  obtain ⟨e', e1, mx, rest, t, _, rfl, m0, m1, ht⟩ := key
  have hc : cut (ns.map PyData.int) none (some 9) = (ns.take 9).map .int := by
    have := cut_to (xs := ns.map PyData.int) (i := 9)
    rw [← List.map_take] at this
    exact this
  have hp : binF .pow (.int 10) (.int 15) = some (.int 1000000000000000) := by rw [pow_int (by decide)]; rfl
  have hmul : binF .mul (.int 7193) (.int turn) = some (.int (7193 * turn)) := mul_int (by decide) (by omega)
  have fin : ∀ own : Int, 0 ≤ (if own < 0 ∨ 1000000000000000 ≤ own then (if own < 0 then -own else own) else 0) := fun own => by
    split
    · split <;> omega
    · omega
  have hd1 : ∀ i : Int, binF .mod (.int i) (.int 2147483477) = some (.int (i % 2147483477)) := fun i => mod_pos (by decide)
  have hm1 : binF .mul (.int mx) (.int 43) = some (.int (mx * 43)) := mul_int (by omega) (by decide)
  have main : ∀ own : Int, ((turn < (ns.length : Int) ∧ idxF (.list (ns.map .int)) (.int turn) = some (.int own)) ∨ (¬ turn < (ns.length : Int) ∧ own = 0)) → C (n + 1) "_law_jar" [.list (ns.map .int), .int turn] = .ok (jd ⟨if own < 0 ∨ 1000000000000000 ≤ own then (if own < 0 then -own else own) else 0, (mx * 43 + own % 2147483477 * 30011 + 5) % 2147483477, 0⟩, .none) := fun own ho => by
    have c0 := Int.emod_nonneg own (b := 2147483477) (by decide)
    have c1 := Int.emod_lt_of_pos own (b := 2147483477) (by decide)
    have hm2 : binF .mul (.int (own % 2147483477)) (.int 30011) = some (.int (own % 2147483477 * 30011)) := mul_int (by omega) (by decide)
    have hm3 : binF .mul (.int 0) (.int 30011) = some (.int 0) := by rw [mul_int (by decide) (by decide)]; rfl
    rw [g_law_jar]
    rcases ho with ⟨hl, hi⟩ | ⟨hl, rfl⟩
    · by_cases h : own < 0
      · simp [ht, -List.map_take, b_law_jar, hmul, hc, e1, hl, hi, -idx_list, hm1, hm2, hd1, h, jd]
      · by_cases h2 : 1000000000000000 ≤ own <;> simp [ht, -List.map_take, b_law_jar, hmul, hc, e1, hl, hi, -idx_list, hm1, hm2, hd1, h, h2, hp, jd]
    · simp [ht, -List.map_take, b_law_jar, hmul, hc, e1, hl, hm1, hm3, hd1, hp, jd]
  have okJ : ∀ own : Int, JOk 0 ⟨if own < 0 ∨ 1000000000000000 ≤ own then (if own < 0 then -own else own) else 0, (mx * 43 + own % 2147483477 * 30011 + 5) % 2147483477, 0⟩ := fun own => by
    have b0 := Int.emod_nonneg (mx * 43 + own % 2147483477 * 30011 + 5) (b := 2147483477) (by decide)
    have b1 := Int.emod_lt_of_pos (mx * 43 + own % 2147483477 * 30011 + 5) (b := 2147483477) (by decide)
    generalize (mx * 43 + own % 2147483477 * 30011 + 5) % 2147483477 = q at b0 b1
    exact ⟨fin own, b0, by simp only; omega, by simp, by simp⟩
  by_cases hl : turn < (ns.length : Int)
  · have hlt : turn.toNat < ns.length := by omega
    refine ⟨_, main ns[turn.toNat] (.inl ⟨hl, ?_⟩), okJ _⟩
    simp [h0, hlt]
  · exact ⟨_, main 0 (.inr ⟨hl, rfl⟩), okJ _⟩
end PV.K12
set_option Elab.async false
set_option linter.all false
set_option maxRecDepth 100000
set_option maxHeartbeats 1000000
namespace PV.K12
open PySem PV.M
/-! ### rows of whole numbers -/
def rowD (r : List Nat) : D := .tuple (r.map fun (i : Nat) => PyData.int i)
def rows (T : Nat) : Nat → List (List Nat)
  | 0 => [[]]
  | N + 1 => (rows T N).flatMap fun r => (List.range (T + 1)).map fun a => r ++ [a]
theorem mem_rows {T : Nat} : ∀ {N : Nat} {r : List Nat}, r ∈ rows T N ↔ Grid T N r
  | 0, r => by
    simp only [rows, List.mem_singleton]
    constructor
    · rintro rfl
      exact ⟨rfl, fun x hx => by cases hx⟩
    · rintro ⟨h, _⟩
      exact List.eq_nil_of_length_eq_zero h
  | N + 1, r => by
    simp only [rows, List.mem_flatMap, List.mem_map, List.mem_range]
    constructor
    · rintro ⟨q, hq, a, ha, rfl⟩
      obtain ⟨h1, h2⟩ := (mem_rows (T := T) (N := N)).mp hq
      refine ⟨by simp [h1], fun x hx => ?_⟩
      rcases List.mem_append.mp hx with hx | hx
      · exact h2 x hx
      · have := List.mem_singleton.mp hx
        omega
    · rintro ⟨h1, h2⟩
      have ne : r ≠ [] := fun e => by rw [e] at h1; simp at h1
      refine ⟨r.dropLast, (mem_rows (T := T) (N := N)).mpr ⟨by rw [List.length_dropLast]; omega, fun x hx => h2 x (List.dropLast_subset r hx)⟩, r.getLast ne, ?_, List.dropLast_concat_getLast ne⟩
      have := h2 _ (List.getLast_mem ne)
      omega
theorem len_rows {T : Nat} (hT : T ≤ 4) : ∀ N, (rows T N).length ≤ 5 ^ N
  | 0 => by simp [rows]
  | N + 1 => by
    have := len_rows hT N
    have e : ∀ rs : List (List Nat), (rs.flatMap fun r => (List.range (T + 1)).map fun a => r ++ [a]).length = rs.length * (T + 1) := fun rs => by
      induction rs with
      | nil => simp
      | cons r rs ih =>
        rw [List.flatMap_cons, List.length_append, ih, List.length_map, List.length_range, List.length_cons, Nat.add_mul]
        omega
    show ((rows T N).flatMap _).length ≤ _
    rw [e, Nat.pow_succ]
    exact Nat.mul_le_mul this (by omega)
section
variable {n : Nat}
theorem e_longer {T N : Nat} {rs : List (List Nat)} {a2 a3 s5 : Slot} {r0 : List (List Nat)} (hT : T ≤ 4) (hr : ∀ r ∈ rs, r.length ≤ 10) (hl : rs.length ≤ 1000) (h5 : sOwn (some s5) = false) :
    ∃ r5, forLoop (fTurn (C n) WF false (.name 5) l1_law_rows_of) (rs.map rowD) [.val (.int N), .val (.int T), a2, a3, .own (.list []), s5, .non] = .ok (.nx, [.val (.int N), .val (.int T), a2, a3, .own (.list ((rs.flatMap fun r => (List.range (T + 1)).map fun a => r ++ [a]).map rowD)), r5, .non]) ∧ sOwn (some r5) = false := by
  have L : LINE = 16777216 := rfl
  have key := forLoop_fold (turn := fTurn (C n) WF false (.name 5) l1_law_rows_of) rowD (fun (s : List (List Nat)) r => s ++ (List.range (T + 1)).map fun a => r ++ [a])
    (fun s rest e => ∃ (t : Slot), (∀ r ∈ rest, r.length ≤ 10) ∧ s.length + 5 * rest.length ≤ 5 * rs.length ∧ e = [.val (.int N), .val (.int T), a2, a3, .own (.list (s.map rowD)), t, .non] ∧ sOwn (some t) = false)
    (by
      rintro s r rest e ⟨t, hr, hs, rfl, ht⟩
      simp only [List.length_cons] at hs
      have lr := hr r (List.mem_cons_self ..)
      have comp : cRun (C n) x1_law_rows_of (.name 6) .nil [6] (rangeD 0 ((T : Int) + 1)) [.val (.int N), .val (.int T), a2, a3, .own (.list (s.map rowD)), .val (rowD r), .non] = .ok (.list (((List.range (T + 1)).map fun a => r ++ [a]).map rowD), [.val (.int N), .val (.int T), a2, a3, .own (.list (s.map rowD)), .val (rowD r), .non]) := by
        rw [show ((T : Int) + 1) = ((T + 1 : Nat) : Int) by omega, rangeD_nat, cRun_typed (fun (i : Nat) => PyData.int i) (fun i => rowD (r ++ [i]))]
        case h => rfl
        case hl => rw [List.length_range]; omega
        case hr => rfl
        case ht =>
          intro i hi
          have b1 : binF .add (rowD r) (.tuple [.int i]) = some (rowD (r ++ [i])) := by
            show (if _ then _ else _) = _
            rw [if_pos (by simp; omega)]
            unfold rowD
            simp
          simp -implicitDefEqProofs [cTurn_eq, x1_law_rows_of, b1]
        rw [List.map_map]
        rfl
      refine ⟨[.val (.int N), .val (.int T), a2, a3, .own (.list ((s ++ (List.range (T + 1)).map fun a => r ++ [a]).map rowD)), .val (rowD r), .non], ?_, .val (rowD r), fun x hx => hr x (List.mem_cons_of_mem _ hx), by simp; omega, rfl, rfl⟩
      have ext := kExt_4 (s0 := .val (.int N)) (s1 := .val (.int T)) (s2 := a2) (s3 := a3) (xs := s.map rowD) (ys := ((List.range (T + 1)).map fun a => r ++ [a]).map rowD) (l := [.val (rowD r), .non]) (by simp; omega)
      rw [← List.map_append] at ext
      generalize ((List.range (T + 1)).map fun a => r ++ [a]) = more at comp ext ⊢
      simp -implicitDefEqProofs [ht, fTurn_eq, l1_law_rows_of, rng1_int (j := (T : Int) + 1) (by omega) (by show _ ≤ (16777216 : Int); omega), comp, ext, -List.map_append])
    (xs := rs) (s := []) (e := [.val (.int N), .val (.int T), a2, a3, .own (.list []), s5, .non]) ⟨s5, hr, by simp, rfl, h5⟩
  obtain ⟨e', k1, t, _, _, rfl, k2⟩ := key
  have ev : ∀ (rs s : List (List Nat)), rs.foldl (fun (s : List (List Nat)) r => s ++ (List.range (T + 1)).map fun a => r ++ [a]) s = s ++ rs.flatMap fun r => (List.range (T + 1)).map fun a => r ++ [a] := fun rs => by
    induction rs with
    | nil => intro s; simp
    | cons r rs ih =>
      intro s
      rw [List.foldl_cons, ih, List.flatMap_cons, List.append_assoc]
  rw [ev, List.nil_append] at k1
  exact ⟨t, k1, k2⟩
theorem rows_short {T : Nat} {N : Nat} (hN : N ≤ 10) : ∀ r ∈ rows T N, r.length ≤ 10 := fun r hr => by
  have := (mem_rows.mp hr).1
  omega
theorem e_rows_of {T N : Nat} (hT : T ≤ 4) (hN : N ≤ 4) : C (n + 1) "_law_rows_of" [.int N, .int T] = .ok (.list ((rows T N).map rowD), .none) := by
  have L : LINE = 16777216 := rfl
  have key := forLoop_fold (turn := fTurn (C n) WF false (.name 3) l2_law_rows_of) (fun (i : Nat) => PyData.int i) (fun (k : Nat) _ => k + 1)
    (fun k rest e => ∃ (t3 t4 t5 : Slot), k + rest.length = N ∧ e = [.val (.int N), .val (.int T), .val (.list ((rows T k).map rowD)), t3, t4, t5, .non] ∧ sOwn (some t3) = false ∧ sOwn (some t5) = false)
    (by
      rintro k i rest e ⟨t3, t4, t5, hk, rfl, e3, e5⟩
      simp only [List.length_cons] at hk
      have hl : (rows T k).length ≤ 1000 := Nat.le_trans (len_rows hT k) (Nat.le_trans (Nat.pow_le_pow_right (by omega) (show k ≤ 4 by omega)) (by decide))
      obtain ⟨r5, k1, k2⟩ := e_longer (n := n) (T := T) (N := N) (rs := rows T k) (a2 := .val (.list ((rows T k).map rowD))) (a3 := .val (.int i)) (s5 := t5) (r0 := []) hT (rows_short (by omega)) hl e5
      refine ⟨[.val (.int N), .val (.int T), .val (.list ((rows T (k + 1)).map rowD)), .val (.int i), .val (.list ((rows T (k + 1)).map rowD)), r5, .non], ?_, .val (.int i), .val (.list ((rows T (k + 1)).map rowD)), r5, by omega, rfl, rfl, k2⟩
      have w : walk? (.list ((rows T k).map rowD)) = some ((rows T k).map rowD) := rfl
      have k1' : forLoop (fTurn (C n) WF false (.name 5) l1_law_rows_of) ((rows T k).map rowD) [.val (.int N), .val (.int T), .val (.list ((rows T k).map rowD)), .val (.int i), .own (.list []), t5, .non] = .ok (.nx, [.val (.int N), .val (.int T), .val (.list ((rows T k).map rowD)), .val (.int i), .own (.list ((rows T (k + 1)).map rowD)), r5, .non]) := k1
      simp -implicitDefEqProofs [e3, fTurn_eq, l2_law_rows_of, w, k1'])
    (xs := List.range N) (s := 0) (e := [.val (.int N), .val (.int T), .val (.list ((rows T 0).map rowD)), .non, .non, .non, .non]) ⟨.non, .non, .non, by simp, rfl, rfl, rfl⟩
  obtain ⟨e', k1, t3, t4, t5, k2, rfl, k3, k4⟩ := key
  have ev : (List.range N).foldl (fun (k : Nat) _ => k + 1) 0 = N := by simpa using k2
  rw [ev] at k1
  have k1' : forLoop (fTurn (C n) WF false (.name 3) l2_law_rows_of) ((List.range N).map fun (i : Nat) => PyData.int i) [.val (.int N), .val (.int T), .val (.list [.tuple []]), .non, .non, .non, .non] = .ok (.nx, [.val (.int N), .val (.int T), .val (.list ((rows T N).map rowD)), t3, t4, t5, .non]) := k1
  rw [g_law_rows_of]
  simp -implicitDefEqProofs [b_law_rows_of, rng1_int (j := (N : Int)) (by omega) (by show _ ≤ (16777216 : Int); omega), rangeD_nat, k1']
end
end PV.K12
set_option Elab.async false
set_option linter.all false
set_option maxRecDepth 100000
set_option maxHeartbeats 2000000
namespace PV.K12
open PySem PV.M
/-! ### equal data -/
theorem eqv_ints : ∀ a b : List Int, PyData.eqvAll (a.map .int) (b.map .int) = decide (a = b)
  | [], [] => by simp [PyData.eqvAll]
  | [], _ :: _ => by simp [PyData.eqvAll]
  | _ :: _, [] => by simp [PyData.eqvAll]
  | x :: a, y :: b => by
    have := eqv_ints a b
    rw [List.map_cons, List.map_cons]
    simp only [PyData.eqvAll, PyData.eqv, this]
    by_cases h : x = y <;> by_cases h2 : a = b <;> simp [h, h2]
theorem eqv_fr (p q : Rat) : PyData.eqv (fr p) (fr q) = decide (p = q) := by
  by_cases h : p = q
  · subst h
    simp [fr, PyData.eqv, PyData.eqvAll]
  · have : ¬ (p.num = q.num ∧ p.den = q.den) := fun ⟨a, b⟩ => h (Rat.ext a b)
    rw [decide_eq_false h]
    simp only [fr, PyData.eqv, PyData.eqvAll]
    by_cases e : p.num = q.num
    · have e2 : ¬ p.den = q.den := fun z => this ⟨e, z⟩
      have e3 : ¬ ((p.den : Int) = q.den) := fun z => e2 (by omega)
      simp [e, e3, e2]
    · simp [e]
theorem eqv_td (p q : List Int × Rat) : PyData.eqv (td p) (td q) = decide (p = q) := by
  obtain ⟨a, x⟩ := p
  obtain ⟨b, y⟩ := q
  have h1 : PyData.eqv (pw a) (pw b) = decide (a = b) := by
    show PyData.eqv (.tuple _) (.tuple _) = _
    rw [PyData.eqv, eqv_ints]
  show PyData.eqv (.tuple [pw a, fr x]) (.tuple [pw b, fr y]) = _
  simp only [PyData.eqv, PyData.eqvAll, h1, eqv_fr]
  by_cases e : a = b <;> by_cases f : x = y <;> simp [e, f]
theorem eqv_pls : ∀ a b : Pl, PyData.eqvAll (a.map td) (b.map td) = decide (a = b)
  | [], [] => by simp [PyData.eqvAll]
  | [], _ :: _ => by simp [PyData.eqvAll]
  | _ :: _, [] => by simp [PyData.eqvAll]
  | p :: a, q :: b => by
    have := eqv_pls a b
    rw [List.map_cons, List.map_cons]
    simp only [PyData.eqvAll, eqv_td, this]
    by_cases h : p = q <;> by_cases h2 : a = b <;> simp [h, h2]
theorem eq_pl (a b : Pl) : cmpF .eq (pl a) (pl b) = some (decide (a = b)) := by
  rw [eq_data (eqOk_pl a) (eqOk_pl b)]
  show some (PyData.eqv (.tuple _) (.tuple _)) = _
  rw [PyData.eqv, eqv_pls]
theorem ne_pls (a b : Pl) : cmpF .ne (pl a) (pl b) = some (!decide (a = b)) := by
  rw [ne_data (eqOk_pl a) (eqOk_pl b)]
  show some (!PyData.eqv (.tuple _) (.tuple _)) = _
  rw [PyData.eqv, eqv_pls]
theorem eqOk_fr (q : Rat) : eqOk (fr q) = true := by
  simp [fr, eqOk, PyData.canLay0, PyData.canLayAll0, PyData.depth, PyData.depthAll, noDict, noDict.noDicts]
theorem ne_frs (p q : Rat) : cmpF .ne (fr p) (fr q) = some (!decide (p = q)) := by
  rw [ne_data (eqOk_fr p) (eqOk_fr q), eqv_fr]
/-! ### the greatest power -/
theorem fmax_is : ∀ (ns : List Int) (n : Int), (n ≤ ns.foldl max n ∧ ∀ y ∈ ns, y ≤ ns.foldl max n) ∧ ∀ b, n ≤ b → (∀ y ∈ ns, y ≤ b) → ns.foldl max n ≤ b
  | [], n => ⟨⟨Int.le_refl _, fun _ h => by cases h⟩, fun b h _ => h⟩
  | m :: ns, n => by
    obtain ⟨⟨h1, h2⟩, h3⟩ := fmax_is ns (max n m)
    rw [List.foldl_cons]
    refine ⟨⟨by omega, fun y hy => ?_⟩, fun b hb hy => h3 b (by have := hy m (List.mem_cons_self ..); omega) fun y h => hy y (List.mem_cons_of_mem _ h)⟩
    rcases List.mem_cons.mp hy with rfl | hy
    · omega
    · exact h2 y hy
theorem ints_map : ∀ ns : List Int, ints? (ns.map .int) = some ns
  | [] => rfl
  | n :: ns => by
    rw [List.map_cons]
    unfold ints?
    rw [ints_map ns]
    rfl
theorem maxl_tup (k : List Int) (hk : k.length ≤ 1000) : bltF .maxl [.tuple (.int 0 :: k.map .int)] = some (.int (k.foldl max 0)) := by
  have L : LINE = 16777216 := rfl
  show blt_maxl [.tuple (((0 : Int) :: k).map .int)] = _
  unfold blt_maxl
  simp only [ints_map]
  rw [if_pos (by simp; omega)]
theorem maxl_list (ns : List Int) : bltF .maxl [.list (.int 0 :: ns.map .int)] = some (.int (ns.foldl max 0)) := by
  show blt_maxl [.list (((0 : Int) :: ns).map .int)] = _
  unfold blt_maxl
  simp only [ints_map]
def topOf (l : Pl) : Int := (l.map fun p => p.1.foldl max 0).foldl max 0
theorem top_box {N d l t : Nat} {p : Pl} (h : ∀ q ∈ p, q.1.length = N ∧ (∀ x ∈ q.1, 0 ≤ x) ∧ q.1.sum ≤ 4) : 0 ≤ topOf p ∧ topOf p ≤ 4 ∧ ∀ q ∈ p, Box (topOf p).toNat N q.1 := by
  obtain ⟨⟨h1, h2⟩, h3⟩ := fmax_is (p.map fun q => q.1.foldl max 0) 0
  have up : topOf p ≤ 4 := h3 4 (by omega) fun y hy => by
    obtain ⟨q, hq, rfl⟩ := List.mem_map.mp hy
    refine (fmax_is q.1 0).2 4 (by omega) fun x hx => ?_
    have := (le_sum (h q hq).2.1).2 x hx
    have := (h q hq).2.2
    omega
  refine ⟨h1, up, fun q hq => ⟨(h q hq).1, fun x hx => ⟨(h q hq).2.1 x hx, ?_⟩⟩⟩
  have a := (fmax_is q.1 0).1.2 x hx
  have b := h2 _ (List.mem_map_of_mem (f := fun q : List Int × Rat => q.1.foldl max 0) hq)
  have c : topOf p = (p.map fun q => q.1.foldl max 0).foldl max 0 := rfl
  omega
/-! ### a walk that may stop -/
theorem forLoop_find {A : Type} {turn : D → Fram → Res (Flw × Fram)} {f : A → D} {P : A → Bool} {I : Fram → Prop} {d : D} {fl : Bool} : ∀ {xs : List A} (hn : ∀ x ∈ xs, P x = false → ∀ e, I e → ∃ e', turn (f x) e = .ok (.nx, e') ∧ I e') (hr : ∀ x ∈ xs, P x = true → ∀ e, I e → ∃ e', turn (f x) e = .ok (.ret d fl, e')) (e : Fram), I e →
    (∃ e', forLoop turn (xs.map f) e = .ok (.nx, e') ∧ I e' ∧ ∀ x ∈ xs, P x = false) ∨ ∃ e', forLoop turn (xs.map f) e = .ok (.ret d fl, e') ∧ ∃ x ∈ xs, P x = true
  | [], _, _, e, he => .inl ⟨e, rfl, he, fun x hx => by cases hx⟩
  | x :: xs, hn, hr, e, he => by
    rw [List.map_cons]
    unfold forLoop
    cases hp : P x with
    | true =>
      obtain ⟨e', k⟩ := hr x (List.mem_cons_self ..) hp e he
      rw [k]
      exact .inr ⟨e', rfl, x, List.mem_cons_self .., hp⟩
    | false =>
      obtain ⟨e', k, ie⟩ := hn x (List.mem_cons_self ..) hp e he
      rw [k]
      rcases forLoop_find (fun y hy => hn y (List.mem_cons_of_mem _ hy)) (fun y hy => hr y (List.mem_cons_of_mem _ hy)) e' ie with ⟨e2, k2, i2, all⟩ | ⟨e2, k2, y, hy, py⟩
      · refine .inl ⟨e2, k2, i2, fun y hy => ?_⟩
        rcases List.mem_cons.mp hy with rfl | hy
        · exact hp
        · exact all y hy
      · exact .inr ⟨e2, k2, y, List.mem_cons_of_mem _ hy, py⟩
section
variable {n : Nat}
theorem nq_small {i : Nat} (h : i ≤ 4) : BS 1 1 (nq i) := BS.whole (by omega)
theorem e_told_apart {N l1 l2 t : Nat} {one two : Pl} (h1 : PolyT N 4 l1 t one) (h2 : PolyT N 4 l2 t two) (ht : t ≤ 50) (hl1 : l1 ≤ 200) (hl2 : l2 ≤ 200) (hN : N ≤ 4) : C (n + 8) "_law_are_told_apart" [.int N, pl one, pl two] = .ok (.bool true, .none) := by
  have L : LINE = 16777216 := rfl
  have f1 := h1.few
  have f2 := h2.few
  have fits : ∀ q ∈ one ++ two, q.1.length = N ∧ (∀ x ∈ q.1, 0 ≤ x) ∧ q.1.sum ≤ 4 := fun q hq => (List.mem_append.mp hq).elim (h1.fit q) (h2.fit q)
  obtain ⟨t0, t4, box⟩ := top_box (d := 0) (l := 0) (t := 0) fits
  obtain ⟨T, hT⟩ := Int.eq_ofNat_of_zero_le t0
  have T4 : T ≤ 4 := by omega
  have boxT : ∀ q ∈ one ++ two, Box T N q.1 := fun q hq => by
    have := box q hq
    rw [hT] at this
    exact this
  have add : binF .add (pl one) (pl two) = some (pl (one ++ two)) := by
    show (if _ then _ else _) = _
    rw [if_pos (by simp; omega)]
    unfold pl
    rw [List.map_append]
  have comp : cRun (C (n + 7)) x1_law_are_told_apart (.tup [.name 4, .name 5]) .nil [4, 5] ((one ++ two).map td) [.val (.int N), .val (pl one), .val (pl two), .non, .non, .non, .non, .non, .non] = .ok (.list (((one ++ two).map fun p => p.1.foldl max 0).map .int), [.val (.int N), .val (pl one), .val (pl two), .non, .non, .non, .non, .non, .non]) := by
    rw [cRun_typed td (fun p => PyData.int (p.1.foldl max 0))]
    case h => rfl
    case hl => rw [List.length_append]; omega
    case hr => rfl
    case ht =>
      intro p hp
      have lp := (fits p hp).1
      have b1 : binF .add (.tuple [.int 0]) (pw p.1) = some (.tuple (.int 0 :: p.1.map .int)) := by
        show (if _ then _ else _) = _
        rw [if_pos (by simp; omega)]
        rfl
      simp -implicitDefEqProofs [cTurn_eq, x1_law_are_told_apart, td, b1, maxl_tup p.1 (by omega)]
    rw [List.map_map]
    rfl
  have cat : binF .add (.list [.int 0]) (.list (((one ++ two).map fun p => p.1.foldl max 0).map .int)) = some (.list (.int 0 :: ((one ++ two).map fun p => p.1.foldl max 0).map .int)) := by
    show (if _ then _ else _) = _
    rw [if_pos (by simp; omega)]
    rfl
  have mx := maxl_list ((one ++ two).map fun p => p.1.foldl max 0)
  rw [show ((one ++ two).map fun p => p.1.foldl max 0).foldl max 0 = (T : Int) from hT] at mx
  have rws := e_rows_of (n := n + 6) (T := T) (N := N) T4 hN
  -- the walk over the grid
  have nums : ∀ r : List Nat, Grid T N r → ∀ a6 a7 : Slot, ∀ e, e = [Slot.val (.int N), .val (pl one), .val (pl two), .val (.int T), .non, .non, .val (rowD r), a7, .non] → cRun (C (n + 7)) x2_law_are_told_apart (.name 8) .nil [8] (r.map fun (i : Nat) => PyData.int i) e = .ok (.list ((r.map nq).map fr), e) := by
    intro r hr a6 a7 e he
    subst he
    rw [cRun_typed (fun (i : Nat) => PyData.int i) (fun i => fr (nq i))]
    case h => rfl
    case hl => rw [hr.1]; omega
    case hr => rfl
    case ht =>
      intro i hi
      simp -implicitDefEqProofs [cTurn_eq, x2_law_are_told_apart, fr_whole]
      rfl
    rw [List.map_map]
    rfl
  have worths : ∀ r : List Nat, Grid T N r → C (n + 7) "worth" [.int N, pl one, .tuple ((r.map nq).map fr)] = .ok (fr (worthP (r.map nq) one), .none) ∧ C (n + 7) "worth" [.int N, pl two, .tuple ((r.map nq).map fr)] = .ok (fr (worthP (r.map nq) two), .none) := fun r hr => by
    have hx : ∀ x ∈ r.map nq, BS 1 1 x := fun x hx => by
      obtain ⟨i, hi, rfl⟩ := List.mem_map.mp hx
      exact nq_small (by have := hr.2 i hi; omega)
    have hl : (r.map nq).length = N := by rw [List.length_map]; exact hr.1
    exact ⟨e_worth (n := n) h1 hx hl hN (by omega) (by omega) (by omega), e_worth (n := n) h2 hx hl hN (by omega) (by omega) (by omega)⟩
  have walk := forLoop_find (turn := fTurn (C (n + 7)) WF false (.name 6) l1_law_are_told_apart) (f := rowD) (P := fun r => !decide (worthP (r.map nq) one = worthP (r.map nq) two)) (d := .bool (!decide (one = two))) (fl := false)
    (I := fun e => ∃ a6 a7, e = [Slot.val (.int N), .val (pl one), .val (pl two), .val (.int T), .non, .non, a6, a7, .non] ∧ sOwn (some a6) = false ∧ sOwn (some a7) = false) (xs := rows T N)
    (by
      rintro r hr hp e ⟨a6, a7, rfl, o6, o7⟩
      have g := mem_rows.mp hr
      obtain ⟨w1, w2⟩ := worths r g
      have eqw : worthP (r.map nq) one = worthP (r.map nq) two := by simpa using hp
      refine ⟨[.val (.int N), .val (pl one), .val (pl two), .val (.int T), .non, .non, .val (rowD r), .val (.tuple ((r.map nq).map fr)), .non], ?_, _, _, rfl, rfl, rfl⟩
      have c := nums r g a6 a7 _ rfl
      have w : walk? (rowD r) = some (r.map fun (i : Nat) => PyData.int i) := rfl
      have ne := ne_frs (worthP (r.map nq) one) (worthP (r.map nq) two)
      rw [decide_eq_true eqw] at ne
      generalize ((r.map nq).map fr : List D) = xs at *
      simp -implicitDefEqProofs [o6, o7, fTurn_eq, l1_law_are_told_apart, w, c, w1, w2, ne])
    (by
      rintro r hr hp e ⟨a6, a7, rfl, o6, o7⟩
      have g := mem_rows.mp hr
      obtain ⟨w1, w2⟩ := worths r g
      have eqw : ¬ worthP (r.map nq) one = worthP (r.map nq) two := by simpa using hp
      have c := nums r g a6 a7 _ rfl
      have w : walk? (rowD r) = some (r.map fun (i : Nat) => PyData.int i) := rfl
      have ne := ne_frs (worthP (r.map nq) one) (worthP (r.map nq) two)
      rw [decide_eq_false eqw] at ne
      generalize ((r.map nq).map fr : List D) = xs at *
      refine ⟨[.val (.int N), .val (pl one), .val (pl two), .val (.int T), .non, .non, .val (rowD r), .val (.tuple xs), .non], ?_⟩
      simp -implicitDefEqProofs [o6, o7, fTurn_eq, l1_law_are_told_apart, w, c, w1, w2, ne, ne_pls])
    [Slot.val (.int N), .val (pl one), .val (pl two), .val (.int T), .non, .non, .non, .non, .non] ⟨.non, .non, rfl, rfl, rfl⟩
  have w0 : walk? (pl (one ++ two)) = some ((one ++ two).map td) := rfl
  have w3 : walk? (.list ((rows T N).map rowD)) = some ((rows T N).map rowD) := rfl
  generalize (((one ++ two).map fun p => p.1.foldl max 0).map PyData.int : List D) = ds at comp cat mx
  rw [g_law_are_told_apart]
  rcases walk with ⟨_, k, ⟨a6, a7, rfl, _, _⟩, all⟩ | ⟨e', k, r, hr, dif⟩
  · have same : one = two := grid_same T4 (fun p hp => boxT p (List.mem_append_left _ hp)) (fun p hp => boxT p (List.mem_append_right _ hp)) h1.srt h2.srt h1.nz h2.nz fun r hr => by
      have := all r (mem_rows.mpr hr)
      exact (by simpa using this : worthP (r.map nq) one = worthP (r.map nq) two)
    have eq := eq_pl one two
    rw [decide_eq_true same] at eq
    simp -implicitDefEqProofs [b_law_are_told_apart, add, w0, comp, cat, mx, rws, w3, k, eq, -List.map_append]
  · have ne : ¬ one = two := fun e => by
      rw [e] at dif
      simp at dif
    rw [decide_eq_false ne] at k
    simp -implicitDefEqProofs [b_law_are_told_apart, add, w0, comp, cat, mx, rws, w3, k, -List.map_append]
end
end PV.K12
set_option Elab.async false
set_option linter.all false
set_option maxRecDepth 100000
set_option maxHeartbeats 4000000
namespace PV.K12
open PySem PV.M
section
variable {n : Nat}
theorem both_true : cmpF .eq (.bool true) (.bool true) = some true := by rw [eq_data (by decide) (by decide)]; rfl
theorem both_false : cmpF .eq (.bool false) (.bool false) = some true := by rw [eq_data (by decide) (by decide)]; rfl
theorem bs_one {t : Nat} : BS t 1 (1 : Rat) := BS.one (by omega)
theorem e_are_right {N d1 d2 l1 l2 : Nat} {one two : Pl} (h1 : PolyT N d1 l1 2 one) (h2 : PolyT N d2 l2 2 two) (hd1 : d1 ≤ 4) (hd2 : d2 ≤ 4) (hl1 : l1 ≤ 4) (hl2 : l2 ≤ 4) (hN : N ≤ 4) : C (n + 9) "_law_are_right" [.int N, pl one, pl two] = .ok (.bool true, .none) := by
  have g1 := h1.up (d' := 4) (l' := 4) (t' := 2) hd1 hl1 (by omega)
  have g2 := h2.up (d' := 4) (l' := 4) (t' := 2) hd2 hl2 (by omega)
  obtain ⟨s1, S1⟩ := e_law_sum (n := n + 4) g1 g2.w (c := 1) bs_one (by omega) (by omega)
  obtain ⟨s2, S2⟩ := e_law_sum (n := n + 4) g1 g2.w (c := -1) bs_one.neg (by omega) (by omega)
  obtain ⟨p1, P1⟩ := e_plus_poly (n := n) g1 g2 (by omega) hN (by omega) (by omega)
  obtain ⟨m1, M1⟩ := e_minus (n := n) g1 g2 (by omega) hN (by omega) (by omega)
  have few : one.length * two.length ≤ 4 * 4 := Nat.mul_le_mul g1.few g2.few
  have r1 := (e_law_product (n := n + 4) g1 g2 (by omega) (by omega) (by omega)).1
  obtain ⟨t1, T1⟩ := e_times_poly (n := n) g1 g2 (by omega) hN (by omega) (by omega) (by omega) (by omega) (by omega)
  rw [tadd_one] at s1 S1
  have sm1 := e_same (n := n + 7) (sh_pls S1 S1 hN (by omega) (by omega) (by omega) (by omega) (by omega) (by omega))
  have sm2 := e_same (n := n + 7) (sh_pls S2 S2 hN (by omega) (by omega) (by omega) (by omega) (by omega) (by omega))
  have sm3 := e_same (n := n + 7) (sh_pls T1 T1 hN (by omega) (by omega) (by omega) (by omega) (by omega) (by omega))
  have n0 := mul_nought g1.fits g2.fits g1.nodup g2.nodup g1.nz g2.nz
  have c0 : cmpF .eq (pl (ord (tmul one two))) (.tuple []) = some (decide (ord (tmul one two) = [])) := eq_pl _ []
  have c1 : cmpF .eq (pl one) (.tuple []) = some (decide (one = [])) := eq_pl _ []
  have c2 : cmpF .eq (pl two) (.tuple []) = some (decide (two = [])) := eq_pl _ []
  rw [fr_one] at s1
  rw [show fr (-1) = .tuple [.int (-1), .int 1] from rfl] at s2
  generalize ord (tmul one two) = both at *
  generalize ord (tadd one two) = total at *
  generalize ord (taddc (-1) one two) = rest at *
  rw [g_law_are_right]
  by_cases e1 : one = []
  · have e0 := n0.mpr (.inl e1)
    rw [decide_eq_true e0] at c0
    rw [decide_eq_true e1] at c1
    simp -implicitDefEqProofs [b_law_are_right, s1, s2, p1, m1, r1, t1, sm1, sm2, sm3, c0, c1, both_true]
  · rw [decide_eq_false e1] at c1
    by_cases e2 : two = []
    · have e0 := n0.mpr (.inr e2)
      rw [decide_eq_true e0] at c0
      rw [decide_eq_true e2] at c2
      simp -implicitDefEqProofs [b_law_are_right, s1, s2, p1, m1, r1, t1, sm1, sm2, sm3, c0, c1, c2, both_true, both_false]
    · have e0 : ¬ both = [] := fun z => (n0.mp z).elim e1 e2
      rw [decide_eq_false e0] at c0
      rw [decide_eq_false e2] at c2
      simp -implicitDefEqProofs [b_law_are_right, s1, s2, p1, m1, r1, t1, sm1, sm2, sm3, c0, c1, c2, both_true, both_false]
theorem PolyT.none {N : Nat} : PolyT N 0 0 2 [] := ⟨(fun p h => by cases h), (fun p h => by cases h), (fun p h => by cases h), Nat.le_refl _, List.Pairwise.nil⟩
theorem sh_two_fr {q : Rat} (h : Sm q) : Sh (.list [fr q, fr q]) := by
  refine sh_bulk ?_ ?_ ?_
  · show M.plains [fr q, fr q] = true
    simp only [M.plains, plain_fr h, Bool.and_true]
  · simp [fr, PyData.depth, PyData.depthAll]
  · simp [fr, PyData.bulk, PyData.bulkAll]
theorem e_right {j : J} (ok : JOk 0 j) : ∃ j', C (n + 10) "_law_right" [jd j] = .ok (.bool true, jd j') := by
  have L : LINE = 16777216 := rfl
  obtain ⟨_, j1, e1, ok1, many, rfl, r0, r1⟩ := e_draw (n := n + 8) (many := 4) ok (by omega) (by omega) (by omega)
  obtain ⟨N, rfl⟩ := Int.eq_ofNat_of_zero_le r0
  have hN : N ≤ 4 := by omega
  obtain ⟨_, j2, e2, ok2, one, rfl, P1⟩ := e_poly (n := n + 5) (N := N) (terms := 4) (deg := 4) ok1 (by omega) hN (by omega) (by omega)
  obtain ⟨_, j3, e3, ok3, two, rfl, P2⟩ := e_poly (n := n + 5) (N := N) (terms := 4) (deg := 3) ok2 (by omega) hN (by omega) (by omega)
  have a1 := e_are_right (n := n) P1 P2 (by omega) (by omega) (by omega) (by omega) hN
  have a2 := e_are_right (n := n) P1 (PolyT.none (N := N)) (by omega) (by omega) (by omega) (by omega) hN
  rw [show pl [] = .tuple [] from rfl] at a2
  have a3 := e_are_right (n := n) P1 P1 (by omega) (by omega) (by omega) (by omega) hN
  -- the worths
  have loop := forLoop_inv (turn := fTurn (C (n + 9)) WF true (.name 4) l1_law_right)
    (fun xs e => ∃ (j' : J) (t4 t5 t6 : Slot), e = [.own (jd j'), .val (.int N), .val (pl one), .val (pl two), t4, t5, t6, .non, .non] ∧ JOk (2000 - 100 * xs.length) j' ∧ xs.length ≤ 3 ∧ sOwn (some t4) = false ∧ sOwn (some t5) = false ∧ sOwn (some t6) = false)
    (by
      rintro x xs e ⟨j', t4, t5, t6, rfl, ok', hn, o4, o5, o6⟩
      simp only [List.length_cons] at hn ok'
      obtain ⟨xs', j4, q1, ok4, hxl, hx⟩ := e_numbers (n := n + 5) (k := N) ok' (by omega) (by omega)
      have hxb : ∀ x ∈ xs', BS 1 1 x := fun x h => (hx x h).b
      have w1 := e_worth (n := n + 2) P1 hxb hxl hN (by omega) (by omega) (by omega)
      have w2 := e_law_worth (n := n + 4) P1 hxb (by omega) (by omega)
      obtain ⟨_, wb⟩ := e_worth_by (n := n) P1 hxb (by omega) (by omega)
      have sm := e_same (n := n + 8) (sh_two_fr (wb.sm (by omega) (by omega)))
      refine ⟨[.own (jd j4), .val (.int N), .val (pl one), .val (pl two), .val x, .val (.tuple (xs'.map fr)), .val (fr (worthP xs' one)), .non, .non], ?_, j4, .val x, .val (.tuple (xs'.map fr)), .val (fr (worthP xs' one)), rfl, ok4.mono (by omega), by omega, rfl, rfl, rfl⟩
      generalize (xs'.map fr : List D) = ys at *
      generalize fr (worthP xs' one) = v at *
      simp -implicitDefEqProofs [o4, o5, o6, fTurn_eq, l1_law_right, q1, w1, w2, sm])
    (xs := rangeD 0 3) (e := [.own (jd j3), .val (.int N), .val (pl one), .val (pl two), .non, .non, .non, .non, .non]) ⟨j3, .non, .non, .non, rfl, ok3.mono (by rw [len_rangeD]; simp), by rw [len_rangeD]; simp, rfl, rfl, rfl⟩
  obtain ⟨_, k1, j4, t4, t5, t6, rfl, ok4, _, o4, o5, o6⟩ := loop
  simp only [List.length_nil] at ok4
  have g1 := P1.up (d' := 4) (l' := 4) (t' := 2) (by omega) (by omega) (by omega)
  have g2 := P2.up (d' := 4) (l' := 4) (t' := 2) (by omega) (by omega) (by omega)
  obtain ⟨p1, Q1⟩ := e_plus_poly (n := n + 1) g1 g2 (by omega) hN (by omega) (by omega)
  obtain ⟨m1, M1⟩ := e_minus (n := n + 1) Q1 (g2.up (d' := 4) (l' := 4) (t' := 3) (by omega) (by omega) (by omega)) (by omega) hN (by omega) (by omega)
  obtain ⟨_, j5, e5, ok5, ns, rfl, b1, b2, b3⟩ := e_powers (n := n + 7) (many := N) (most := 3) ok4 (by omega) (by omega) (by omega) (by omega) (by omega)
  obtain ⟨_, j6, e6, ok6, v, rfl, hv⟩ := e_number (n := n + 6) ok5 (by omega)
  have W : PolyW N 4 1 2 [(ns, v)] := by
    refine ⟨fun p hp => ?_, fun p hp => ?_, by simp⟩
    · rw [List.mem_singleton.mp hp]
      exact ⟨by show ns.length = N; omega, b2, by show ns.sum ≤ _; omega⟩
    · rw [List.mem_singleton.mp hp]
      exact hv.b.to (by omega)
  obtain ⟨s1, S1⟩ := e_law_sum (n := n + 5) g1 W (c := 1) bs_one (by omega) (by omega)
  rw [fr_one] at s1
  have s1' : C (n + 9) "_law_sum" [pl one, .tuple [.tuple [pw ns, fr v]], .tuple [.int 1, .int 1]] = .ok (pl (ord (taddc 1 one [(ns, v)])), .none) := s1
  have z1 := e_told_apart (n := n + 1) (g1.up (d' := 4) (l' := 4) (t' := 4) (by omega) (by omega) (by omega)) M1 (by omega) (by omega) (by omega) hN
  have z2 := e_told_apart (n := n + 1) (g1.up (d' := 4) (l' := 4) (t' := 3) (by omega) (by omega) (by omega)) S1 (by omega) (by omega) (by omega) hN
  refine ⟨j6, ?_⟩
  have e2' : C (n + 9) "_law_poly" [jd j1, .int N, .int 4, .int 4] = .ok (pl one, jd j2) := e2
  have e3' : C (n + 9) "_law_poly" [jd j2, .int N, .int 4, .int 3] = .ok (pl two, jd j3) := e3
  generalize ord (taddc (-1) (ord (tadd one two)) two) = less at *
  generalize ord (taddc 1 one [(ns, v)]) = near at *
  generalize ord (tadd one two) = total at *
  rw [g_law_right]
  simp -implicitDefEqProofs [b_law_right, e1, e2', e3', a1, a2, a3, rng1_int (j := 3) (by omega) (by show _ ≤ (16777216 : Int); omega), k1, o4, o5, o6, p1, m1, e5, e6, s1', z1, z2]
theorem e_law {ns : List Int} (hl : ns.length ≤ 63) : C (n + 11) "law" [.list (ns.map .int)] = .ok (.bool true, .none) := by
  rw [g_law]
  have hR : ∃ R : Int, bltF .max2 [.int 2, .int (if (5 : Int) < ns.length then 5 else ns.length)] = some (.int R) ∧ 2 ≤ R ∧ R ≤ 5 := by
    refine ⟨_, blt_max_int, ?_, ?_⟩ <;> split <;> split <;> omega
  obtain ⟨R, hR, h2, h6⟩ := hR
  simp [b_law, hR, -blt_max_int, rng1_int (j := R) (by omega) (by show _ ≤ (16777216 : Int); omega)]
  rw [cRun_map1 (fun _ => PyData.bool true)]
  case h => rfl
  case hl => rw [len_rangeD]; show _ ≤ 16777216; omega
  case hr => rfl
  case ht =>
    intro x hx
    obtain ⟨k, rfl, k0, k1⟩ := mem_rangeD hx
    obtain ⟨j, e1, ok⟩ := e_jar (n := n + 9) (ns := ns) (turn := k) k0 (by omega)
    obtain ⟨j', e2⟩ := e_right (n := n) ok
    simp [cTurn_eq, x1_law, e1, e2]
  have hall : bltF .all [.list ((rangeD 0 R).map fun _ => PyData.bool true)] = some (.bool true) := by
    rw [blt_all_map (f := fun _ => true)]
    simp [allB]
  simp [hall]
end
end PV.K12
set_option Elab.async false
set_option linter.all false
set_option maxRecDepth 100000
set_option maxHeartbeats 0
/-! PV: the text of k12. -/
namespace PV.K12
open PySem PySem.W PySem.Calls PyProof.Rows
abbrev R : OpenRow := OpenLaw.row PySem.Challenge.rw_hiddenrates_k12_whole_sums_products_and
def top (i : Nat) : Stmt := PySem.Challenge.pw_hiddenrates_k12_whole_sums_products_and.main.body.getD i (.Pass ⟨0, 0, 0, 0⟩)
def r_is_whole : Row := ⟨"is_whole", "is_whole", f_is_whole, top 9⟩
def r_is_between : Row := ⟨"is_between", "is_between", f_is_between, top 10⟩
def r_is_ratio : Row := ⟨"is_ratio", "is_ratio", f_is_ratio, top 11⟩
def r_ratio : Row := ⟨"ratio", "ratio", f_ratio, top 12⟩
def r_plus_ratios : Row := ⟨"plus_ratios", "plus", f_plus_ratios, top 13⟩
def r_opposite : Row := ⟨"opposite", "opposite", f_opposite, top 15⟩
def r_times_ratios : Row := ⟨"times_ratios", "times", f_times_ratios, top 16⟩
def r_rank_of : Row := ⟨"rank_of", "rank_of", f_rank_of, top 23⟩
def r_is_term : Row := ⟨"is_term", "is_term", f_is_term, top 24⟩
def r_is_polynomial_by : Row := ⟨"is_polynomial_by", "is_polynomial_by", f_is_polynomial_by, top 25⟩
def r_beyond_in : Row := ⟨"beyond_in", "beyond_in", f_beyond_in, top 26⟩
def r_ordered : Row := ⟨"ordered", "ordered", f_ordered, top 27⟩
def r_plus_by : Row := ⟨"plus_by", "plus_by", f_plus_by, top 28⟩
def r_opposite_by : Row := ⟨"opposite_by", "opposite_by", f_opposite_by, top 29⟩
def r_minus_by : Row := ⟨"minus_by", "minus_by", f_minus_by, top 30⟩
def r_times_by : Row := ⟨"times_by", "times_by", f_times_by, top 31⟩
def r_worth_by : Row := ⟨"worth_by", "worth_by", f_worth_by, top 32⟩
def r_check_many : Row := ⟨"check_many", "check_many", f_check_many, top 34⟩
def r_check_polynomial : Row := ⟨"check_polynomial", "check_polynomial", f_check_polynomial, top 35⟩
def r_check_one : Row := ⟨"check_one", "check_one", f_check_one, top 36⟩
def r_check_two : Row := ⟨"check_two", "check_two", f_check_two, top 37⟩
def r_check_point : Row := ⟨"check_point", "check_point", f_check_point, top 38⟩
def r_kept_small : Row := ⟨"kept_small", "kept_small", f_kept_small, top 39⟩
def r_plus_polynomials : Row := ⟨"plus_polynomials", "plus", f_plus_polynomials, top 40⟩
def r_minus : Row := ⟨"minus", "minus", f_minus, top 42⟩
def r_times_polynomials : Row := ⟨"times_polynomials", "times", f_times_polynomials, top 43⟩
def r_worth : Row := ⟨"worth", "worth", f_worth, top 45⟩
def r_law_draw : Row := ⟨"_law_draw", "_law_draw", f_law_draw, top 47⟩
def r_law_of : Row := ⟨"_law_of", "_law_of", f_law_of, top 48⟩
def r_law_same : Row := ⟨"_law_same", "_law_same", f_law_same, top 49⟩
def r_law_jar : Row := ⟨"_law_jar", "_law_jar", f_law_jar, top 50⟩
def r_law_common : Row := ⟨"_law_common", "_law_common", f_law_common, top 51⟩
def r_law_frac : Row := ⟨"_law_frac", "_law_frac", f_law_frac, top 52⟩
def r_law_add : Row := ⟨"_law_add", "_law_add", f_law_add, top 53⟩
def r_law_mul : Row := ⟨"_law_mul", "_law_mul", f_law_mul, top 54⟩
def r_law_number : Row := ⟨"_law_number", "_law_number", f_law_number, top 55⟩
def r_law_powers : Row := ⟨"_law_powers", "_law_powers", f_law_powers, top 56⟩
def r_law_keyed : Row := ⟨"_law_keyed", "_law_keyed", f_law_keyed, top 57⟩
def r_law_told_of : Row := ⟨"_law_told_of", "_law_told_of", f_law_told_of, top 58⟩
def r_law_sum : Row := ⟨"_law_sum", "_law_sum", f_law_sum, top 59⟩
def r_law_product : Row := ⟨"_law_product", "_law_product", f_law_product, top 60⟩
def r_law_raised : Row := ⟨"_law_raised", "_law_raised", f_law_raised, top 61⟩
def r_law_worth : Row := ⟨"_law_worth", "_law_worth", f_law_worth, top 62⟩
def r_law_poly : Row := ⟨"_law_poly", "_law_poly", f_law_poly, top 63⟩
def r_law_numbers : Row := ⟨"_law_numbers", "_law_numbers", f_law_numbers, top 64⟩
def r_law_rows_of : Row := ⟨"_law_rows_of", "_law_rows_of", f_law_rows_of, top 65⟩
def r_law_are_right : Row := ⟨"_law_are_right", "_law_are_right", f_law_are_right, top 66⟩
def r_law_are_told_apart : Row := ⟨"_law_are_told_apart", "_law_are_told_apart", f_law_are_told_apart, top 67⟩
def r_law_right : Row := ⟨"_law_right", "_law_right", f_law_right, top 68⟩
def r_law : Row := ⟨"law", "law", f_law, top 69⟩
def tx : Tx where
  rows := [r_is_whole, r_is_between, r_is_ratio, r_ratio, r_plus_ratios, r_opposite, r_times_ratios, r_rank_of, r_is_term, r_is_polynomial_by, r_beyond_in, r_ordered, r_plus_by, r_opposite_by, r_minus_by, r_times_by, r_worth_by, r_check_many, r_check_polynomial, r_check_one, r_check_two, r_check_point, r_kept_small, r_plus_polynomials, r_minus, r_times_polynomials, r_worth, r_law_draw, r_law_of, r_law_same, r_law_jar, r_law_common, r_law_frac, r_law_add, r_law_mul, r_law_number, r_law_powers, r_law_keyed, r_law_told_of, r_law_sum, r_law_product, r_law_raised, r_law_worth, r_law_poly, r_law_numbers, r_law_rows_of, r_law_are_right, r_law_are_told_apart, r_law_right, r_law]
  con := [("ZERO", (.tuple [(.int 0), (.int 1)])), ("MOST_UNKNOWNS", (.int 4)), ("MOST_DEGREE", (.int 40)), ("MOST_TERMS", (.int 600)), ("NOUGHT", (.tuple []))]
  blt := ["len", "abs", "max", "min", "int", "repr", "all", "sum", "divmod", "tuple", "range", "zip", "enumerate", "isinstance", "bool", "dict", "sorted"]
  gcd := true
  kw := [("plus_polynomials", 0, ["two", "one", "many"], [2, 1, 0]), ("minus", 0, ["two", "one", "many"], [2, 1, 0]), ("times_polynomials", 0, ["two", "one", "many"], [2, 1, 0]), ("worth", 0, ["assignment", "one", "many"], [2, 1, 0])]
theorem c_is_whole : rowC tx r_is_whole = true := by kernel_rfl
theorem c_is_between : rowC tx r_is_between = true := by kernel_rfl
theorem c_is_ratio : rowC tx r_is_ratio = true := by kernel_rfl
theorem c_ratio : rowC tx r_ratio = true := by kernel_rfl
theorem c_plus_ratios : rowC tx r_plus_ratios = true := by kernel_rfl
theorem c_opposite : rowC tx r_opposite = true := by kernel_rfl
theorem c_times_ratios : rowC tx r_times_ratios = true := by kernel_rfl
theorem c_rank_of : rowC tx r_rank_of = true := by kernel_rfl
theorem c_is_term : rowC tx r_is_term = true := by kernel_rfl
theorem c_is_polynomial_by : rowC tx r_is_polynomial_by = true := by kernel_rfl
theorem c_beyond_in : rowC tx r_beyond_in = true := by kernel_rfl
theorem c_ordered : rowC tx r_ordered = true := by kernel_rfl
theorem c_plus_by : rowC tx r_plus_by = true := by kernel_rfl
theorem c_opposite_by : rowC tx r_opposite_by = true := by kernel_rfl
theorem c_minus_by : rowC tx r_minus_by = true := by kernel_rfl
theorem c_times_by : rowC tx r_times_by = true := by kernel_rfl
theorem c_worth_by : rowC tx r_worth_by = true := by kernel_rfl
theorem c_check_many : rowC tx r_check_many = true := by kernel_rfl
theorem c_check_polynomial : rowC tx r_check_polynomial = true := by kernel_rfl
theorem c_check_one : rowC tx r_check_one = true := by kernel_rfl
theorem c_check_two : rowC tx r_check_two = true := by kernel_rfl
theorem c_check_point : rowC tx r_check_point = true := by kernel_rfl
theorem c_kept_small : rowC tx r_kept_small = true := by kernel_rfl
theorem c_plus_polynomials : rowC tx r_plus_polynomials = true := by kernel_rfl
theorem c_minus : rowC tx r_minus = true := by kernel_rfl
theorem c_times_polynomials : rowC tx r_times_polynomials = true := by kernel_rfl
theorem c_worth : rowC tx r_worth = true := by kernel_rfl
theorem c_law_draw : rowC tx r_law_draw = true := by kernel_rfl
theorem c_law_of : rowC tx r_law_of = true := by kernel_rfl
theorem c_law_same : rowC tx r_law_same = true := by kernel_rfl
theorem c_law_jar : rowC tx r_law_jar = true := by kernel_rfl
theorem c_law_common : rowC tx r_law_common = true := by kernel_rfl
theorem c_law_frac : rowC tx r_law_frac = true := by kernel_rfl
theorem c_law_add : rowC tx r_law_add = true := by kernel_rfl
theorem c_law_mul : rowC tx r_law_mul = true := by kernel_rfl
theorem c_law_number : rowC tx r_law_number = true := by kernel_rfl
theorem c_law_powers : rowC tx r_law_powers = true := by kernel_rfl
theorem c_law_keyed : rowC tx r_law_keyed = true := by kernel_rfl
theorem c_law_told_of : rowC tx r_law_told_of = true := by kernel_rfl
theorem c_law_sum : rowC tx r_law_sum = true := by kernel_rfl
theorem c_law_product : rowC tx r_law_product = true := by kernel_rfl
theorem c_law_raised : rowC tx r_law_raised = true := by kernel_rfl
theorem c_law_worth : rowC tx r_law_worth = true := by kernel_rfl
theorem c_law_poly : rowC tx r_law_poly = true := by kernel_rfl
theorem c_law_numbers : rowC tx r_law_numbers = true := by kernel_rfl
theorem c_law_rows_of : rowC tx r_law_rows_of = true := by kernel_rfl
theorem c_law_are_right : rowC tx r_law_are_right = true := by kernel_rfl
theorem c_law_are_told_apart : rowC tx r_law_are_told_apart = true := by kernel_rfl
theorem c_law_right : rowC tx r_law_right = true := by kernel_rfl
theorem c_law : rowC tx r_law = true := by kernel_rfl
end PV.K12
set_option Elab.async false
set_option linter.all false
set_option maxRecDepth 100000
set_option maxHeartbeats 0
namespace PV.K12
open PySem PySem.W PySem.Calls PyProof.Rows
abbrev qv : Program := view R.prog [0, 69]
def loose : List PySem.Str := [PySem.Str.ofString "RateError", PySem.Str.ofString "InvalidNumber", PySem.Str.ofString "InvalidPolynomial", PySem.Str.ofString "TooMany", PySem.Str.ofString "InvalidAssignment", PySem.Str.ofString "ZERO", PySem.Str.ofString "is_whole", PySem.Str.ofString "is_between", PySem.Str.ofString "is_ratio", PySem.Str.ofString "ratio", PySem.Str.ofString "plus", PySem.Str.ofString "plus_ratios", PySem.Str.ofString "opposite", PySem.Str.ofString "times", PySem.Str.ofString "times_ratios", PySem.Str.ofString "MOST_UNKNOWNS", PySem.Str.ofString "MOST_DEGREE", PySem.Str.ofString "MOST_TERMS", PySem.Str.ofString "NOUGHT", PySem.Str.ofString "rank_of", PySem.Str.ofString "is_term", PySem.Str.ofString "is_polynomial_by", PySem.Str.ofString "beyond_in", PySem.Str.ofString "ordered", PySem.Str.ofString "plus_by", PySem.Str.ofString "opposite_by", PySem.Str.ofString "minus_by", PySem.Str.ofString "times_by", PySem.Str.ofString "worth_by", PySem.Str.ofString "check_many", PySem.Str.ofString "check_polynomial", PySem.Str.ofString "check_one", PySem.Str.ofString "check_two", PySem.Str.ofString "check_point", PySem.Str.ofString "kept_small", PySem.Str.ofString "plus_polynomials", PySem.Str.ofString "minus", PySem.Str.ofString "times_polynomials", PySem.Str.ofString "worth", PySem.Str.ofString "_law_draw", PySem.Str.ofString "_law_of", PySem.Str.ofString "_law_same", PySem.Str.ofString "_law_jar", PySem.Str.ofString "_law_common", PySem.Str.ofString "_law_frac", PySem.Str.ofString "_law_add", PySem.Str.ofString "_law_mul", PySem.Str.ofString "_law_number", PySem.Str.ofString "_law_powers", PySem.Str.ofString "_law_keyed", PySem.Str.ofString "_law_told_of", PySem.Str.ofString "_law_sum", PySem.Str.ofString "_law_product", PySem.Str.ofString "_law_raised", PySem.Str.ofString "_law_worth", PySem.Str.ofString "_law_poly", PySem.Str.ofString "_law_numbers", PySem.Str.ofString "_law_rows_of", PySem.Str.ofString "_law_are_right", PySem.Str.ofString "_law_are_told_apart", PySem.Str.ofString "_law_right"]
def ob (s : PySem.W.SharedT) : He.AlD := tx.obsG 4 (HandSHeadRun.getT s)
theorem ob_eq (s : PySem.W.SharedT) : ob s = (tx.hook 4).obs s.abs := Tx.obsG_eq (HandSHeadRun.getT_eq s)
theorem run (w : World) : HandSHeadRun.RunEqI R qv (tx.hook 4) ob 20000 loose w := by
  unfold HandSHeadRun.RunEqI
  kernel_rfl
end PV.K12
set_option Elab.async false
set_option linter.all false
set_option maxRecDepth 100000
set_option maxHeartbeats 0
namespace PV.K12
open PySem PySem.W PySem.Calls PyProof.Rows
theorem all_nil {A : Type} {P : A → Prop} : ∀ r ∈ ([] : List A), P r := fun _ h => by cases h
theorem all_cons {A : Type} {P : A → Prop} {x : A} {l : List A} (h : P x) (t : ∀ r ∈ l, P r) : ∀ r ∈ x :: l, P r := fun r hr => by
  rcases List.mem_cons.mp hr with rfl | hr
  · exact h
  · exact t r hr
theorem kw_one {q : Str × Nat × List Str × List Nat} {r0 : Row} : ∀ {l : List Row}, (l.map (·.x)).Nodup → r0 ∈ l → r0.x = q.1 → KwOk r0 q → ∀ r ∈ l, r.x = q.1 → KwOk r q
  | [], _, h, _, _, _, _, _ => by cases h
  | x :: l, hn, h, e, ok, r, hr, er => by
    rw [List.map_cons, List.nodup_cons] at hn
    rcases List.mem_cons.mp h with h1 | h1
    · subst h1
      rcases List.mem_cons.mp hr with h2 | h2
      · subst h2
        exact ok
      · exact absurd (List.mem_map.mpr ⟨r, h2, er.trans e.symm⟩) hn.1
    · rcases List.mem_cons.mp hr with h2 | h2
      · subst h2
        exact absurd (List.mem_map.mpr ⟨r0, h1, e.trans er.symm⟩) hn.1
      · exact kw_one hn.2 h1 e ok r h2 er
theorem bd_r_is_whole : BindOk r_is_whole := fun _ _ _ _ _ _ us hl => match us, hl with | [_], _ => rfl
theorem bd_r_is_between : BindOk r_is_between := fun _ _ _ _ _ _ us hl => match us, hl with | [_, _, _], _ => rfl
theorem bd_r_is_ratio : BindOk r_is_ratio := fun _ _ _ _ _ _ us hl => match us, hl with | [_], _ => rfl
theorem bd_r_ratio : BindOk r_ratio := fun _ _ _ _ _ _ us hl => match us, hl with | [_, _], _ => rfl
theorem bd_r_plus_ratios : BindOk r_plus_ratios := fun _ _ _ _ _ _ us hl => match us, hl with | [_, _], _ => rfl
theorem bd_r_opposite : BindOk r_opposite := fun _ _ _ _ _ _ us hl => match us, hl with | [_], _ => rfl
theorem bd_r_times_ratios : BindOk r_times_ratios := fun _ _ _ _ _ _ us hl => match us, hl with | [_, _], _ => rfl
theorem bd_r_rank_of : BindOk r_rank_of := fun _ _ _ _ _ _ us hl => match us, hl with | [_], _ => rfl
theorem bd_r_is_term : BindOk r_is_term := fun _ _ _ _ _ _ us hl => match us, hl with | [_, _], _ => rfl
theorem bd_r_is_polynomial_by : BindOk r_is_polynomial_by := fun _ _ _ _ _ _ us hl => match us, hl with | [_, _], _ => rfl
theorem bd_r_beyond_in : BindOk r_beyond_in := fun _ _ _ _ _ _ us hl => match us, hl with | [_], _ => rfl
theorem bd_r_ordered : BindOk r_ordered := fun _ _ _ _ _ _ us hl => match us, hl with | [_], _ => rfl
theorem bd_r_plus_by : BindOk r_plus_by := fun _ _ _ _ _ _ us hl => match us, hl with | [_, _], _ => rfl
theorem bd_r_opposite_by : BindOk r_opposite_by := fun _ _ _ _ _ _ us hl => match us, hl with | [_], _ => rfl
theorem bd_r_minus_by : BindOk r_minus_by := fun _ _ _ _ _ _ us hl => match us, hl with | [_, _], _ => rfl
theorem bd_r_times_by : BindOk r_times_by := fun _ _ _ _ _ _ us hl => match us, hl with | [_, _], _ => rfl
theorem bd_r_worth_by : BindOk r_worth_by := fun _ _ _ _ _ _ us hl => match us, hl with | [_, _], _ => rfl
theorem bd_r_check_many : BindOk r_check_many := fun _ _ _ _ _ _ us hl => match us, hl with | [_], _ => rfl
theorem bd_r_check_polynomial : BindOk r_check_polynomial := fun _ _ _ _ _ _ us hl => match us, hl with | [_, _], _ => rfl
theorem bd_r_check_one : BindOk r_check_one := fun _ _ _ _ _ _ us hl => match us, hl with | [_, _], _ => rfl
theorem bd_r_check_two : BindOk r_check_two := fun _ _ _ _ _ _ us hl => match us, hl with | [_, _, _], _ => rfl
theorem bd_r_check_point : BindOk r_check_point := fun _ _ _ _ _ _ us hl => match us, hl with | [_, _], _ => rfl
theorem bd_r_kept_small : BindOk r_kept_small := fun _ _ _ _ _ _ us hl => match us, hl with | [_], _ => rfl
theorem bd_r_plus_polynomials : BindOk r_plus_polynomials := fun _ _ _ _ _ _ us hl => match us, hl with | [_, _, _], _ => rfl
theorem bd_r_minus : BindOk r_minus := fun _ _ _ _ _ _ us hl => match us, hl with | [_, _, _], _ => rfl
theorem bd_r_times_polynomials : BindOk r_times_polynomials := fun _ _ _ _ _ _ us hl => match us, hl with | [_, _, _], _ => rfl
theorem bd_r_worth : BindOk r_worth := fun _ _ _ _ _ _ us hl => match us, hl with | [_, _, _], _ => rfl
theorem bd_r_law_draw : BindOk r_law_draw := fun _ _ _ _ _ _ us hl => match us, hl with | [_, _], _ => rfl
theorem bd_r_law_of : BindOk r_law_of := fun _ _ _ _ _ _ us hl => match us, hl with | [_, _], _ => rfl
theorem bd_r_law_same : BindOk r_law_same := fun _ _ _ _ _ _ us hl => match us, hl with | [_, _], _ => rfl
theorem bd_r_law_jar : BindOk r_law_jar := fun _ _ _ _ _ _ us hl => match us, hl with | [_, _], _ => rfl
theorem bd_r_law_common : BindOk r_law_common := fun _ _ _ _ _ _ us hl => match us, hl with | [_, _], _ => rfl
theorem bd_r_law_frac : BindOk r_law_frac := fun _ _ _ _ _ _ us hl => match us, hl with | [_, _], _ => rfl
theorem bd_r_law_add : BindOk r_law_add := fun _ _ _ _ _ _ us hl => match us, hl with | [_, _], _ => rfl
theorem bd_r_law_mul : BindOk r_law_mul := fun _ _ _ _ _ _ us hl => match us, hl with | [_, _], _ => rfl
theorem bd_r_law_number : BindOk r_law_number := fun _ _ _ _ _ _ us hl => match us, hl with | [_], _ => rfl
theorem bd_r_law_powers : BindOk r_law_powers := fun _ _ _ _ _ _ us hl => match us, hl with | [_, _, _], _ => rfl
theorem bd_r_law_keyed : BindOk r_law_keyed := fun _ _ _ _ _ _ us hl => match us, hl with | [_], _ => rfl
theorem bd_r_law_told_of : BindOk r_law_told_of := fun _ _ _ _ _ _ us hl => match us, hl with | [_], _ => rfl
theorem bd_r_law_sum : BindOk r_law_sum := fun _ _ _ _ _ _ us hl => match us, hl with | [_, _, _], _ => rfl
theorem bd_r_law_product : BindOk r_law_product := fun _ _ _ _ _ _ us hl => match us, hl with | [_, _], _ => rfl
theorem bd_r_law_raised : BindOk r_law_raised := fun _ _ _ _ _ _ us hl => match us, hl with | [_, _], _ => rfl
theorem bd_r_law_worth : BindOk r_law_worth := fun _ _ _ _ _ _ us hl => match us, hl with | [_, _], _ => rfl
theorem bd_r_law_poly : BindOk r_law_poly := fun _ _ _ _ _ _ us hl => match us, hl with | [_, _, _, _], _ => rfl
theorem bd_r_law_numbers : BindOk r_law_numbers := fun _ _ _ _ _ _ us hl => match us, hl with | [_, _], _ => rfl
theorem bd_r_law_rows_of : BindOk r_law_rows_of := fun _ _ _ _ _ _ us hl => match us, hl with | [_, _], _ => rfl
theorem bd_r_law_are_right : BindOk r_law_are_right := fun _ _ _ _ _ _ us hl => match us, hl with | [_, _, _], _ => rfl
theorem bd_r_law_are_told_apart : BindOk r_law_are_told_apart := fun _ _ _ _ _ _ us hl => match us, hl with | [_, _, _], _ => rfl
theorem bd_r_law_right : BindOk r_law_right := fun _ _ _ _ _ _ us hl => match us, hl with | [_], _ => rfl
theorem bd_r_law : BindOk r_law := fun _ _ _ _ _ _ us hl => match us, hl with | [_], _ => rfl
theorem rows_ok : ∀ r ∈ tx.rows, rowC tx r = true := (all_cons c_is_whole (all_cons c_is_between (all_cons c_is_ratio (all_cons c_ratio (all_cons c_plus_ratios (all_cons c_opposite (all_cons c_times_ratios (all_cons c_rank_of (all_cons c_is_term (all_cons c_is_polynomial_by (all_cons c_beyond_in (all_cons c_ordered (all_cons c_plus_by (all_cons c_opposite_by (all_cons c_minus_by (all_cons c_times_by (all_cons c_worth_by (all_cons c_check_many (all_cons c_check_polynomial (all_cons c_check_one (all_cons c_check_two (all_cons c_check_point (all_cons c_kept_small (all_cons c_plus_polynomials (all_cons c_minus (all_cons c_times_polynomials (all_cons c_worth (all_cons c_law_draw (all_cons c_law_of (all_cons c_law_same (all_cons c_law_jar (all_cons c_law_common (all_cons c_law_frac (all_cons c_law_add (all_cons c_law_mul (all_cons c_law_number (all_cons c_law_powers (all_cons c_law_keyed (all_cons c_law_told_of (all_cons c_law_sum (all_cons c_law_product (all_cons c_law_raised (all_cons c_law_worth (all_cons c_law_poly (all_cons c_law_numbers (all_cons c_law_rows_of (all_cons c_law_are_right (all_cons c_law_are_told_apart (all_cons c_law_right (all_cons c_law all_nil))))))))))))))))))))))))))))))))))))))))))))))))))
theorem bind_ok : ∀ r ∈ tx.rows, BindOk r := (all_cons bd_r_is_whole (all_cons bd_r_is_between (all_cons bd_r_is_ratio (all_cons bd_r_ratio (all_cons bd_r_plus_ratios (all_cons bd_r_opposite (all_cons bd_r_times_ratios (all_cons bd_r_rank_of (all_cons bd_r_is_term (all_cons bd_r_is_polynomial_by (all_cons bd_r_beyond_in (all_cons bd_r_ordered (all_cons bd_r_plus_by (all_cons bd_r_opposite_by (all_cons bd_r_minus_by (all_cons bd_r_times_by (all_cons bd_r_worth_by (all_cons bd_r_check_many (all_cons bd_r_check_polynomial (all_cons bd_r_check_one (all_cons bd_r_check_two (all_cons bd_r_check_point (all_cons bd_r_kept_small (all_cons bd_r_plus_polynomials (all_cons bd_r_minus (all_cons bd_r_times_polynomials (all_cons bd_r_worth (all_cons bd_r_law_draw (all_cons bd_r_law_of (all_cons bd_r_law_same (all_cons bd_r_law_jar (all_cons bd_r_law_common (all_cons bd_r_law_frac (all_cons bd_r_law_add (all_cons bd_r_law_mul (all_cons bd_r_law_number (all_cons bd_r_law_powers (all_cons bd_r_law_keyed (all_cons bd_r_law_told_of (all_cons bd_r_law_sum (all_cons bd_r_law_product (all_cons bd_r_law_raised (all_cons bd_r_law_worth (all_cons bd_r_law_poly (all_cons bd_r_law_numbers (all_cons bd_r_law_rows_of (all_cons bd_r_law_are_right (all_cons bd_r_law_are_told_apart (all_cons bd_r_law_right (all_cons bd_r_law all_nil))))))))))))))))))))))))))))))))))))))))))))))))))
theorem names_ok : (tx.rows.map (·.x)).Nodup := by decide +kernel
theorem kws_ok : ∀ q ∈ tx.kw, ∀ r ∈ tx.rows, r.x = q.1 → KwOk r q := (all_cons (kw_one names_ok (List.mem_cons_of_mem _ (List.mem_cons_of_mem _ (List.mem_cons_of_mem _ (List.mem_cons_of_mem _ (List.mem_cons_of_mem _ (List.mem_cons_of_mem _ (List.mem_cons_of_mem _ (List.mem_cons_of_mem _ (List.mem_cons_of_mem _ (List.mem_cons_of_mem _ (List.mem_cons_of_mem _ (List.mem_cons_of_mem _ (List.mem_cons_of_mem _ (List.mem_cons_of_mem _ (List.mem_cons_of_mem _ (List.mem_cons_of_mem _ (List.mem_cons_of_mem _ (List.mem_cons_of_mem _ (List.mem_cons_of_mem _ (List.mem_cons_of_mem _ (List.mem_cons_of_mem _ (List.mem_cons_of_mem _ (List.mem_cons_of_mem _ (List.mem_cons_self ..)))))))))))))))))))))))) rfl fun _ _ _ _ _ _ us ws h1 h2 => match us, ws, h1, h2 with | [], [_, _, _], _, _ => rfl) (all_cons (kw_one names_ok (List.mem_cons_of_mem _ (List.mem_cons_of_mem _ (List.mem_cons_of_mem _ (List.mem_cons_of_mem _ (List.mem_cons_of_mem _ (List.mem_cons_of_mem _ (List.mem_cons_of_mem _ (List.mem_cons_of_mem _ (List.mem_cons_of_mem _ (List.mem_cons_of_mem _ (List.mem_cons_of_mem _ (List.mem_cons_of_mem _ (List.mem_cons_of_mem _ (List.mem_cons_of_mem _ (List.mem_cons_of_mem _ (List.mem_cons_of_mem _ (List.mem_cons_of_mem _ (List.mem_cons_of_mem _ (List.mem_cons_of_mem _ (List.mem_cons_of_mem _ (List.mem_cons_of_mem _ (List.mem_cons_of_mem _ (List.mem_cons_of_mem _ (List.mem_cons_of_mem _ (List.mem_cons_self ..))))))))))))))))))))))))) rfl fun _ _ _ _ _ _ us ws h1 h2 => match us, ws, h1, h2 with | [], [_, _, _], _, _ => rfl) (all_cons (kw_one names_ok (List.mem_cons_of_mem _ (List.mem_cons_of_mem _ (List.mem_cons_of_mem _ (List.mem_cons_of_mem _ (List.mem_cons_of_mem _ (List.mem_cons_of_mem _ (List.mem_cons_of_mem _ (List.mem_cons_of_mem _ (List.mem_cons_of_mem _ (List.mem_cons_of_mem _ (List.mem_cons_of_mem _ (List.mem_cons_of_mem _ (List.mem_cons_of_mem _ (List.mem_cons_of_mem _ (List.mem_cons_of_mem _ (List.mem_cons_of_mem _ (List.mem_cons_of_mem _ (List.mem_cons_of_mem _ (List.mem_cons_of_mem _ (List.mem_cons_of_mem _ (List.mem_cons_of_mem _ (List.mem_cons_of_mem _ (List.mem_cons_of_mem _ (List.mem_cons_of_mem _ (List.mem_cons_of_mem _ (List.mem_cons_self ..)))))))))))))))))))))))))) rfl fun _ _ _ _ _ _ us ws h1 h2 => match us, ws, h1, h2 with | [], [_, _, _], _, _ => rfl) (all_cons (kw_one names_ok (List.mem_cons_of_mem _ (List.mem_cons_of_mem _ (List.mem_cons_of_mem _ (List.mem_cons_of_mem _ (List.mem_cons_of_mem _ (List.mem_cons_of_mem _ (List.mem_cons_of_mem _ (List.mem_cons_of_mem _ (List.mem_cons_of_mem _ (List.mem_cons_of_mem _ (List.mem_cons_of_mem _ (List.mem_cons_of_mem _ (List.mem_cons_of_mem _ (List.mem_cons_of_mem _ (List.mem_cons_of_mem _ (List.mem_cons_of_mem _ (List.mem_cons_of_mem _ (List.mem_cons_of_mem _ (List.mem_cons_of_mem _ (List.mem_cons_of_mem _ (List.mem_cons_of_mem _ (List.mem_cons_of_mem _ (List.mem_cons_of_mem _ (List.mem_cons_of_mem _ (List.mem_cons_of_mem _ (List.mem_cons_of_mem _ (List.mem_cons_self ..))))))))))))))))))))))))))) rfl fun _ _ _ _ _ _ us ws h1 h2 => match us, ws, h1, h2 with | [], [_, _, _], _, _ => rfl) all_nil))))
theorem x1 : tx.defs = defs := rfl
theorem x2 : r_law.fn.name = ("law" : Str) := rfl
theorem x3 (ns : List Int) (h : ns.length ≤ 63) : callN defs PV.M.WF 11 "law" [.list (ns.map .int)] = .ok (.bool true, .none) := e_law (n := 0) h
theorem x4 {tb : List Def} {f : Str} {n : Nat} {a : List D} {r : Res (D × D)} (h1 : tb = defs) (h2 : f = ("law" : Str)) (h : callN defs PV.M.WF n "law" a = r) : callN tb PV.M.WF n f a = r := by
  subst h1 h2
  exact h
theorem ev_ok (ns : List Int) (h : ns.length ≤ 63) : ∃ d0, callN tx.defs PV.M.WF 11 r_law.fn.name [.list (ns.map .int)] = .ok (.bool true, d0) := ⟨.none, x4 x1 x2 (x3 ns h)⟩
end PV.K12
open PySem PySem.W PySem.Calls PyProof.Rows
theorem PySem.Challenge.cw_hiddenrates_k12_whole_sums_products_and_holds : PySem.Challenge.rw_hiddenrates_k12_whole_sums_products_and.Holds := by
  w_on; o_law
  refine HandSHeadRun.head_imp (r := OpenLaw.row PySem.Challenge.rw_hiddenrates_k12_whole_sums_products_and) (q := PV.K12.qv) (H := PV.K12.tx.hook 4) (ob := PV.K12.ob) (M := 20000) (loose := PV.K12.loose) (d := HandSHeadRun.topDef (OpenLaw.row PySem.Challenge.rw_hiddenrates_k12_whole_sums_products_and).prog 69) (kwd := []) PV.K12.ob_eq
    PV.K12.run (by kernel_rfl) (by kernel_rfl) (by kernel_rfl) (by rfl) (by first | assumption | decide +kernel) (by decide +kernel) ⟨rfl, rfl, rfl, rfl, rfl, by decide +kernel⟩ ?hw ?hc
  case hw => w_witness2
  case hc =>
    exact PV.walkEnd (l := PySem.Challenge.rw_hiddenrates_k12_whole_sums_products_and) (T := PV.K12.tx) (wf := PV.M.WF) (k := 11) (n := 4) (r := PV.K12.r_law) rfl (by kernel_rfl) ⟨rfl, by decide, by decide⟩ (by kernel_rfl) (List.mem_cons_of_mem _ (List.mem_cons_of_mem _ (List.mem_cons_of_mem _ (List.mem_cons_of_mem _ (List.mem_cons_of_mem _ (List.mem_cons_of_mem _ (List.mem_cons_of_mem _ (List.mem_cons_of_mem _ (List.mem_cons_of_mem _ (List.mem_cons_of_mem _ (List.mem_cons_of_mem _ (List.mem_cons_of_mem _ (List.mem_cons_of_mem _ (List.mem_cons_of_mem _ (List.mem_cons_of_mem _ (List.mem_cons_of_mem _ (List.mem_cons_of_mem _ (List.mem_cons_of_mem _ (List.mem_cons_of_mem _ (List.mem_cons_of_mem _ (List.mem_cons_of_mem _ (List.mem_cons_of_mem _ (List.mem_cons_of_mem _ (List.mem_cons_of_mem _ (List.mem_cons_of_mem _ (List.mem_cons_of_mem _ (List.mem_cons_of_mem _ (List.mem_cons_of_mem _ (List.mem_cons_of_mem _ (List.mem_cons_of_mem _ (List.mem_cons_of_mem _ (List.mem_cons_of_mem _ (List.mem_cons_of_mem _ (List.mem_cons_of_mem _ (List.mem_cons_of_mem _ (List.mem_cons_of_mem _ (List.mem_cons_of_mem _ (List.mem_cons_of_mem _ (List.mem_cons_of_mem _ (List.mem_cons_of_mem _ (List.mem_cons_of_mem _ (List.mem_cons_of_mem _ (List.mem_cons_of_mem _ (List.mem_cons_of_mem _ (List.mem_cons_of_mem _ (List.mem_cons_of_mem _ (List.mem_cons_of_mem _ (List.mem_cons_of_mem _ (List.mem_cons_of_mem _ (List.mem_cons_self ..)))))))))))))))))))))))))))))))))))))))))))))))))) (by kernel_rfl) rfl rfl rfl
      PV.K12.rows_ok PV.K12.bind_ok PV.K12.kws_ok PV.K12.names_ok PV.K12.ev_ok
