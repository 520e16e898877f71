import PyProof.Rows.All
import Wide.All
import OpenK.AllK
import Wide.FinOn
import HandS.ForMost
import HandS.ForExc
import HandS.TupAny
import HandS.IsInst
import HandS.Conv
import HandS.Dict
import HandS.Style
import HandS.Deep
import HandS.HotCalls
import HandS.ExcIs
import HandS.TupMul
import HandS.SortInts
import HandS.Keys
import HandS.More
import KE.GoesEnum
import KE.KDictSum
import HandS.Set
import HandS.SetFor
import HandS.Strs
import HandS.Zip
import HandS.Iter
import PyProof.EnumMake
import KE.KItemsList
import PyProof.DictItems
import KE.KDictZip
import HandS.ExcValue
import PySem.Challenge.RW_duehall_k02_dues
set_option Elab.async false
set_option maxRecDepth 100000
set_option linter.all false
/-! The small reckoner: values without addresses, a store of what may change, the program's own trees. -/
namespace Q
open PySem
/-- a thing that is never changed any more -/
inductive D where
  | non | bl (b : Bool) | int (i : Int) | str (s : Str) | tup (xs : List D) | lst (xs : List D) | scr (ns : List Int) | fn (x : Str) | dct (kvs : List (L2.Key × D))
  deriving Inhabited
/-- what a name may hold -/
inductive W where
  | d (x : D) | loc (k : Nat) | at_ (a : PySem.Addr) | tupW (xs : List W)
  deriving Inhabited
/-- what may change -/
inductive O where
  | lst (xs : List D) | dct (kvs : List (L2.Key × D)) | dT (kvs : List (List L2.Key × D)) | ins (fs : List (Str × W)) | dead
  deriving Inhabited
abbrev Store := List O
inductive R (α : Type) where
  | ok (a : α) (S : Store) | exc (c : Nat) (S : Store) | stuck
def R.bind {α β : Type} (r : R α) (f : α → Store → R β) : R β := match r with
  | .ok a S => f a S
  | .exc c S => .exc c S
  | .stuck => .stuck
theorem nf {p : Prop} (h : p) : p := h
@[simp] theorem R.bind_ok {α β : Type} (a : α) (S : Store) (f : α → Store → R β) : (R.ok a S).bind f = f a S := nf rfl
@[simp] theorem R.bind_exc {α β : Type} (c : Nat) (S : Store) (f : α → Store → R β) : (R.exc c S : R α).bind f = .exc c S := nf rfl
@[simp] theorem R.bind_stuck {α β : Type} (f : α → Store → R β) : (R.stuck : R α).bind f = .stuck := nf rfl
abbrev Env := List (Option W)
abbrev Fn := List W → Store → R W
/-! ### equality -/
mutual
def okd : Nat → D → Bool
  | _, .non => true
  | _, .bl _ => true
  | _, .int _ => true
  | _, .str s => PyData.strOk s
  | n + 1, .tup xs => okds n xs
  | n + 1, .lst xs => okds n xs
  | _ + 1, .scr _ => true
  | _, _ => false
def okds : Nat → List D → Bool
  | _, [] => true
  | n, x :: xs => okd n x && okds n xs
end
mutual
def toPy : D → PyData
  | .non => .none
  | .bl b => .bool b
  | .int i => .int i
  | .str s => .str s
  | .tup xs => .tuple (toPys xs)
  | .lst xs => .list (toPys xs)
  | .scr ns => .list (ns.map PyData.int)
  | .fn _ => .none
  | .dct _ => .none
def toPys : List D → List PyData
  | [] => []
  | x :: xs => toPy x :: toPys xs
end
def deqO (x y : D) : Option Bool := if okd 9 x && okd 9 y then some (PyData.eqv (toPy x) (toPy y)) else none
/-! ### operators -/
inductive Bop where
  | add | sub | mul | fdiv | mod | pow
  deriving DecidableEq
inductive Cop where
  | eq | ne | lt | le | gt | ge | is | isnot | inn | nin
  deriving DecidableEq
def small (i : Int) : Bool := decide (-(2 ^ 64) < i) && decide (i < 2 ^ 64)
def bop : Bop → D → D → Option D
  | .add, .int i, .int j => some (.int (i + j))
  | .add, .str i, .str j => if i.length + j.length ≤ sizeLine then some (.str (i ++ j)) else none
  | .add, .lst xs, .lst ys => if xs.length + ys.length ≤ sizeLine then some (.lst (xs ++ ys)) else none
  | .add, .tup xs, .tup ys => if xs.length + ys.length ≤ sizeLine then some (.tup (xs ++ ys)) else none
  | .sub, .int i, .int j => some (.int (i - j))
  | .mul, .int i, .int j => if small i || small j then some (.int (i * j)) else none
  | .mul, .tup xs, .int k => if 0 < xs.length ∧ 2 ≤ k ∧ k ≤ 1000 ∧ xs.length ≤ 1000 then some (.tup (List.replicate k.toNat xs).flatten) else none
  | .mul, .lst xs, .int k => if -(2 ^ 63) ≤ k ∧ k < 2 ^ 63 ∧ xs.length * k.toNat ≤ sizeLine then some (.lst (List.replicate k.toNat xs).flatten) else none
  | .fdiv, .int i, .int j => if j ≠ 0 ∧ j.natAbs < 1073741824 then some (.int (i.fdiv j)) else none
  | .mod, .int i, .int j => if j ≠ 0 then some (.int (i.fmod j)) else none
  | .pow, .int i, .int j => if 0 ≤ j ∧ j ≤ 1000000 ∧ i.natAbs < 2 ^ 64 then some (.int (i ^ j.toNat)) else none
  | _, _, _ => none
def isNon : D → Bool
  | .non => true
  | _ => false
def flat : D → Bool
  | .non => true
  | .bl _ => true
  | .int _ => true
  | .str _ => true
  | _ => false
/-- equality of flat things -/
def eqF : D → D → Bool
  | .non, .non => true
  | .bl a, .bl b => a == b
  | .bl a, .int j => (if a then 1 else 0) == j
  | .int i, .bl b => i == (if b then 1 else 0)
  | .int i, .int j => i == j
  | .str x, .str y => x == y
  | _, _ => false
def keyD : D → Option L2.Key
  | .int i => some (.inl i)
  | .str x => some (.inr x)
  | _ => none
def valD {κ : Type} [DecidableEq κ] (kvs : List (κ × D)) (k : κ) : Option D := (kvs.find? fun kv => decide (kv.1 = k)).map (·.2)
def putD {κ : Type} [DecidableEq κ] (kvs : List (κ × D)) (k : κ) (v : D) : List (κ × D) :=
  if (kvs.any fun kv => decide (kv.1 = k)) = true then kvs.map (fun kv => if kv.1 = k then (kv.1, v) else kv) else kvs ++ [(k, v)]
def mergeD {κ : Type} [DecidableEq κ] (kvs more : List (κ × D)) : List (κ × D) := more.foldl (fun acc kv => putD acc kv.1 kv.2) kvs
def pairsD : List D → Option (List (L2.Key × D))
  | [] => some []
  | .tup [a, b] :: r => (keyD a).bind fun k => (pairsD r).map fun ps => (k, b) :: ps
  | _ :: _ => none
def inD (x : D) (xs : List D) : Bool := xs.any fun y => eqF y x
def cop : Cop → D → D → Option Bool
  | .eq, x, y => deqO x y
  | .ne, x, y => (deqO x y).map (!·)
  | .lt, .int i, .int j => some (decide (i < j))
  | .le, .int i, .int j => some (decide (i ≤ j))
  | .gt, .int i, .int j => some (decide (j < i))
  | .ge, .int i, .int j => some (decide (j ≤ i))
  | .is, x, .non => some (isNon x)
  | .isnot, x, .non => some (!isNon x)
  | .inn, x, .tup ys => if flat x && ys.all flat then some (inD x ys) else none
  | .inn, x, .lst ys => if flat x && ys.all flat then some (inD x ys) else none
  | .inn, x, .dct kvs => (keyD x).map fun k => (valD kvs k).isSome
  | .nin, x, .dct kvs => (keyD x).map fun k => !(valD kvs k).isSome
  | .nin, x, .tup ys => if flat x && ys.all flat then some (!inD x ys) else none
  | .nin, x, .lst ys => if flat x && ys.all flat then some (!inD x ys) else none
  | _, _, _ => none
/-- a place by a number, from either end -/
def atD {α : Type} (xs : List α) (i : Int) : Option α := L2.atI xs i
def ixop : D → D → Option D
  | .lst xs, .int i => L2.atI xs i
  | .tup xs, .int i => L2.atI xs i
  | .scr ns, .int i => (L2.atI ns i).map D.int
  | .str z, .int i => if z.length ≤ sizeLine then (L2.atI z.cps.toList i).map fun c => .str ⟨#[c]⟩ else none
  | _, _ => none
def cutD {α : Type} (xs : List α) (lo hi : Option Int) : List α := (xs.drop (HT.sIx xs.length 0 lo)).take (HT.sIx xs.length xs.length hi - HT.sIx xs.length 0 lo)
def slop : D → Option Int → Option Int → Option D
  | .lst xs, lo, hi => some (.lst (cutD xs lo hi))
  | .tup xs, lo, hi => some (.tup (cutD xs lo hi))
  | _, _, _ => none
inductive Ty where
  | int | bool | str | tuple | list
  deriving DecidableEq
def Ty.name : Ty → String
  | .int => "int" | .bool => "bool" | .str => "str" | .tuple => "tuple" | .list => "list"
def isi : D → Ty → Option Bool
  | .non, _ => some false
  | .bl _, .int => some true
  | .bl _, .bool => some true
  | .bl _, _ => some false
  | .int _, .int => some true
  | .int _, _ => some false
  | .str _, .str => some true
  | .str _, _ => some false
  | .tup _, .tuple => some true
  | .tup _, _ => some false
  | .lst _, .list => some true
  | .lst _, _ => some false
  | _, _ => none
def toInts : List D → Option (List Int)
  | [] => some []
  | .int i :: r => (toInts r).map (i :: ·)
  | _ :: _ => none
def toBools : List D → Option (List Bool)
  | [] => some []
  | .bl i :: r => (toBools r).map (i :: ·)
  | _ :: _ => none
/-- rows of whole numbers -/
def toRow : D → Option (List Int)
  | .tup xs => if xs = [] then none else toInts xs
  | _ => none
def toRows : List D → Option (List (List Int))
  | [] => some []
  | x :: r => (toRow x).bind fun a => (toRows r).map fun as => a :: as
def ofRow (r : List Int) : D := .tup (r.map D.int)
def lexI : List Int → List Int → Bool
  | [], [] => false
  | [], _ :: _ => true
  | _ :: _, [] => false
  | x :: xs, y :: ys => if x = y then lexI xs ys else decide (x < y)
def insI (lt : α → α → Bool) (x : α) : List α → List α
  | [] => [x]
  | y :: r => if lt y x = true then y :: insI lt x r else x :: y :: r
def sortB (lt : α → α → Bool) : List α → List α
  | [] => []
  | x :: r => insI lt x (sortB lt r)
def ltI (x y : Int) : Bool := decide (x < y)
def sortD (xs : List D) : Option D := match toInts xs with
  | some ns => some (.lst ((sortB ltI ns).map D.int))
  | none => (toRows xs).map fun rs => .lst ((sortB lexI rs).map ofRow)
def dedup : List Int → List Int
  | [] => []
  | x :: r => if x ∈ r then dedup r else x :: dedup r
def maxI : List Int → Int
  | [] => 0
  | [x] => x
  | x :: y :: r => max x (maxI (y :: r))
def minI : List Int → Int
  | [] => 0
  | [x] => x
  | x :: y :: r => min x (minI (y :: r))
/-- built-in functions by name -/
inductive Bi where
  | len | abs | max | min | intOf | strOf | listOf | tupleOf | sum | maxL | minL | all | dictOf | sorted
  deriving DecidableEq
def Bi.name : Bi → String
  | .len => "len" | .abs => "abs" | .max => "max" | .min => "min" | .intOf => "int" | .strOf => "str" | .listOf => "list" | .tupleOf => "tuple" | .sum => "sum" | .maxL => "max" | .minL => "min" | .all => "all" | .dictOf => "dict" | .sorted => "sorted"
def biop : Bi → List D → Option D
  | .len, [.lst xs] => some (.int xs.length)
  | .len, [.tup xs] => some (.int xs.length)
  | .len, [.scr xs] => some (.int xs.length)
  | .len, [.str z] => if z.length ≤ sizeLine then some (.int z.length) else none
  | .abs, [.int i] => some (.int (if i < 0 then -i else i))
  | .max, [.int i, .int j] => some (.int (if j > i then j else i))
  | .min, [.int i, .int j] => some (.int (if j < i then j else i))
  | .intOf, [.int i] => some (.int i)
  | .intOf, [.bl k] => some (.int (if k then 1 else 0))
  | .strOf, [.int i] => if i.natAbs.log2 < 1920 then some (.str (toString i)) else none
  | .listOf, [.lst xs] => some (.lst xs)
  | .listOf, [.tup xs] => some (.lst xs)
  | .tupleOf, [.lst xs] => some (.tup xs)
  | .tupleOf, [.tup xs] => some (.tup xs)
  | .sum, [.lst xs] => (toInts xs).map fun ns => .int ns.sum
  | .maxL, [.lst xs] => (toInts xs).bind fun ns => if 0 < ns.length then some (.int (maxI ns)) else none
  | .minL, [.lst xs] => (toInts xs).bind fun ns => if 0 < ns.length then some (.int (minI ns)) else none
  | .all, [.lst xs] => (toBools xs).map fun bs => .bl (bs.all id)
  | .dictOf, [.lst xs] => (pairsD xs).map fun ps => .dct (mergeD [] ps)
  | .sorted, [.lst xs] => sortD xs
  | _, _ => none
/-! ### the trees -/
inductive Tg where
  | nm (i : Nat)
  | tp (ts : List Tg)
/-- what is done with things that were reckoned from the left -/
inductive Opr where
  | fld (x : Str) | newr | cpy | ixd | get | ixT | getT | skeys | sitems | sset | lset | lenum | gget (x : Str) (tab : List (Str × Int))
  deriving DecidableEq
mutual
inductive E where
  | var (i : Nat)
  | c (x : D)
  | gl (x : Str) (v : D)
  | bin (o : Bop) (a b : E)
  | neg (a : E)
  | cmp (o : Cop) (a b : E)
  | chain (o o' : Cop) (a b c : E)
  | chain3 (o o' o'' : Cop) (a b c d : E)
  | nt (a : E)
  | and (es : Es)
  | or (es : Es)
  | ite (c a b : E)
  | tup (es : Es)
  | lst (es : Es)
  | newl (es : Es)
  | ix (a b : E)
  | sl (a : E) (lo hi : Eo)
  | bi (f : Bi) (es : Es)
  | isi (a : E) (t : Ty)
  | app (a b : E)
  | ext (a b : E)
  | call (x : Str) (f : Fn) (es : Es)
  | comp (own : List (Str × Nat)) (tg : Tg) (it : It) (cond : Eo) (elt : E)
  | frz (a : E)
  | lrg1 (a : E)
  | lrg2 (a b : E)
  | lrg3 (a b c : E)
  | sl2 (a : E)
  | any
  | isk (a : E) (p : PySem.Addr) (b : Bool) (x : Str)
  | cnt (a b : E)
  | idx (a b : E)
  | callE (a : E) (tab : List (Str × Fn)) (es : Es)
  | opn (o : Opr) (a : E) (es : Es)
  | inT (es : Es) (a : E)
  | newd (t : Bool)
  | meth (a : E) (x : Str) (f : Fn) (es : Es)
  | mk (x : Str) (f : Fn) (es : Es)
  | tupw (es : Es)
inductive Es where
  | nil | cons (e : E) (es : Es)
inductive Eo where
  | non | som (e : E)
inductive It where
  | seq (e : E) | rng1 (a : E) | rng2 (a b : E) | enum (a : E) | enumN (a : E) | zip (a b : E)
end
/-! ### what they come to -/
def view (S : Store) : W → Option D
  | .d x => some x
  | .loc k => match S[k]? with
    | some (.lst xs) => some (.lst xs)
    | some (.dct kvs) => some (.dct kvs)
    | _ => none
  | _ => none
def emptyT (S : Store) : W → Bool
  | .loc k => (match S[k]? with
    | some (.dT []) => true
    | _ => false)
  | _ => false
def views (S : Store) : List W → Option (List D)
  | [] => some []
  | w :: ws => match view S w, views S ws with
    | some x, some xs => some (x :: xs)
    | _, _ => none
def allD : List W → Option (List D)
  | [] => some []
  | .d x :: ws => (allD ws).map (x :: ·)
  | _ :: _ => none
def ofO {α : Type} (o : Option α) (S : Store) : R α := match o with
  | some a => .ok a S
  | none => .stuck
def ofD (o : Option D) (S : Store) : R W := match o with
  | some a => .ok (.d a) S
  | none => .stuck
def ofB (o : Option Bool) (S : Store) : R W := match o with
  | some a => .ok (.d (.bl a)) S
  | none => .stuck
def lookV (ρ : Env) (i : Nat) (S : Store) : R W := match ρ[i]? with
  | some (some w) => .ok w S
  | _ => .stuck
def asB (w : W) (S : Store) : R Bool := match w with
  | .d (.bl b) => .ok b S
  | _ => .stuck
/-- truth of what may stand alone in a test -/
def truth (w : W) (S : Store) : R Bool := match view S w with
  | some (.bl b) => .ok b S
  | some (.lst xs) => .ok (!xs.isEmpty) S
  | _ => .stuck
def op2 (f : D → D → Option D) (x y : W) (S : Store) : R W := match view S x, view S y with
  | some a, some b => ofD (f a b) S
  | _, _ => .stuck
def op2b (f : D → D → Option Bool) (x y : W) (S : Store) : R W := match view S x, view S y with
  | some a, some b => ofB (f a b) S
  | _, _ => .stuck
def op1 (f : D → Option D) (x : W) (S : Store) : R W := match view S x with
  | some a => ofD (f a) S
  | _ => .stuck
def negD : D → Option D
  | .int i => some (.int (-i))
  | _ => none
def ixW (x y : W) (S : Store) : R W := op2 ixop x y S
def tupOf (ws : List W) (S : Store) : R W := if ws.length ≤ sizeLine then (match allD ws with
  | some xs => .ok (.d (.tup xs)) S
  | none => .stuck) else .stuck
def lstOf (ws : List W) (S : Store) : R W := if ws.length ≤ sizeLine then (match allD ws with
  | some xs => .ok (.d (.lst xs)) S
  | none => .stuck) else .stuck
def newlOf (ws : List W) (S : Store) : R W := if ws.length ≤ sizeLine then (match allD ws with
  | some xs => .ok (.loc S.length) (S ++ [.lst xs])
  | none => .stuck) else .stuck
/-- a receiver that is a list -/
def recvL (x : W) (S : Store) : R W := match view S x with
  | some (.lst _) => .ok x S
  | _ => .stuck
def appW (x y : W) (S : Store) : R W := match x, y with
  | .loc k, .d v => (match S[k]? with
    | some (.lst xs) => if xs.length < sizeLine then .ok (.d .non) (S.set k (.lst (xs ++ [v]))) else .stuck
    | _ => .stuck)
  | _, _ => .stuck
def extW (x y : W) (S : Store) : R W := match x, y with
  | .loc k, .d (.lst ys) => (match S[k]? with
    | some (.lst xs) => if xs.length + ys.length ≤ sizeLine then .ok (.d .non) (S.set k (.lst (xs ++ ys))) else .stuck
    | _ => .stuck)
  | _, _ => .stuck
def frzW (x : W) (S : Store) : R W := match x with
  | .loc k => (match S[k]? with
    | some (.lst xs) => .ok (.d (.lst xs)) (S.set k .dead)
    | _ => .stuck)
  | w => .ok w S
def slW (x : W) (lo hi : Option Int) (S : Store) : R W := match view S x with
  | some a => ofD (slop a lo hi) S
  | none => .stuck
def isiW (x : W) (t : Ty) (S : Store) : R W := match view S x with
  | some a => ofB (isi a t) S
  | none => .stuck
def biW (f : Bi) (ws : List W) (S : Store) : R W := match views S ws with
  | some xs => ofD (biop f xs) S
  | none => .stuck
/-- what a target does -/
def setV (ρ : Env) (i : Nat) (w : W) : Env := ρ.set i (some w)
mutual
def tgD : Tg → D → Env → Option Env
  | .nm i, x, ρ => some (ρ.set i (some (.d x)))
  | .tp ts, .tup xs, ρ => tgDs ts xs ρ
  | .tp _, _, _ => none
def tgDs : List Tg → List D → Env → Option Env
  | [], [], ρ => some ρ
  | t :: ts, x :: xs, ρ => match tgD t x ρ with
    | some ρ' => tgDs ts xs ρ'
    | none => none
  | _, _, _ => none
end
mutual
/-- a target's places are among these -/
def tgIn : Tg → List Nat → Bool
  | .nm i, vs => vs.contains i
  | .tp ts, vs => tgIns ts vs
def tgIns : List Tg → List Nat → Bool
  | [], _ => true
  | t :: ts, vs => tgIn t vs && tgIns ts vs
end
def wipeE (ρ : Env) : List Nat → Env
  | [] => ρ
  | v :: vs => (wipeE ρ vs).set v none
/-- the turns of a comprehension -/
def compL (tg : Tg) (vs : List Nat) (cond : Env → Store → R Bool) (elt : Env → Store → R W) (ρ : Env) : List D → Store → R (List D)
  | [], S => .ok [] S
  | x :: xs, S => match tgD tg x (wipeE ρ vs) with
    | none => .stuck
    | some ρ1 => match cond ρ1 S with
      | .ok true S1 => (match elt ρ1 S1 with
        | .ok (.d y) S2 => (compL tg vs cond elt ρ xs S2).bind fun ys S3 => .ok (y :: ys) S3
        | _ => .stuck)
      | .ok false S1 => compL tg vs cond elt ρ xs S1
      | _ => .stuck
def rngL (lo : Int) (n : Nat) : List D := (List.range n).map fun (i : Nat) => D.int (lo + (i : Int))
def fits (i : Int) : Bool := decide (-(2 ^ 62) ≤ i) && decide (i < 2 ^ 62)
def seqItems (S : Store) : W → Option (List D)
  | .d (.lst xs) => some xs
  | .d (.tup xs) => some xs
  | .d (.scr ns) => some (ns.map D.int)
  | _ => none
def enumL (k : Nat) : List D → List D
  | [] => []
  | x :: xs => .tup [.int k, x] :: enumL (k + 1) xs
def zipL : List D → List D → List D
  | x :: xs, y :: ys => .tup [x, y] :: zipL xs ys
  | _, _ => []
/-- each second one -/
def ev2 {α : Type} (xs : List α) : List α := ((List.range ((xs.length + 1) / 2)).map fun k => 2 * k).filterMap (xs[·]?)
def sl2W (x : W) (S : Store) : R W := match view S x with
  | some (.lst xs) => .ok (.d (.lst (ev2 xs))) S
  | _ => .stuck
/-- lo, lo + c, .. -/
def rngC (lo c : Int) (n : Nat) : List D := (List.range n).map fun (i : Nat) => D.int (lo + (i : Int) * c)
def rgN (i j c : Int) : Nat := if i < j then ((j - i - 1) / c).toNat + 1 else 0
def lrgW (x y z : W) (S : Store) : R W := match x, y, z with
  | .d (.int i), .d (.int j), .d (.int c) => if fits i && fits j && decide (1 ≤ c) && decide (c ≤ 1000000) && decide (rgN i j c ≤ sizeLine) then .ok (.d (.lst (rngC i c (rgN i j c)))) S else .stuck
  | _, _, _ => .stuck
/-- is the handled exception of such a class: it is told -/
def iskW (w : W) (p : PySem.Addr) (b : Bool) (S : Store) : R W := match w with
  | .at_ q => if q = p then .ok (.d (.bl b)) S else .stuck
  | _ => .stuck
def sameD (y : D) (z : D) : Bool := PyData.eqv (toPy z) (toPy y)
def cntD (xs : List D) (y : D) : Option D := if okds 8 xs && okd 9 y then some (.int ((xs.countP (sameD y) : Nat) : Int)) else none
def idxD (xs : List D) (y : D) : Option D := if okds 8 xs && okd 9 y then (xs.findIdx? (sameD y)).map fun j => .int (j : Nat) else none
def cntW (x y : W) (S : Store) : R W := match view S x, y with
  | some (.lst xs), .d y => ofD (cntD xs y) S
  | _, _ => .stuck
def idxW (x y : W) (S : Store) : R W := match view S x, y with
  | some (.lst xs), .d y => ofD (idxD xs y) S
  | _, _ => .stuck
def tabW (w : W) (tab : List (Str × Fn)) : Option Fn := match w with
  | .d (.fn x) => (tab.find? fun p => decide (p.1 = x)).map (·.2)
  | _ => none
/-! what is asked of a thing ahead of the others -/
def fldW (w : W) (x : Str) (S : Store) : R W := match w with
  | .loc k => (match S[k]? with
    | some (.ins fs) => (match fs.lookup x with
      | some v => .ok v S
      | none => .stuck)
    | _ => .stuck)
  | _ => .stuck
def methW (w : W) (x : Str) (S : Store) : R W := match w with
  | .loc k => (match S[k]? with
    | some (.ins fs) => if (fs.lookup x).isNone = true then .ok (.loc k) S else .stuck
    | _ => .stuck)
  | _ => .stuck
def keysD : List W → Option (List L2.Key)
  | [] => some []
  | .d x :: r => (keyD x).bind fun k => (keysD r).map (k :: ·)
  | _ :: _ => none
def key2 : List W → Option (List L2.Key)
  | [x, y] => keysD [x, y]
  | _ => none
def preW (o : Opr) (w : W) (S : Store) : R W := match o with
  | .get => (match view S w with
    | some (.dct _) => .ok w S
    | _ => .stuck)
  | .getT => (match w with
    | .loc k => (match S[k]? with
      | some (.dT _) => .ok (.loc k) S
      | _ => .stuck)
    | _ => .stuck)
  | _ => .ok w S
def pushW (xs : List D) (S : Store) : R W := .ok (.loc S.length) (S ++ [.lst xs])
def intKeys : List (L2.Key × D) → Option (List Int)
  | [] => some []
  | (.inl i, _) :: r => (intKeys r).map (i :: ·)
  | _ :: _ => none
def intItems : List (L2.Key × D) → Option (List (List Int))
  | [] => some []
  | (.inl i, .int j) :: r => (intItems r).map ([i, j] :: ·)
  | _ :: _ => none
def opW (o : Opr) (w : W) (ws : List W) (S : Store) : R W := match o, ws with
  | .fld x, [] => fldW w x S
  | .newr, [.d (.int k)] => (match w with
    | .d (.lst xs) => if -(2 ^ 63) ≤ k ∧ k < 2 ^ 63 ∧ xs.length * k.toNat ≤ sizeLine then pushW (List.replicate k.toNat xs).flatten S else .stuck
    | _ => .stuck)
  | .cpy, [] => (match view S w with
    | some (.lst xs) => pushW xs S
    | some (.tup xs) => pushW xs S
    | _ => .stuck)
  | .ixd, [.d k] => (match view S w, keyD k with
    | some (.dct kvs), some j => ofD (valD kvs j) S
    | _, _ => .stuck)
  | .get, [.d k, .d v] => (match view S w, keyD k with
    | some (.dct kvs), some j => .ok (.d ((valD kvs j).getD v)) S
    | _, _ => .stuck)
  | .ixT, ws => (match w with
    | .loc k => (match S[k]?, key2 ws with
      | some (.dT kvs), some ks => ofD (valD kvs ks) S
      | _, _ => .stuck)
    | _ => .stuck)
  | .getT, [x, y, .d v] => (match w with
    | .loc k => (match S[k]?, key2 [x, y] with
      | some (.dT kvs), some ks => .ok (.d ((valD kvs ks).getD v)) S
      | _, _ => .stuck)
    | _ => .stuck)
  | .skeys, [] => if emptyT S w = true then .ok (.d (.lst [])) S else (match view S w with
    | some (.dct kvs) => ofD ((intKeys kvs).map fun ns => .lst ((sortB ltI ns).map D.int)) S
    | _ => .stuck)
  | .sitems, [] => (match view S w with
    | some (.dct kvs) => if kvs.length = 0 then .ok (.d (.lst [])) S else .stuck
    | _ => .stuck)
  | .sset, [] => (match view S w with
    | some (.lst xs) => ofD ((toInts xs).bind fun ns => if ns.length ≤ 4000 then some (.lst ((sortB ltI (dedup ns)).map D.int)) else none) S
    | _ => .stuck)
  | .lset, [] => (match view S w with
    | some (.lst xs) => ofD ((toInts xs).bind fun ns => if ns.length ≤ 4000 then some (.int ((dedup ns).length : Nat)) else none) S
    | _ => .stuck)
  | .lenum, [] => (match view S w with
    | some (.lst xs) => .ok (.d (.lst (enumL 0 xs))) S
    | _ => .stuck)
  | .gget _ tab, [.d v] => (match w with
    | .d (.str z) => .ok (.d (((tab.find? fun p => decide (p.1 = z)).map fun p => D.int p.2).getD v)) S
    | _ => .stuck)
  | _, _ => .stuck
def inTW (ks : List W) (w : W) (S : Store) : R W := match w with
  | .loc k => (match S[k]?, key2 ks with
    | some (.dT kvs), some ks => .ok (.d (.bl (valD kvs ks).isSome)) S
    | _, _ => .stuck)
  | _ => .stuck
/-- a new thing of a class -/
def mkW (f : Fn) (ws : List W) (S : Store) : R W := (f (.loc S.length :: ws) (S ++ [.ins []])).bind fun w S2 => match w with
  | .d .non => .ok (.loc S.length) S2
  | _ => .stuck
def tupwW (ws : List W) (S : Store) : R W := if ws.length ≤ sizeLine then .ok (.tupW ws) S else .stuck
def itSeq (w : W) (S : Store) : R (List D) := ofO (seqItems S w) S
def itR1 (w : W) (S : Store) : R (List D) := match w with
  | .d (.int j) => if fits j then .ok (rngL 0 j.toNat) S else .stuck
  | _ => .stuck
def itR2 (w v : W) (S : Store) : R (List D) := match w, v with
  | .d (.int i), .d (.int j) => if fits i && fits j then .ok (rngL i (j - i).toNat) S else .stuck
  | _, _ => .stuck
def itEnum (w : W) (S : Store) : R (List D) := match w with
  | .d (.lst xs) => .ok (enumL 0 xs) S
  | .d (.tup xs) => .ok (enumL 0 xs) S
  | _ => .stuck
def itEnumN (w : W) (S : Store) : R (List D) := match w with
  | .d (.lst xs) => .ok (enumL 0 xs) S
  | _ => .stuck
def itZip (w v : W) (S : Store) : R (List D) := match w, v with
  | .d (.lst xs), .d (.lst ys) => .ok (zipL xs ys) S
  | _, _ => .stuck
mutual
def ev : E → Env → Store → R W
  | .var i, ρ, S => lookV ρ i S
  | .c x, _, S => .ok (.d x) S
  | .gl _ v, _, S => .ok (.d v) S
  | .bin o a b, ρ, S => (ev a ρ S).bind fun x S1 => (ev b ρ S1).bind fun y S2 => op2 (bop o) x y S2
  | .neg a, ρ, S => (ev a ρ S).bind fun x S1 => op1 negD x S1
  | .cmp o a b, ρ, S => (ev a ρ S).bind fun x S1 => (ev b ρ S1).bind fun y S2 => op2b (cop o) x y S2
  | .chain o o' a b c, ρ, S => (ev a ρ S).bind fun x S1 => (ev b ρ S1).bind fun y S2 => (op2b (cop o) x y S2).bind fun r S3 => (asB r S3).bind fun k S4 =>
      if k = true then (ev c ρ S4).bind fun z S5 => op2b (cop o') y z S5 else .ok (.d (.bl false)) S4
  | .chain3 o o' o'' a b c d, ρ, S => (ev a ρ S).bind fun x S1 => (ev b ρ S1).bind fun y S2 => (op2b (cop o) x y S2).bind fun r S3 => (asB r S3).bind fun k S4 =>
      if k = true then (ev c ρ S4).bind fun z S5 => (op2b (cop o') y z S5).bind fun r S6 => (asB r S6).bind fun k S7 => if k = true then (ev d ρ S7).bind fun u S8 => op2b (cop o'') z u S8 else .ok (.d (.bl false)) S7
      else .ok (.d (.bl false)) S4
  | .nt a, ρ, S => (ev a ρ S).bind fun x S1 => (asB x S1).bind fun k S2 => .ok (.d (.bl (!k))) S2
  | .and es, ρ, S => evAnd es ρ S
  | .or es, ρ, S => evOr es ρ S
  | .ite c a b, ρ, S => (evT c ρ S).bind fun k S1 => if k = true then ev a ρ S1 else ev b ρ S1
  | .tup es, ρ, S => (evs es ρ S).bind fun ws S1 => tupOf ws S1
  | .lst es, ρ, S => (evs es ρ S).bind fun ws S1 => lstOf ws S1
  | .newl es, ρ, S => (evs es ρ S).bind fun ws S1 => newlOf ws S1
  | .ix a b, ρ, S => (ev a ρ S).bind fun x S1 => (ev b ρ S1).bind fun y S2 => ixW x y S2
  | .sl a lo hi, ρ, S => (ev a ρ S).bind fun x S1 => (evo lo ρ S1).bind fun l S2 => (evo hi ρ S2).bind fun h S3 => slW x l h S3
  | .bi f es, ρ, S => (evs es ρ S).bind fun ws S1 => biW f ws S1
  | .isi a t, ρ, S => (ev a ρ S).bind fun x S1 => isiW x t S1
  | .app a b, ρ, S => (ev a ρ S).bind fun x S1 => (recvL x S1).bind fun x S2 => (ev b ρ S2).bind fun y S3 => appW x y S3
  | .ext a b, ρ, S => (ev a ρ S).bind fun x S1 => (recvL x S1).bind fun x S2 => (ev b ρ S2).bind fun y S3 => extW x y S3
  | .call _ f es, ρ, S => (evs es ρ S).bind fun ws S1 => f ws S1
  | .comp own tg it cond elt, ρ, S => (evIt it ρ S).bind fun items S1 => if items.length ≤ sizeLine then (compL tg (own.map (·.2)) (evC cond) (ev elt) ρ items S1).bind fun ys S2 => .ok (.d (.lst ys)) S2 else .stuck
  | .frz a, ρ, S => (ev a ρ S).bind fun x S1 => frzW x S1
  | .lrg1 a, ρ, S => (ev a ρ S).bind fun x S1 => lrgW (.d (.int 0)) x (.d (.int 1)) S1
  | .lrg2 a b, ρ, S => (ev a ρ S).bind fun x S1 => (ev b ρ S1).bind fun y S2 => lrgW x y (.d (.int 1)) S2
  | .sl2 a, ρ, S => (ev a ρ S).bind fun x S1 => sl2W x S1
  | .lrg3 a b c, ρ, S => (ev a ρ S).bind fun x S1 => (ev b ρ S1).bind fun y S2 => (ev c ρ S2).bind fun z S3 => lrgW x y z S3
  | .any, _, _ => .stuck
  | .isk a p b _, ρ, S => (ev a ρ S).bind fun x S1 => iskW x p b S1
  | .cnt a b, ρ, S => (ev a ρ S).bind fun x S1 => (recvL x S1).bind fun x S2 => (ev b ρ S2).bind fun y S3 => cntW x y S3
  | .idx a b, ρ, S => (ev a ρ S).bind fun x S1 => (recvL x S1).bind fun x S2 => (ev b ρ S2).bind fun y S3 => idxW x y S3
  | .callE a tab es, ρ, S => (ev a ρ S).bind fun w S1 => match tabW w tab with
    | some f => (evs es ρ S1).bind fun ws S2 => f ws S2
    | none => .stuck
  | .opn o a es, ρ, S => (ev a ρ S).bind fun w S1 => (preW o w S1).bind fun w S2 => (evs es ρ S2).bind fun ws S3 => opW o w ws S3
  | .inT es a, ρ, S => (evs es ρ S).bind fun ks S1 => (ev a ρ S1).bind fun w S2 => inTW ks w S2
  | .newd t, _, S => .ok (.loc S.length) (S ++ [if t = true then .dT [] else .dct []])
  | .meth a x f es, ρ, S => (ev a ρ S).bind fun w S1 => (methW w x S1).bind fun w S2 => (evs es ρ S2).bind fun ws S3 => f (w :: ws) S3
  | .mk _ f es, ρ, S => (evs es ρ S).bind fun ws S1 => mkW f ws S1
  | .tupw es, ρ, S => (evs es ρ S).bind fun ws S1 => tupwW ws S1
def evT : E → Env → Store → R Bool
  | .and es, ρ, S => evAndT es ρ S
  | .or es, ρ, S => evOrT es ρ S
  | .nt a, ρ, S => (evT a ρ S).bind fun k S1 => .ok (!k) S1
  | .var i, ρ, S => (lookV ρ i S).bind fun x S1 => truth x S1
  | .cmp o a b, ρ, S => (ev a ρ S).bind fun x S1 => (ev b ρ S1).bind fun y S2 => (op2b (cop o) x y S2).bind fun r S3 => asB r S3
  | .chain o o' a b c, ρ, S => (ev a ρ S).bind fun x S1 => (ev b ρ S1).bind fun y S2 => (op2b (cop o) x y S2).bind fun r S3 => (asB r S3).bind fun k S4 =>
      if k = true then (ev c ρ S4).bind fun z S5 => (op2b (cop o') y z S5).bind fun r S6 => asB r S6 else .ok false S4
  | .isi a t, ρ, S => ((ev a ρ S).bind fun x S1 => isiW x t S1).bind fun r S2 => asB r S2
  | .call _ f es, ρ, S => ((evs es ρ S).bind fun ws S1 => f ws S1).bind fun r S2 => asB r S2
  | .bi f es, ρ, S => ((evs es ρ S).bind fun ws S1 => biW f ws S1).bind fun r S2 => asB r S2
  | .c (.bl b), _, S => .ok b S
  | .isk a p b _, ρ, S => ((ev a ρ S).bind fun x S1 => iskW x p b S1).bind fun r S2 => asB r S2
  | .inT es a, ρ, S => ((evs es ρ S).bind fun ks S1 => (ev a ρ S1).bind fun w S2 => inTW ks w S2).bind fun r S3 => asB r S3
  | .meth a x f es, ρ, S => ((ev a ρ S).bind fun w S1 => (methW w x S1).bind fun w S2 => (evs es ρ S2).bind fun ws S3 => f (w :: ws) S3).bind fun r S4 => asB r S4
  | _, _, _ => .stuck
def evAnd : Es → Env → Store → R W
  | .nil, _, _ => .stuck
  | .cons e .nil, ρ, S => ev e ρ S
  | .cons e (.cons e2 es), ρ, S => (ev e ρ S).bind fun x S1 => (asB x S1).bind fun k S2 => if k = true then evAnd (.cons e2 es) ρ S2 else .ok (.d (.bl false)) S2
def evOr : Es → Env → Store → R W
  | .nil, _, _ => .stuck
  | .cons e .nil, ρ, S => ev e ρ S
  | .cons e (.cons e2 es), ρ, S => (ev e ρ S).bind fun x S1 => (asB x S1).bind fun k S2 => if k = true then .ok (.d (.bl true)) S2 else evOr (.cons e2 es) ρ S2
def evAndT : Es → Env → Store → R Bool
  | .nil, _, _ => .stuck
  | .cons e .nil, ρ, S => evT e ρ S
  | .cons e (.cons e2 es), ρ, S => (evT e ρ S).bind fun k S1 => if k = true then evAndT (.cons e2 es) ρ S1 else .ok false S1
def evOrT : Es → Env → Store → R Bool
  | .nil, _, _ => .stuck
  | .cons e .nil, ρ, S => evT e ρ S
  | .cons e (.cons e2 es), ρ, S => (evT e ρ S).bind fun k S1 => if k = true then .ok true S1 else evOrT (.cons e2 es) ρ S1
def evs : Es → Env → Store → R (List W)
  | .nil, _, S => .ok [] S
  | .cons e es, ρ, S => (ev e ρ S).bind fun x S1 => (evs es ρ S1).bind fun xs S2 => .ok (x :: xs) S2
def evo : Eo → Env → Store → R (Option Int)
  | .non, _, S => .ok none S
  | .som e, ρ, S => (ev e ρ S).bind fun x S1 => match x with
    | .d (.int i) => .ok (some i) S1
    | _ => .stuck
def evC : Eo → Env → Store → R Bool
  | .non, _, S => .ok true S
  | .som e, ρ, S => evT e ρ S
def evIt : It → Env → Store → R (List D)
  | .seq e, ρ, S => (ev e ρ S).bind fun x S1 => itSeq x S1
  | .rng1 a, ρ, S => (ev a ρ S).bind fun x S1 => itR1 x S1
  | .rng2 a b, ρ, S => (ev a ρ S).bind fun x S1 => (ev b ρ S1).bind fun y S2 => itR2 x y S2
  | .enum a, ρ, S => (ev a ρ S).bind fun x S1 => itEnum x S1
  | .enumN a, ρ, S => (ev a ρ S).bind fun x S1 => itEnumN x S1
  | .zip a b, ρ, S => (ev a ρ S).bind fun x S1 => (ev b ρ S1).bind fun y S2 => itZip x y S2
end
end Q
namespace Q
open PySem
inductive Fl where
  | nx (ρ : Env) (S : Store) | rt (w : W) (S : Store) | exc (c : Nat) (ρ : Env) (S : Store) | stuck
/-- how a store into a thing goes -/
inductive StOp where
  | fset (x : Str) | lput | dput | putT
  deriving DecidableEq
def putFW (x : Str) (v : W) : List (Str × W) → List (Str × W)
  | [] => [(x, v)]
  | (y, u) :: r => if y = x then (y, v) :: r else (y, u) :: putFW x v r
def fsetW (x : Str) (w v : W) (S : Store) : R Unit := match w with
  | .loc k => (match S[k]? with
    | some (.ins fs) => if fs.length < 100 then .ok () (S.set k (.ins (putFW x v fs))) else .stuck
    | _ => .stuck)
  | _ => .stuck
def lputW (w i v : W) (S : Store) : R Unit := match w, i, v with
  | .loc k, .d (.int i), .d d => (match S[k]? with
    | some (.lst xs) => (match L2.ixN xs.length i with
      | some j => .ok () (S.set k (.lst (xs.set j d)))
      | none => .stuck)
    | _ => .stuck)
  | _, _, _ => .stuck
def dputW (w j v : W) (S : Store) : R Unit := match w, j, v with
  | .loc k, .d j, .d d => (match S[k]?, keyD j with
    | some (.dct kvs), some j => if kvs.length < sizeLine then .ok () (S.set k (.dct (putD kvs j d))) else .stuck
    | _, _ => .stuck)
  | _, _, _ => .stuck
def putTW (w : W) (ws : List W) (v : W) (S : Store) : R Unit := match w, v with
  | .loc k, .d d => (match S[k]?, key2 ws with
    | some (.dT kvs), some ks => if kvs.length < sizeLine then .ok () (S.set k (.dT (putD kvs ks d))) else .stuck
    | _, _ => .stuck)
  | _, _ => .stuck
def stoW (o : StOp) (w : W) (ws : List W) (v : W) (S : Store) : R Unit := match o, ws with
  | .fset x, [] => fsetW x w v S
  | .lput, [i] => lputW w i v S
  | .dput, [j] => dputW w j v S
  | .putT, ws => putTW w ws v S
  | _, _ => .stuck
def unpE : List Nat → List W → Env → Option Env
  | [], [], ρ => some ρ
  | i :: is, w :: ws, ρ => unpE is ws (ρ.set i (some w))
  | _, _, _ => none
def unpW (is : List Nat) (w : W) (ρ : Env) : Option Env := match w with
  | .tupW ws => unpE is ws ρ
  | _ => none
mutual
inductive St where
  | set (i : Nat) (e : E)
  | setc (i : Nat) (own : List (Str × Nat)) (tg : Tg) (it : It) (cond : Eo) (elt : E)
  | tgt (t : Tg) (e : E)
  | par (i j : Nat) (a b : E)
  | ex (e : E)
  | ife (c : E) (a b : Sts)
  | for_ (t : Tg) (it : It) (body : Sts)
  | whl (n : Nat) (c : E) (body : Sts)
  | ret (e : E)
  | retN
  | rais (c : Nat) (x : Str)
  | frzV (i : Nat)
  | any
  | tryA (body : Sts) (i : Nat) (x : Str) (f : Nat → PySem.Addr → Fn) (cs : List Nat)
  | tryC (body : Sts) (d : D) (cs : List Nat)
  | sto (o : StOp) (a : E) (es : Es) (e : E)
  | unp (is : List Nat) (e : E)
inductive Sts where
  | nil | cons (s : St) (r : Sts)
end
def R.flE {α : Type} (r : R α) (ρ : Env) (f : α → Store → Fl) : Fl := match r with
  | .ok a S => f a S
  | .exc c S => .exc c ρ S
  | .stuck => .stuck
def Fl.andThen (r : Fl) (f : Env → Store → Fl) : Fl := match r with
  | .nx ρ S => f ρ S
  | .rt w S => .rt w S
  | .exc c ρ S => .exc c ρ S
  | .stuck => .stuck
def tgW (t : Tg) (w : W) (ρ : Env) : Option Env := match t, w with
  | .nm i, w => some (ρ.set i (some w))
  | t, .d x => tgD t x ρ
  | _, _ => none
def ofEnv (o : Option Env) (S : Store) : Fl := match o with
  | some ρ => .nx ρ S
  | none => .stuck
def forL (tg : Tg) (body : Env → Store → Fl) : List D → Env → Store → Fl
  | [], ρ, S => .nx ρ S
  | x :: xs, ρ, S => match tgD tg x ρ with
    | none => .stuck
    | some ρ1 => (body ρ1 S).andThen fun ρ2 S2 => forL tg body xs ρ2 S2
def whileL (c : Env → Store → R Bool) (body : Env → Store → Fl) : Nat → Env → Store → Fl
  | 0, _, _ => .stuck
  | n + 1, ρ, S => (c ρ S).flE ρ fun k S1 => if k = true then (body ρ S1).andThen fun ρ2 S2 => whileL c body n ρ2 S2 else .nx ρ S1
/-- an except clause: a def is called on the error, or a constant is told -/
def catchA (r : Fl) (i : Nat) (f : Nat → PySem.Addr → Fn) (cs : List Nat) : Fl := match r with
  | .exc c ρ S => if (cs.contains c && decide (i < ρ.length)) = true then (match f c 0 [.at_ 0] S with
    | .ok (.d d) S2 => .rt (.d d) S2
    | _ => .stuck) else .stuck
  | r => r
def catchC (r : Fl) (d : D) (cs : List Nat) : Fl := match r with
  | .exc c _ S => if cs.contains c then .rt (.d d) S else .stuck
  | r => r
def frzE (ρ : Env) (i : Nat) (S : Store) : Fl := match lookV ρ i S with
  | .ok w S1 => (match frzW w S1 with
    | .ok w' S2 => .nx (ρ.set i (some w')) S2
    | _ => .stuck)
  | _ => .stuck
mutual
def evS : St → Env → Store → Fl
  | .set i e, ρ, S => (ev e ρ S).flE ρ fun w S1 => .nx (ρ.set i (some w)) S1
  | .setc i own tg it cond elt, ρ, S => (ev (.comp own tg it cond elt) ρ S).flE ρ fun w S1 => .nx (ρ.set i (some w)) S1
  | .tgt t e, ρ, S => (ev e ρ S).flE ρ fun w S1 => ofEnv (tgW t w ρ) S1
  | .par i j a b, ρ, S => (ev a ρ S).flE ρ fun x S1 => (ev b ρ S1).flE ρ fun y S2 => .nx ((ρ.set i (some x)).set j (some y)) S2
  | .ex e, ρ, S => (ev e ρ S).flE ρ fun _ S1 => .nx ρ S1
  | .ife c a b, ρ, S => (evT c ρ S).flE ρ fun k S1 => if k = true then evB a ρ S1 else evB b ρ S1
  | .for_ t it body, ρ, S => (evIt it ρ S).flE ρ fun items S1 => forL t (evB body) items ρ S1
  | .whl n c body, ρ, S => whileL (evT c) (evB body) n ρ S
  | .ret e, ρ, S => (ev e ρ S).flE ρ fun w S1 => .rt w S1
  | .retN, _, S => .rt (.d .non) S
  | .rais c _, ρ, S => .exc c ρ S
  | .frzV i, ρ, S => frzE ρ i S
  | .any, _, _ => .stuck
  | .tryA body i _ f cs, ρ, S => catchA (evB body ρ S) i f cs
  | .tryC body d cs, ρ, S => catchC (evB body ρ S) d cs
  | .sto o a es e, ρ, S => (ev e ρ S).flE ρ fun v S1 => (ev a ρ S1).flE ρ fun w S2 => (evs es ρ S2).flE ρ fun ws S3 => (stoW o w ws v S3).flE ρ fun _ S4 => .nx ρ S4
  | .unp is e, ρ, S => (ev e ρ S).flE ρ fun w S1 => ofEnv (unpW is w ρ) S1
def evB : Sts → Env → Store → Fl
  | .nil, ρ, S => .nx ρ S
  | .cons s r, ρ, S => (evS s ρ S).andThen fun ρ1 S1 => evB r ρ1 S1
end
/-! what stood before a call stands, but for things that were changed and hold nothing new -/
mutual
def closedW (n : Nat) : W → Bool
  | .d _ => true
  | .loc k => decide (k < n)
  | .at_ _ => true
  | .tupW ws => closedWs n ws
def closedWs (n : Nat) : List W → Bool
  | [] => true
  | w :: ws => closedW n w && closedWs n ws
end
def closedO (n : Nat) : O → Bool
  | .ins fs => fs.all fun p => closedW n p.2
  | .dead => false
  | _ => true
def Keeps (S S' : Store) : Prop := ∀ (k : Nat) (o : O), S[k]? = some o → S'[k]? = some o ∨ ∃ o', S'[k]? = some o' ∧ closedO S.length o' = true
open Classical in
noncomputable def finW (tr : Bool) (S : Store) (w : W) (S' : Store) : R W :=
  if tr = true then (match w with
    | .d x => if Keeps S S' then .ok (.d x) (S'.take S.length) else .stuck
    | _ => .stuck) else .ok w S'
open Classical in
noncomputable def finX (tr : Bool) (S : Store) (c : Nat) (S' : Store) : R W :=
  if tr = true then (if Keeps S S' then .exc c (S'.take S.length) else .stuck) else .exc c S'
noncomputable def fin (tr : Bool) (S : Store) : Fl → R W
  | .nx _ S' => finW tr S (.d .non) S'
  | .rt w S' => finW tr S w S'
  | .exc c _ S' => finX tr S c S'
  | .stuck => .stuck
/-- a def of the text: its count of names, of parameters, its body -/
noncomputable def defF (tr : Bool) (n k : Nat) (body : Sts) : Fn := fun ws S =>
  if ws.length = k then fin tr S (evB body (ws.map some ++ List.replicate (n - k) none) S) else .stuck
end Q
set_option Elab.async false
set_option maxRecDepth 100000
set_option linter.all false
/-! What the small reckoner's things are in the machine. -/
namespace Q
open PySem PySem.Spec PyProof.Rows L2
mutual
inductive RepD (K : PySem.W.Frag) (mg : Str → Option Value) (F : Hp) : D → V → Prop
  | non : RepD K mg F .non .non
  | bl (b : Bool) : RepD K mg F (.bl b) (.bl b)
  | int (i : Int) : RepD K mg F (.int i) (.int i)
  | str (s : Str) : RepD K mg F (.str s) (.str s)
  | tup {a : Addr} {xs : List D} {ys : List V} : SqT K F a ys → RepDs K mg F xs ys → RepD K mg F (.tup xs) (.ref a)
  | lst {a : Addr} {xs : List D} {ys : List V} : F a = some (.lst ys) → RepDs K mg F xs ys → RepD K mg F (.lst xs) (.ref a)
  | scr {a : Addr} {ns : List Int} : SqL K F a (ns.map V.int) → RepD K mg F (.scr ns) (.ref a)
  | fn {x : Str} {a : Addr} : mg x = some (.ref a) → RepD K mg F (.fn x) (.ref a)
  | dct {a : Addr} {kvs : List (Key × D)} {vs : List (Key × V)} : F a = some (.dK vs) → RepKs K mg F kvs vs → RepD K mg F (.dct kvs) (.ref a)
inductive RepDs (K : PySem.W.Frag) (mg : Str → Option Value) (F : Hp) : List D → List V → Prop
  | nil : RepDs K mg F [] []
  | cons {x : D} {y : V} {xs : List D} {ys : List V} : RepD K mg F x y → RepDs K mg F xs ys → RepDs K mg F (x :: xs) (y :: ys)
inductive RepKs (K : PySem.W.Frag) (mg : Str → Option Value) (F : Hp) : List (Key × D) → List (Key × V) → Prop
  | nil : RepKs K mg F [] []
  | cons {k : Key} {x : D} {y : V} {xs : List (Key × D)} {ys : List (Key × V)} : RepD K mg F x y → RepKs K mg F xs ys → RepKs K mg F ((k, x) :: xs) ((k, y) :: ys)
end
theorem Same.seqT {K : PySem.W.Frag} {H H' : Hp} {a : Addr} {xs : List V} (e : Same H H') (h : SqT K H a xs) : SqT K H' a xs := by
  rcases h with (h | ⟨o, h⟩) | h
  · exact .inl (.inl (e _ _ h))
  · exact .inl (.inr ⟨o, e _ _ h⟩)
  · exact .inr h
section
variable {K : PySem.W.Frag} {mg : Str → Option Value} {F F' H H' : Hp}
mutual
theorem RepD.mono (m : Same F F') : ∀ {x : D} {v : V}, RepD K mg F x v → RepD K mg F' x v
  | _, _, .non => .non
  | _, _, .bl b => .bl b
  | _, _, .int i => .int i
  | _, _, .str s => .str s
  | _, _, .tup h r => .tup (Same.seqT m h) (RepDs.mono m r)
  | _, _, .lst h r => .lst (m _ _ h) (RepDs.mono m r)
  | _, _, .scr h => .scr (m.seq h)
  | _, _, .fn h => .fn h
  | _, _, .dct h r => .dct (m _ _ h) (RepKs.mono m r)
theorem RepDs.mono (m : Same F F') : ∀ {x : List D} {v : List V}, RepDs K mg F x v → RepDs K mg F' x v
  | _, _, .nil => .nil
  | _, _, .cons h r => .cons (RepD.mono m h) (RepDs.mono m r)
theorem RepKs.mono (m : Same F F') : ∀ {x : List (Key × D)} {v : List (Key × V)}, RepKs K mg F x v → RepKs K mg F' x v
  | _, _, .nil => .nil
  | _, _, .cons h r => .cons (RepD.mono m h) (RepKs.mono m r)
end
theorem RepKs.length : ∀ {xs : List (Key × D)} {ys : List (Key × V)}, RepKs K mg F xs ys → xs.length = ys.length
  | _, _, .nil => rfl
  | _, _, .cons _ r => by rw [List.length_cons, List.length_cons, RepKs.length r]
theorem RepKs.val (k : Key) : ∀ {xs : List (Key × D)} {ys : List (Key × V)}, RepKs K mg F xs ys → (valD xs k = none ∧ valV ys k = none) ∨ ∃ d v, valD xs k = some d ∧ valV ys k = some v ∧ RepD K mg F d v
  | _, _, .nil => .inl ⟨rfl, rfl⟩
  | (j, x) :: xs, (_, y) :: ys, .cons h r => by
    by_cases e : j = k
    · exact .inr ⟨x, y, by simp [valD, e], by simp [valV, e], h⟩
    · have q := RepKs.val k r
      have e1 : valD ((j, x) :: xs) k = valD xs k := by simp [valD, List.find?_cons, e]
      have e2 : valV ((j, y) :: ys) k = valV ys k := valV_neg e
      rw [e1, e2]
      exact q
theorem RepKs.any (k : Key) : ∀ {xs : List (Key × D)} {ys : List (Key × V)}, RepKs K mg F xs ys → (xs.any fun kv => decide (kv.1 = k)) = (ys.any fun kv => decide (kv.1 = k))
  | _, _, .nil => rfl
  | _, _, .cons h r => by rw [List.any_cons, List.any_cons, RepKs.any k r]
theorem RepKs.sub (k : Key) {d : D} {v : V} (n : RepD K mg F d v) : ∀ {xs : List (Key × D)} {ys : List (Key × V)}, RepKs K mg F xs ys → RepKs K mg F (xs.map fun kv => if kv.1 = k then (kv.1, d) else kv) (ys.map fun kv => if kv.1 = k then (kv.1, v) else kv)
  | _, _, .nil => .nil
  | (j, x) :: xs, (_, y) :: ys, .cons h r => by
    rw [List.map_cons, List.map_cons]
    by_cases e : j = k
    · rw [if_pos e, if_pos e]; exact .cons n (RepKs.sub k n r)
    · rw [if_neg e, if_neg e]; exact .cons h (RepKs.sub k n r)
theorem RepKs.snoc (k : Key) {d : D} {v : V} (n : RepD K mg F d v) : ∀ {xs : List (Key × D)} {ys : List (Key × V)}, RepKs K mg F xs ys → RepKs K mg F (xs ++ [(k, d)]) (ys ++ [(k, v)])
  | _, _, .nil => .cons n .nil
  | _, _, .cons h r => .cons h (RepKs.snoc k n r)
theorem RepKs.put (k : Key) {d : D} {v : V} (n : RepD K mg F d v) {xs : List (Key × D)} {ys : List (Key × V)} (r : RepKs K mg F xs ys) : RepKs K mg F (putD xs k d) (putK ys k v) := by
  unfold putD putK
  rw [r.any k]
  by_cases c : (ys.any fun kv => decide (kv.1 = k)) = true
  · rw [if_pos c, if_pos c]; exact r.sub k n
  · rw [if_neg c, if_neg c]; exact r.snoc k n
theorem RepKs.merge : ∀ {more : List (Key × D)} {ms : List (Key × V)} {xs : List (Key × D)} {ys : List (Key × V)}, RepKs K mg F more ms → RepKs K mg F xs ys → RepKs K mg F (mergeD xs more) (mergeK ys ms)
  | _, _, _, _, .nil, r => r
  | (k, d) :: more, (_, v) :: ms, xs, ys, .cons h m, r => by
    have q := RepKs.merge m (r.put k h)
    exact q
theorem RepDs.length : ∀ {xs : List D} {ys : List V}, RepDs K mg F xs ys → xs.length = ys.length
  | _, _, .nil => rfl
  | _, _, .cons _ r => by rw [List.length_cons, List.length_cons, RepDs.length r]
theorem RepDs.get : ∀ {xs : List D} {ys : List V} {i : Nat} {d : D}, RepDs K mg F xs ys → xs[i]? = some d → ∃ v, ys[i]? = some v ∧ RepD K mg F d v
  | _, _, _, _, .nil, e => by simp at e
  | _, _, 0, _, .cons h _, e => by simp at e; subst e; exact ⟨_, rfl, h⟩
  | _, _, i + 1, d, .cons _ t, e => by
    obtain ⟨u, h1, h2⟩ := RepDs.get (i := i) (d := d) t (by simpa using e)
    exact ⟨u, by simpa using h1, h2⟩
theorem RepDs.getV : ∀ {xs : List D} {ys : List V} {i : Nat} {v : V}, RepDs K mg F xs ys → ys[i]? = some v → ∃ d, xs[i]? = some d ∧ RepD K mg F d v
  | _, _, _, _, .nil, e => by simp at e
  | _, _, 0, _, .cons h _, e => by simp at e; subst e; exact ⟨_, rfl, h⟩
  | _, _, i + 1, d, .cons _ t, e => by
    obtain ⟨u, h1, h2⟩ := RepDs.getV (i := i) (v := d) t (by simpa using e)
    exact ⟨u, by simpa using h1, h2⟩
theorem RepDs.append : ∀ {xs xs' : List D} {ys ys' : List V}, RepDs K mg F xs ys → RepDs K mg F xs' ys' → RepDs K mg F (xs ++ xs') (ys ++ ys')
  | _, _, _, _, .nil, s => s
  | _, _, _, _, .cons r t, s => .cons r (RepDs.append t s)
theorem RepDs.take : ∀ {xs : List D} {ys : List V} (n : Nat), RepDs K mg F xs ys → RepDs K mg F (xs.take n) (ys.take n)
  | _, _, 0, _ => .nil
  | _, _, _ + 1, .nil => .nil
  | _, _, n + 1, .cons r t => .cons r (RepDs.take n t)
theorem RepDs.drop : ∀ {xs : List D} {ys : List V} (n : Nat), RepDs K mg F xs ys → RepDs K mg F (xs.drop n) (ys.drop n)
  | _, _, 0, r => r
  | _, _, _ + 1, .nil => .nil
  | _, _, n + 1, .cons _ t => RepDs.drop n t
theorem RepDs.rep {xs : List D} {ys : List V} (r : RepDs K mg F xs ys) : ∀ n : Nat, RepDs K mg F (List.replicate n xs).flatten (List.replicate n ys).flatten
  | 0 => .nil
  | n + 1 => by
    rw [List.replicate_succ, List.replicate_succ, List.flatten_cons, List.flatten_cons]
    exact r.append (RepDs.rep r n)
theorem RepDs.ints : ∀ {ns : List Int}, RepDs K mg F (ns.map D.int) (ns.map V.int)
  | [] => .nil
  | n :: ns => .cons (.int n) RepDs.ints
theorem RepD.of_int {i : Int} {v : V} (r : RepD K mg F (.int i) v) : v = .int i := by cases r; rfl
theorem RepD.of_bl {i : Bool} {v : V} (r : RepD K mg F (.bl i) v) : v = .bl i := by cases r; rfl
theorem RepD.of_str {i : Str} {v : V} (r : RepD K mg F (.str i) v) : v = .str i := by cases r; rfl
theorem RepD.of_non {v : V} (r : RepD K mg F .non v) : v = .non := by cases r; rfl
end
/-- the world: what is never changed; where the store's things stand; the held exception; what is another's now -/
structure Wd where
  fz : Hp
  mu : List Addr
  hx : Option (Nat × Addr)
  fr : Hp
structure Wd.le (a b : Wd) : Prop where
  s : Same a.fz b.fz
  m : ∃ t, b.mu = a.mu ++ t
  h : b.hx = a.hx
  f : b.fr = a.fr
/-- .. whatever is another's -/
structure Wd.lo (a b : Wd) : Prop where
  s : Same a.fz b.fz
  m : ∃ t, b.mu = a.mu ++ t
  h : b.hx = a.hx
theorem Wd.le.lo {a b : Wd} (x : a.le b) : a.lo b := ⟨x.s, x.m, x.h⟩
theorem Wd.le.refl (a : Wd) : a.le a := ⟨Same.refl _, ⟨[], by simp⟩, rfl, rfl⟩
theorem Wd.le.trans {a b c : Wd} (x : a.le b) (y : b.le c) : a.le c := by
  obtain ⟨s1, ⟨t1, m1⟩, h1, f1⟩ := x
  obtain ⟨s2, ⟨t2, m2⟩, h2, f2⟩ := y
  exact ⟨s1.trans s2, ⟨t1 ++ t2, by rw [m2, m1, List.append_assoc]⟩, h2.trans h1, f2.trans f1⟩
theorem Wd.lo.get {a b : Wd} (x : a.lo b) {k : Nat} {p : Addr} (h : a.mu[k]? = some p) : b.mu[k]? = some p := by
  obtain ⟨t, m⟩ := x.m
  rw [m, List.getElem?_append_left (List.getElem?_eq_some_iff.mp h).1]
  exact h
mutual
inductive RepW (K : PySem.W.Frag) (mg : Str → Option Value) (ω : Wd) : W → V → Prop
  | d {x : D} {v : V} : RepD K mg ω.fz x v → RepW K mg ω (.d x) v
  | loc {k : Nat} {a : Addr} : ω.mu[k]? = some a → RepW K mg ω (.loc k) (.ref a)
  | at_ (a : Addr) : RepW K mg ω (.at_ a) (.ref a)
  | tupW {a : Addr} {xs : List W} {ys : List V} : SqT K ω.fz a ys → RepWs K mg ω xs ys → RepW K mg ω (.tupW xs) (.ref a)
inductive RepWs (K : PySem.W.Frag) (mg : Str → Option Value) (ω : Wd) : List W → List V → Prop
  | nil : RepWs K mg ω [] []
  | cons {x : W} {y : V} {xs : List W} {ys : List V} : RepW K mg ω x y → RepWs K mg ω xs ys → RepWs K mg ω (x :: xs) (y :: ys)
end
section
variable {K : PySem.W.Frag} {mg : Str → Option Value} {ω ω' : Wd} {H H' : Hp}
mutual
theorem RepW.mono0 (m : ω.lo ω') : ∀ {x : W} {v : V}, RepW K mg ω x v → RepW K mg ω' x v
  | _, _, .d h => .d (h.mono m.s)
  | _, _, .loc h => .loc (m.get h)
  | _, _, .at_ a => .at_ a
  | _, _, .tupW h r => .tupW (Same.seqT m.s h) (RepWs.mono0 m r)
theorem RepWs.mono0 (m : ω.lo ω') : ∀ {x : List W} {v : List V}, RepWs K mg ω x v → RepWs K mg ω' x v
  | _, _, .nil => .nil
  | _, _, .cons h r => .cons (RepW.mono0 m h) (RepWs.mono0 m r)
end
theorem RepW.mono (m : ω.le ω') {x : W} {v : V} (r : RepW K mg ω x v) : RepW K mg ω' x v := r.mono0 m.lo
theorem RepWs.mono (m : ω.le ω') {x : List W} {v : List V} (r : RepWs K mg ω x v) : RepWs K mg ω' x v := r.mono0 m.lo
theorem RepW.of_d {x : D} {v : V} (r : RepW K mg ω (.d x) v) : RepD K mg ω.fz x v := by cases r; assumption
theorem RepWs.length : ∀ {xs : List W} {ys : List V}, RepWs K mg ω xs ys → xs.length = ys.length
  | _, _, .nil => rfl
  | _, _, .cons _ r => by rw [List.length_cons, List.length_cons, RepWs.length r]
theorem RepWs.allD : ∀ {ws : List W} {ys : List V} {xs : List D}, RepWs K mg ω ws ys → allD ws = some xs → RepDs K mg ω.fz xs ys
  | _, _, _, .nil, e => by cases e; exact .nil
  | _, _, xs, .cons (x := .d x) h r, e => by
    have e' : (Q.allD _).map (x :: ·) = some xs := e
    obtain ⟨zs, e1, rfl⟩ := Option.map_eq_some_iff.mp e'
    exact .cons h.of_d (RepWs.allD r e1)
  | _, _, _, .cons (x := .loc k) h r, e => by cases e
  | _, _, _, .cons (x := .at_ k) h r, e => by cases e
  | _, _, _, .cons (x := .tupW k) h r, e => by cases e
end
abbrev RepTs (K : PySem.W.Frag) (mg : Str → Option Value) (F : Hp) : List (List Key × D) → List (List Key × V) → Prop := Paired fun p q => p.1 = q.1 ∧ RepD K mg F p.2 q.2
abbrev RepFs (K : PySem.W.Frag) (mg : Str → Option Value) (ω : Wd) : List (Str × W) → List (Str × V) → Prop := Paired fun p q => p.1 = q.1 ∧ RepW K mg ω p.2 q.2
section
variable {K : PySem.W.Frag} {mg : Str → Option Value} {ω ω' : Wd} {F F' : Hp}
theorem RepTs.mono (m : Same F F') {xs : List (List Key × D)} {ys : List (List Key × V)} (r : RepTs K mg F xs ys) : RepTs K mg F' xs ys := Paired.mapP r fun _ _ z => ⟨z.1, z.2.mono m⟩
theorem RepFs.mono (m : ω.lo ω') {xs : List (Str × W)} {ys : List (Str × V)} (r : RepFs K mg ω xs ys) : RepFs K mg ω' xs ys := Paired.mapP r fun _ _ z => ⟨z.1, z.2.mono0 m⟩
theorem RepTs.val (k : List Key) {xs : List (List Key × D)} {ys : List (List Key × V)} (r : RepTs K mg F xs ys) : (valD xs k = none ∧ valV ys k = none) ∨ ∃ d v, valD xs k = some d ∧ valV ys k = some v ∧ RepD K mg F d v := by
  induction r with
  | nil => exact .inl ⟨rfl, rfl⟩
  | @cons p q xs ys h t ih =>
    obtain ⟨h1, h2⟩ := h
    by_cases e : p.1 = k
    · exact .inr ⟨p.2, q.2, by simp [valD, e], by simp [valV, h1 ▸ e], h2⟩
    · have e' : ¬ q.1 = k := h1 ▸ e
      have e1 : valD (p :: xs) k = valD xs k := by simp [valD, List.find?_cons, e]
      rw [e1, valV_neg e']
      exact ih
theorem RepTs.put (k : List Key) {d : D} {v : V} (n : RepD K mg F d v) {xs : List (List Key × D)} {ys : List (List Key × V)} (r : RepTs K mg F xs ys) : RepTs K mg F (putD xs k d) (putK ys k v) := by
  have a : (xs.any fun kv => decide (kv.1 = k)) = (ys.any fun kv => decide (kv.1 = k)) := by
    induction r with
    | nil => rfl
    | cons h t ih => rw [List.any_cons, List.any_cons, ih, h.1]
  unfold putD putK
  rw [a]
  by_cases c : (ys.any fun kv => decide (kv.1 = k)) = true
  · rw [if_pos c, if_pos c]
    clear a c
    induction r with
    | nil => exact .nil
    | @cons p q xs ys h t ih =>
      rw [List.map_cons, List.map_cons]
      refine .cons ?_ ih
      obtain ⟨h1, h2⟩ := h
      by_cases e : p.1 = k
      · rw [if_pos e, if_pos (h1 ▸ e)]; exact ⟨h1, n⟩
      · rw [if_neg e, if_neg (h1 ▸ e)]; exact ⟨h1, h2⟩
  · rw [if_neg c, if_neg c]
    exact Paired.snoc r ⟨rfl, n⟩
theorem RepTs.length {xs : List (List Key × D)} {ys : List (List Key × V)} (r : RepTs K mg F xs ys) : xs.length = ys.length := Paired.length r
theorem RepFs.length {xs : List (Str × W)} {ys : List (Str × V)} (r : RepFs K mg ω xs ys) : xs.length = ys.length := Paired.length r
theorem RepFs.look (x : Str) {xs : List (Str × W)} {ys : List (Str × V)} (r : RepFs K mg ω xs ys) : (xs.lookup x = none ∧ ys.lookup x = none) ∨ ∃ w v, xs.lookup x = some w ∧ ys.lookup x = some v ∧ RepW K mg ω w v := by
  induction r with
  | nil => exact .inl ⟨rfl, rfl⟩
  | @cons p q xs ys h t ih =>
    obtain ⟨h1, h2⟩ := h
    obtain ⟨p1, p2⟩ := p
    obtain ⟨q1, q2⟩ := q
    dsimp only at h1 h2
    subst h1
    by_cases e : x = p1
    · subst e
      exact .inr ⟨p2, q2, by simp [List.lookup], by simp [List.lookup], h2⟩
    · have hb : (x == p1) = false := beq_eq_false_iff_ne.mpr e
      simp only [List.lookup, hb]
      exact ih
theorem RepFs.put (x : Str) {w : W} {v : V} (n : RepW K mg ω w v) {xs : List (Str × W)} {ys : List (Str × V)} (r : RepFs K mg ω xs ys) : RepFs K mg ω (putFW x w xs) (putF x v ys) := by
  induction r with
  | nil => exact .cons ⟨rfl, n⟩ .nil
  | @cons p q xs ys h t ih =>
    obtain ⟨h1, h2⟩ := h
    obtain ⟨p1, p2⟩ := p
    obtain ⟨q1, q2⟩ := q
    dsimp only at h1 h2
    subst h1
    rw [show putF x v ((p1, q2) :: ys) = (if p1 = x then (p1, v) :: ys else (p1, q2) :: putF x v ys) from rfl]
    rw [show putFW x w ((p1, p2) :: xs) = (if p1 = x then (p1, w) :: xs else (p1, p2) :: putFW x w xs) from rfl]
    by_cases e : p1 = x
    · rw [if_pos e, if_pos e]; exact .cons ⟨rfl, n⟩ t
    · rw [if_neg e, if_neg e]; exact .cons ⟨rfl, h2⟩ ih
end
/-- what stands at the address of a thing of the store -/
inductive RepO (K : PySem.W.Frag) (mg : Str → Option Value) (ω : Wd) (H : Hp) : O → Addr → Prop
  | lst {a : Addr} {xs : List D} {ys : List V} : H a = some (.lst ys) → RepDs K mg ω.fz xs ys → RepO K mg ω H (.lst xs) a
  | dct {a : Addr} {kvs : List (Key × D)} {vs : List (Key × V)} : H a = some (.dK vs) → RepKs K mg ω.fz kvs vs → RepO K mg ω H (.dct kvs) a
  | dT {a : Addr} {kvs : List (List Key × D)} {vs : List (List Key × V)} : H a = some (.dT vs) → RepTs K mg ω.fz kvs vs → RepO K mg ω H (.dT kvs) a
  | ins {a C dx : Addr} {fs : List (Str × W)} {vs : List (Str × V)} : mg "Hall" = some (.ref C) → H a = some (.ins C dx vs) → RepFs K mg ω fs vs → RepO K mg ω H (.ins fs) a
  | dead {a : Addr} {v : HO} : H a = some v → RepO K mg ω H .dead a
theorem RepO.there {K : PySem.W.Frag} {mg : Str → Option Value} {ω : Wd} {H : Hp} {o : O} {a : Addr} (r : RepO K mg ω H o a) : ∃ v, H a = some v := by
  cases r with
  | lst e _ => exact ⟨_, e⟩
  | dct e _ => exact ⟨_, e⟩
  | dT e _ => exact ⟨_, e⟩
  | ins _ e _ => exact ⟨_, e⟩
  | dead e => exact ⟨_, e⟩
def alive : O → Bool
  | .dead => false
  | _ => true
structure HRep (K : PySem.W.Frag) (mg : Str → Option Value) (ω : Wd) (S : Store) (H : Hp) : Prop where
  fz : Same ω.fz H
  len : ω.mu.length = S.length
  nd : ω.mu.Nodup
  obj : ∀ (k : Nat) (o : O) (a : Addr), S[k]? = some o → ω.mu[k]? = some a → RepO K mg ω H o a
  nfz : ∀ (k : Nat) (o : O) (a : Addr), S[k]? = some o → alive o = true → ω.mu[k]? = some a → ω.fz a = none
  fr : Same ω.fr H
  nfr : ∀ (k : Nat) (a : Addr), ω.mu[k]? = some a → ω.fr a = none
  nff : ∀ (a : Addr) (v : HO), ω.fr a = some v → ω.fz a = none
/-- new things came, nothing else changed; those that are known of F' stand in H' -/
structure Grow (F H F' H' : Hp) : Prop where
  s : Same F' H'
  o : ∀ a v, H a = some v → H' a = some v ∧ F' a = F a
section
variable {K : PySem.W.Frag} {mg : Str → Option Value} {ω ω' : Wd} {F H F' H' F2 H2 : Hp} {S : Store}
theorem Grow.refl (s : Same F H) : Grow F H F H := ⟨s, fun _ _ e => ⟨e, rfl⟩⟩
theorem Grow.trans (x : Grow F H F' H') (y : Grow F' H' F2 H2) : Grow F H F2 H2 :=
  ⟨y.s, fun a v e => ⟨(y.o a v (x.o a v e).1).1, (y.o a v (x.o a v e).1).2.trans (x.o a v e).2⟩⟩
theorem Grow.same (s : Same F H) (g : Grow F H F' H') : Same F F' := fun a v e => ((g.o a v (s a v e)).2).trans e
theorem Grow.sameH (g : Grow F H F' H') : Same H H' := fun a v e => (g.o a v e).1
/-- a new thing, known from now on -/
theorem Grow.new (s : Same F H) {p : Addr} {o : HO} (h : H p = none) : Grow F H (upd F p o) (upd H p o) := by
  refine ⟨fun a v e => ?_, fun a v e => ?_⟩
  · by_cases q : a = p
    · subst q; rw [upd_same] at e ⊢; exact e
    · rw [upd_ne q] at e ⊢; exact s a v e
  · have q : a ≠ p := ne_of_none e h
    exact ⟨by rw [upd_ne q]; exact e, upd_ne q⟩
theorem Grow.wd (s : Same ω.fz H) (g : Grow ω.fz H F' H') : ω.le { ω with fz := F' } := ⟨g.same s, ⟨[], by simp⟩, rfl, rfl⟩
theorem RepO.mono {o : O} {a : Addr} (m : ω.lo ω') (h : ∀ v, H a = some v → H' a = some v) (r : RepO K mg ω H o a) : RepO K mg ω' H' o a := by
  cases r with
  | lst e q => exact .lst (h _ e) (q.mono m.s)
  | dct e q => exact .dct (h _ e) (q.mono m.s)
  | dT e q => exact .dT (h _ e) (RepTs.mono m.s q)
  | ins e1 e2 q => exact .ins e1 (h _ e2) (RepFs.mono m q)
  | dead e => exact .dead (h _ e)
theorem HRep.grow (h : HRep K mg ω S H) (g : Grow ω.fz H F' H') : HRep K mg { ω with fz := F' } S H' := by
  refine ⟨g.s, h.len, h.nd, fun k o a e1 e2 => (h.obj k o a e1 e2).mono (g.wd h.fz).lo (fun v e => (g.o a v e).1), fun k o a e1 e2 e3 => ?_, fun a v e => (g.o a v (h.fr a v e)).1, h.nfr, fun a v e => ((g.o a v (h.fr a v e)).2).trans (h.nff a v e)⟩
  obtain ⟨v, e⟩ := (h.obj k o a e1 e3).there
  exact ((g.o a _ e).2).trans (h.nfz k _ a e1 e2 e3)
theorem HRep.at (h : HRep K mg ω S H) {k : Nat} {o : O} (e : S[k]? = some o) : ∃ a, ω.mu[k]? = some a ∧ RepO K mg ω H o a := by
  have hk : k < ω.mu.length := by rw [h.len]; exact (List.getElem?_eq_some_iff.mp e).1
  exact ⟨ω.mu[k], by simp [hk], h.obj k o _ e (by simp [hk])⟩
theorem nodup_at : ∀ {l : List Addr} {i j : Nat} {a : Addr}, l.Nodup → l[i]? = some a → l[j]? = some a → i = j
  | [], _, _, _, _, h, _ => by simp at h
  | x :: l, 0, 0, _, _, _, _ => rfl
  | x :: l, 0, j + 1, a, nd, h1, h2 => by
    simp at h1 h2; subst h1
    exact absurd (List.mem_of_getElem? h2) (List.nodup_cons.mp nd).1
  | x :: l, i + 1, 0, a, nd, h1, h2 => by
    simp at h1 h2; subst h2
    exact absurd (List.mem_of_getElem? h1) (List.nodup_cons.mp nd).1
  | x :: l, i + 1, j + 1, a, nd, h1, h2 => by
    simp at h1 h2
    rw [nodup_at (List.nodup_cons.mp nd).2 h1 h2]
/-- a live thing of the store is changed in place -/
theorem HRep.put (h : HRep K mg ω S H) {k : Nat} {o o' : O} {a : Addr} {u : HO} (e : S[k]? = some o) (al : alive o = true) (ea : ω.mu[k]? = some a) (r : RepO K mg ω (upd H a u) o' a) : HRep K mg ω (S.set k o') (upd H a u) := by
  have fa := h.nfz k o a e al ea
  refine ⟨fun b v q => ?_, by rw [List.length_set]; exact h.len, h.nd, fun j p b e1 e2 => ?_, fun j p b e1 e2 e3 => ?_, fun b v q => ?_, h.nfr, h.nff⟩
  · have ne : b ≠ a := ne_of_none q fa
    rw [upd_ne ne]; exact h.fz b v q
  · by_cases q : j = k
    · subst q
      rw [ea] at e2; cases e2
      rw [List.getElem?_set_self (List.getElem?_eq_some_iff.mp e).1] at e1; cases e1
      exact r
    · rw [List.getElem?_set_ne (Ne.symm q)] at e1
      have nb : b ≠ a := fun z => q (nodup_at h.nd (z ▸ e2) ea)
      exact (h.obj j p b e1 e2).mono (Wd.le.refl _).lo fun v z => by rw [upd_ne nb]; exact z
  · by_cases q : j = k
    · subst q; rw [ea] at e3; cases e3; exact fa
    · rw [List.getElem?_set_ne (Ne.symm q)] at e1
      exact h.nfz j p b e1 e2 e3
  · have ne : b ≠ a := ne_of_none q (h.nfr k a ea)
    rw [upd_ne ne]; exact h.fr b v q
/-- a new thing of the store -/
theorem HRep.push (h : HRep K mg ω S H) {p : Addr} {u : HO} {o : O} (hp : H p = none) (r : RepO K mg { ω with mu := ω.mu ++ [p] } (upd H p u) o p) : HRep K mg { ω with mu := ω.mu ++ [p] } (S ++ [o]) (upd H p u) := by
  have fp : ω.fz p = none := by
    cases q : ω.fz p with
    | none => rfl
    | some v => rw [h.fz p v q] at hp; cases hp
  have le : ω.le { ω with mu := ω.mu ++ [p] } := ⟨Same.refl _, ⟨[p], rfl⟩, rfl, rfl⟩
  have rp : ω.fr p = none := by
    cases q : ω.fr p with
    | none => rfl
    | some v => rw [h.fr p v q] at hp; cases hp
  have pm : p ∉ ω.mu := fun m => by
    obtain ⟨k, hk, e⟩ := List.getElem_of_mem m
    have e2 : ω.mu[k]? = some p := by rw [List.getElem?_eq_getElem hk, e]
    have hk' : k < S.length := by rw [← h.len]; exact hk
    obtain ⟨v, q⟩ := (h.obj k S[k] p (by simp [hk']) e2).there
    rw [q] at hp; cases hp
  refine ⟨fun b v q => ?_, by simp [h.len], ?_, fun j q b e1 e2 => ?_, fun j q b e1 e2 e3 => ?_, fun b v q => ?_, fun j b e => ?_, h.nff⟩
  · have ne : b ≠ p := ne_of_none q fp
    rw [upd_ne ne]; exact h.fz b v q
  · rw [List.nodup_append]
    exact ⟨h.nd, by simp, fun x hx y hy => by simp at hy; subst hy; exact fun z => pm (z ▸ hx)⟩
  · by_cases lt : j < S.length
    · rw [List.getElem?_append_left lt] at e1
      have e2' : ω.mu[j]? = some b := by
        have : (ω.mu ++ [p])[j]? = some b := e2
        rwa [List.getElem?_append_left (by rw [h.len]; exact lt)] at this
      have nb : b ≠ p := fun z => pm (z ▸ List.mem_of_getElem? e2')
      exact (h.obj j q b e1 e2').mono le.lo fun v z => by rw [upd_ne nb]; exact z
    · have hj : j = S.length := by
        have := (List.getElem?_eq_some_iff.mp e1).1
        simp at this; omega
      subst hj
      have e2' : (ω.mu ++ [p])[S.length]? = some b := e2
      rw [← h.len, List.getElem?_append_right (Nat.le_refl _)] at e2'
      rw [List.getElem?_append_right (Nat.le_refl _)] at e1
      simp at e1 e2'
      subst e1; subst e2'
      exact r
  · by_cases lt : j < S.length
    · rw [List.getElem?_append_left lt] at e1
      have e3' : ω.mu[j]? = some b := by
        have : (ω.mu ++ [p])[j]? = some b := e3
        rwa [List.getElem?_append_left (by rw [h.len]; exact lt)] at this
      exact h.nfz j q b e1 e2 e3'
    · have hj : j = S.length := by
        have := (List.getElem?_eq_some_iff.mp e1).1
        simp at this; omega
      subst hj
      have e3' : (ω.mu ++ [p])[S.length]? = some b := e3
      rw [← h.len, List.getElem?_append_right (Nat.le_refl _)] at e3'
      simp at e3'
      subst e3'
      exact fp
  · have ne : b ≠ p := ne_of_none q rp
    rw [upd_ne ne]; exact h.fr b v q
  · have e' : (ω.mu ++ [p])[j]? = some b := e
    by_cases lt : j < ω.mu.length
    · rw [List.getElem?_append_left lt] at e'
      exact h.nfr j b e'
    · have hj : j = ω.mu.length := by
        have := (List.getElem?_eq_some_iff.mp e').1
        simp at this; omega
      subst hj
      rw [List.getElem?_append_right (Nat.le_refl _)] at e'
      simp at e'
      subst e'
      exact rp
/-- another's thing is laid, or changed -/
theorem HRep.other (h : HRep K mg ω S H) {p : Addr} {o : HO} (fp : ω.fz p = none) (np : ∀ k : Nat, ω.mu[k]? ≠ some p) : HRep K mg { ω with fr := upd ω.fr p o } S (upd H p o) := by
  refine ⟨fun b v q => ?_, h.len, h.nd, fun k u a e1 e2 => ?_, h.nfz, fun b v q => ?_, fun k a e => ?_, fun b v q => ?_⟩
  · rw [upd_ne (ne_of_none q fp)]; exact h.fz b v q
  · have e2' : ω.mu[k]? = some a := e2
    have na : a ≠ p := fun z => np k (z ▸ e2')
    have lo : ω.lo { ω with fr := upd ω.fr p o } := ⟨Same.refl _, ⟨[], by simp⟩, rfl⟩
    exact (h.obj k u a e1 e2').mono lo fun v z => by rw [upd_ne na]; exact z
  · have q' : upd ω.fr p o b = some v := q
    by_cases z : b = p
    · subst z; rw [upd_same] at q' ⊢; exact q'
    · rw [upd_ne z] at q' ⊢; exact h.fr b v q'
  · have e2' : ω.mu[k]? = some a := e
    have na : a ≠ p := fun z => np k (z ▸ e2')
    show upd ω.fr p o a = none
    rw [upd_ne na]
    exact h.nfr k a e2'
  · have q' : upd ω.fr p o b = some v := q
    by_cases z : b = p
    · subst z; exact fp
    · rw [upd_ne z] at q'; exact h.nff b v q'
/-- another's thing is known from now on -/
theorem HRep.close (h : HRep K mg ω S H) {fr : Hp} {p : Addr} {o : HO} (e : ω.fr = upd fr p o) (hp : fr p = none) : HRep K mg { ω with fr := fr, fz := upd ω.fz p o } S H := by
  have fp : ω.fz p = none := h.nff p o (by rw [e, upd_same])
  have np : ∀ k : Nat, ω.mu[k]? ≠ some p := fun k q => by
    have := h.nfr k p q
    rw [e, upd_same] at this; cases this
  refine ⟨fun b v q => ?_, h.len, h.nd, fun k u a e1 e2 => ?_, fun k u a e1 e2 e3 => ?_, fun b v q => ?_, fun k a e1 => ?_, fun b v q => ?_⟩
  · have q' : upd ω.fz p o b = some v := q
    by_cases z : b = p
    · subst z
      refine h.fr b v ?_
      rw [e]
      rw [upd_same] at q' ⊢
      exact q'
    · rw [upd_ne z] at q'; exact h.fz b v q'
  · have lo : ω.lo { ω with fr := fr, fz := upd ω.fz p o } := ⟨fun b v q => by
      show upd ω.fz p o b = some v
      rw [upd_ne (ne_of_none q fp)]; exact q, ⟨[], by simp⟩, rfl⟩
    exact (h.obj k u a e1 e2).mono lo fun v z => z
  · have e3' : ω.mu[k]? = some a := e3
    have na : a ≠ p := fun z => np k (z ▸ e3')
    show upd ω.fz p o a = none
    rw [upd_ne na]
    exact h.nfz k u a e1 e2 e3'
  · have nb : b ≠ p := ne_of_none q hp
    refine h.fr b v ?_
    rw [e, upd_ne nb]; exact q
  · have e1' : ω.mu[k]? = some a := e1
    have na : a ≠ p := fun z => np k (z ▸ e1')
    have := h.nfr k a e1'
    rw [e, upd_ne na] at this
    exact this
  · have nb : b ≠ p := ne_of_none q hp
    show upd ω.fz p o b = none
    rw [upd_ne nb]
    refine h.nff b v ?_
    rw [e, upd_ne nb]; exact q
end
end Q
set_option Elab.async false
set_option maxRecDepth 100000
set_option linter.all false
set_option maxHeartbeats 1000000
/-! Readings by the small reckoner; what operators come to. -/
namespace Q
open PySem PySem.Spec PyProof.Rows L2
section
variable (K : PySem.W.Frag) (mg : Str → Option Value) (cl : Nat → Addr) (Wx : WX) (σ : L2.St)
def Post {α : Type} (ω : Wd) (r : R α) (P : Wd → Store → Hp → α → Prop) : Prop := match r with
  | .ok v S' => ∀ (ω' : Wd) (H' : Hp), ω.le ω' → HRep K mg ω' S' H' → P ω' S' H' v
  | .exc c S' => ∀ (ω' : Wd) (H' : Hp), ω.le ω' → HRep K mg ω' S' H' → Wx (.ref (cl c)) none σ H'
  | .stuck => False
end
section
variable {K : PySem.W.Frag} {mg : Str → Option Value} {cl : Nat → Addr} {Wx : WX} {σ : L2.St}
theorem Post.mono {α : Type} {ω : Wd} {r : R α} {P P' : Wd → Store → Hp → α → Prop} (h : Post K mg cl Wx σ ω r P)
    (k : ∀ (ω' : Wd) (S' : Store) (H' : Hp) (v : α), ω.le ω' → HRep K mg ω' S' H' → P ω' S' H' v → P' ω' S' H' v) : Post K mg cl Wx σ ω r P' := by
  cases r with
  | ok v S' => exact fun ω' H' l hr => k ω' S' H' v l hr (h ω' H' l hr)
  | exc c S' => exact h
  | stuck => exact h
theorem Post.le {α : Type} {ω ω1 : Wd} {r : R α} {P : Wd → Store → Hp → α → Prop} (h : Post K mg cl Wx σ ω r P) (l : ω.le ω1) : Post K mg cl Wx σ ω1 r P := by
  cases r with
  | ok v S' => exact fun ω' H' l' hr => h ω' H' (l.trans l') hr
  | exc c S' => exact fun ω' H' l' hr => h ω' H' (l.trans l') hr
  | stuck => exact h
theorem Post.bind {α β : Type} {ω : Wd} {r : R α} {f : α → Store → R β} {P : Wd → Store → Hp → β → Prop} (h : Post K mg cl Wx σ ω (r.bind f) P) :
    Post K mg cl Wx σ ω r fun ω' S' H' v => Post K mg cl Wx σ ω' (f v S') P := by
  cases r with
  | ok v S' => exact fun ω' H' l hr => Post.le (r := f v S') h l
  | exc c S' => exact h
  | stuck => exact h
end
/-- the names as they stand -/
structure Sl (K : PySem.W.Frag) (mg : Str → Option Value) (ω : Wd) (ρ : Env) (σ : L2.St) : Prop where
  len : ρ.length = σ.length
  at_ : ∀ (i : Nat) (w : W), ρ[i]? = some (some w) → ∃ x, σ[i]? = some (some x) ∧ RepW K mg ω w x
section
variable {K : PySem.W.Frag} {mg : Str → Option Value} {ω ω' : Wd} {ρ : Env} {σ : L2.St}
theorem Sl.mono (s : Sl K mg ω ρ σ) (l : ω.le ω') : Sl K mg ω' ρ σ := ⟨s.len, fun i w e => by
  obtain ⟨x, h1, h2⟩ := s.at_ i w e
  exact ⟨x, h1, h2.mono l⟩⟩
theorem Sl.set (s : Sl K mg ω ρ σ) (i : Nat) {w : W} {x : V} (r : RepW K mg ω w x) : Sl K mg ω (ρ.set i (some w)) (σ.set i (some x)) := by
  refine ⟨by simp [s.len], fun j v e => ?_⟩
  by_cases q : i = j
  · subst q
    have hi : i < ρ.length := by
      have := (List.getElem?_eq_some_iff.mp e).1
      simpa using this
    rw [List.getElem?_set_self hi] at e
    cases e
    exact ⟨x, by rw [List.getElem?_set_self (by rw [← s.len]; exact hi)], r⟩
  · rw [List.getElem?_set_ne q] at e ⊢
    exact s.at_ j v e
theorem Sl.setN (s : Sl K mg ω ρ σ) (i : Nat) : Sl K mg ω (ρ.set i none) (σ.set i none) := by
  refine ⟨by simp [s.len], fun j v e => ?_⟩
  by_cases q : i = j
  · subst q
    have hi : i < ρ.length := by
      have := (List.getElem?_eq_some_iff.mp e).1
      simpa using this
    rw [List.getElem?_set_self hi] at e
    cases e
  · rw [List.getElem?_set_ne q] at e ⊢
    exact s.at_ j v e
theorem Sl.wipe (s : Sl K mg ω ρ σ) : ∀ vs : List Nat, Sl K mg ω (wipeE ρ vs) (L2.wipe σ vs)
  | [] => s
  | v :: vs => (Sl.wipe s vs).setN v
end
/-! ### the readings -/
section
variable (K : PySem.W.Frag) (mg : Str → Option Value) (cl : Nat → Addr) (Wx : WX)
def rdE (f : Env → Store → R W) : TE := fun σ H Q => ∃ ω ρ S, HRep K mg ω S H ∧ Sl K mg ω ρ σ ∧ Post K mg cl Wx σ ω (f ρ S) fun ω' _ H' w => ∀ x, RepW K mg ω' w x → Q x H'
def rdT (f : Env → Store → R Bool) : TT := fun σ H Q => ∃ ω ρ S, HRep K mg ω S H ∧ Sl K mg ω ρ σ ∧ Post K mg cl Wx σ ω (f ρ S) fun _ _ H' b => Q b H'
def rdA (f : Env → Store → R (List W)) : TA := fun σ H Q => ∃ ω ρ S, HRep K mg ω S H ∧ Sl K mg ω ρ σ ∧ Post K mg cl Wx σ ω (f ρ S) fun ω' _ H' ws => ∀ xs, RepWs K mg ω' ws xs → Q xs H'
def rdO (f : Env → Store → R (Option Int)) : TO := fun σ H Q => ∃ ω ρ S, HRep K mg ω S H ∧ Sl K mg ω ρ σ ∧ Post K mg cl Wx σ ω (f ρ S) fun _ _ H' o => Q o H'
/-- what is walked yields these, one by one -/
def Ylds (F : Hp) (items : List D) (J : L2.It) : Prop := ∀ (i : Nat) (F1 H : Hp), Same F F1 → Same F1 H →
  (∀ d, items[i]? = some d → J.go i H ∧ ∀ x H', J.yld i H x H' → ∃ F', Grow F1 H F' H' ∧ RepD K mg F' d x) ∧ (items.length ≤ i → J.stop i H)
def rdI (f : Env → Store → R (List D)) : TI := fun σ H Q => ∃ ω ρ S, HRep K mg ω S H ∧ Sl K mg ω ρ σ ∧ Post K mg cl Wx σ ω (f ρ S) fun ω' _ H' items => ∀ J, Ylds K mg ω'.fz items J → Q J H'
def rdG (t : Tg) : TG := fun v σ H Q => ∃ ω ρ S d ρ', HRep K mg ω S H ∧ Sl K mg ω ρ σ ∧ RepD K mg ω.fz d v ∧ tgD t d ρ = some ρ' ∧ ∀ σ', Sl K mg ω ρ' σ' → (∀ vs, tgIn t vs = true → L2.wipe σ' vs = L2.wipe σ vs) → Q σ' H
def rdGs (t : List Tg) : TGs := fun v σ H Q => ∃ ω ρ S d ρ', HRep K mg ω S H ∧ Sl K mg ω ρ σ ∧ RepDs K mg ω.fz d v ∧ tgDs t d ρ = some ρ' ∧ ∀ σ', Sl K mg ω ρ' σ' → (∀ vs, tgIns t vs = true → L2.wipe σ' vs = L2.wipe σ vs) → Q σ' H
end
theorem L2PE.weaken {X : Cx} {e : Expr} {t t' : TE} (h : PE X e t) (k : ∀ σ H Q, t' σ H Q → t σ H Q) : PE X e t' := ⟨fun p s σ H Q I q => h.run p s σ H Q I (k σ H Q q)⟩
theorem L2PT.weaken {X : Cx} {e : Expr} {t t' : TT} (h : PT X e t) (k : ∀ σ H Q, t' σ H Q → t σ H Q) : PT X e t' := ⟨fun p s σ H Q I q => h.run p s σ H Q I (k σ H Q q)⟩
theorem L2PW.weaken {X : Cx} {e : Expr} {t t' : TT} (h : PW X e t) (k : ∀ σ H Q, t' σ H Q → t σ H Q) : PW X e t' := ⟨fun wh p s σ H Q I q => h.run wh p s σ H Q I (k σ H Q q)⟩
theorem L2PA.weaken {X : Cx} {e : List Expr} {t t' : TA} (h : PA X e t) (k : ∀ σ H Q, t' σ H Q → t σ H Q) : PA X e t' := ⟨fun ps p s σ H Q I q => h.run ps p s σ H Q I (k σ H Q q)⟩
theorem L2PO.weaken {X : Cx} {e : Option Expr} {t t' : TO} (h : PO X e t) (k : ∀ σ H Q, t' σ H Q → t σ H Q) : PO X e t' := ⟨fun p s σ H Q I q => h.run p s σ H Q I (k σ H Q q)⟩
theorem L2PI.weaken {X : Cx} {tg e : Expr} {t t' : TI} (h : PI X tg e t) (k : ∀ σ H Q, t' σ H Q → t σ H Q) : PI X tg e t' := ⟨fun p s σ H Q I q => h.run p s σ H Q I (k σ H Q q)⟩
theorem L2PG.weaken {X : Cx} {e : Expr} {t t' : TG} (h : PG X e t) (k : ∀ v σ H Q, t' v σ H Q → t v σ H Q) : PG X e t' := ⟨fun p s σ H v u Q I r q => h.run p s σ H v u Q I r (k v σ H Q q)⟩
theorem L2PGs.weaken {X : Cx} {e : List Expr} {t t' : TGs} (h : PGs X e t) (k : ∀ v σ H Q, t' v σ H Q → t v σ H Q) : PGs X e t' := ⟨fun p s σ H v u Q I r q => h.run p s σ H v u Q I r (k v σ H Q q)⟩
/-! ### views -/
/-- what stands at a value now: its items are known for ever -/
inductive RdV (K : PySem.W.Frag) (mg : Str → Option Value) (F H : Hp) : D → V → Prop
  | rep {d : D} {v : V} : RepD K mg F d v → RdV K mg F H d v
  | lst {a : Addr} {xs : List D} {ys : List V} : H a = some (.lst ys) → RepDs K mg F xs ys → RdV K mg F H (.lst xs) (.ref a)
  | dct {a : Addr} {kvs : List (Key × D)} {vs : List (Key × V)} : H a = some (.dK vs) → RepKs K mg F kvs vs → RdV K mg F H (.dct kvs) (.ref a)
section
variable {K : PySem.W.Frag} {mg : Str → Option Value} {ω : Wd} {H : Hp} {S : Store}
theorem view_rd (h : HRep K mg ω S H) {w : W} {x : V} {d : D} (r : RepW K mg ω w x) (e : view S w = some d) : RdV K mg ω.fz H d x := by
  cases r with
  | d r => cases e; exact .rep r
  | @loc k a hk =>
    have e' : (match S[k]? with | some (O.lst xs) => some (D.lst xs) | some (O.dct kvs) => some (D.dct kvs) | _ => none) = some d := e
    cases q : S[k]? with
    | none => rw [q] at e'; cases e'
    | some o =>
      rw [q] at e'
      cases o with
      | lst xs =>
        cases e'
        cases h.obj k _ a q hk with
        | lst e1 e2 => exact .lst e1 e2
      | dct kvs =>
        cases e'
        cases h.obj k _ a q hk with
        | dct e1 e2 => exact .dct e1 e2
      | ins _ => cases e'
      | dT _ => cases e'
      | dead => cases e'
  | at_ _ => cases e
  | tupW _ _ => cases e
theorem RdV.list {F : Hp} (s : Same F H) {xs : List D} {v : V} (r : RdV K mg F H (.lst xs) v) : ∃ a ys, v = .ref a ∧ H a = some (.lst ys) ∧ RepDs K mg F xs ys := by
  cases r with
  | rep r => cases r with
    | lst h q => exact ⟨_, _, rfl, s _ _ h, q⟩
  | lst h q => exact ⟨_, _, rfl, h, q⟩
theorem RdV.of {F : Hp} {d : D} {v : V} (r : RdV K mg F H d v) (h : ∀ xs, d ≠ .lst xs) (h' : ∀ kvs, d ≠ .dct kvs := by intro _ z; cases z) : RepD K mg F d v := by
  cases r with
  | rep r => exact r
  | lst _ _ => exact absurd rfl (h _)
  | dct _ _ => exact absurd rfl (h' _)
theorem RdV.dict {F : Hp} (s : Same F H) {kvs : List (Key × D)} {v : V} (r : RdV K mg F H (.dct kvs) v) : ∃ a vs, v = .ref a ∧ H a = some (.dK vs) ∧ RepKs K mg F kvs vs := by
  cases r with
  | rep r => cases r with
    | dct h q => exact ⟨_, _, rfl, s _ _ h, q⟩
  | dct h q => exact ⟨_, _, rfl, h, q⟩
end
/-! ### operators by values -/
section
variable {X : Cx}
/-- of two things -/
def Op2 (X : Cx) (f : Value → Value → Sem Value) (op : D → D → Option D) : Prop :=
  OpR X f fun x y H Q => ∃ F d e r, Same F H ∧ RdV X.K X.mg F H d x ∧ RdV X.K X.mg F H e y ∧ op d e = some r ∧ ∀ F' H' z, Grow F H F' H' → RepD X.K X.mg F' r z → Q z H'
def Op2b (X : Cx) (f : Value → Value → Sem Value) (op : D → D → Option Bool) : Prop :=
  OpR X f fun x y H Q => ∃ F d e r, Same F H ∧ RdV X.K X.mg F H d x ∧ RdV X.K X.mg F H e y ∧ op d e = some r ∧ Q (.bl r) H
def CallD (X : Cx) (f : Value) (op : List D → Option D) : Prop :=
  CallR X f fun xs H Q => ∃ F ds r, Same F H ∧ Paired (RdV X.K X.mg F H) ds xs ∧ op ds = some r ∧ ∀ F' H' z, Grow F H F' H' → RepD X.K X.mg F' r z → Q z H'
theorem RdV.int {K : PySem.W.Frag} {mg : Str → Option Value} {F H : Hp} {i : Int} {v : V} (r : RdV K mg F H (.int i) v) : v = .int i := (r.of (fun _ z => by cases z)).of_int
theorem RdV.str {K : PySem.W.Frag} {mg : Str → Option Value} {F H : Hp} {i : Str} {v : V} (r : RdV K mg F H (.str i) v) : v = .str i := (r.of (fun _ z => by cases z)).of_str
theorem RdV.bl {K : PySem.W.Frag} {mg : Str → Option Value} {F H : Hp} {i : Bool} {v : V} (r : RdV K mg F H (.bl i) v) : v = .bl i := (r.of (fun _ z => by cases z)).of_bl
theorem RdV.tup {K : PySem.W.Frag} {mg : Str → Option Value} {F H : Hp} {xs : List D} {v : V} (r : RdV K mg F H (.tup xs) v) : ∃ a ys, v = .ref a ∧ SqT K F a ys ∧ RepDs K mg F xs ys := by
  cases r.of (fun _ z => by cases z) with
  | tup h q => exact ⟨_, _, rfl, h, q⟩
theorem RdV.scr {K : PySem.W.Frag} {mg : Str → Option Value} {F H : Hp} {xs : List Int} {v : V} (r : RdV K mg F H (.scr xs) v) : ∃ a, v = .ref a ∧ SqL K F a (xs.map V.int) := by
  cases r.of (fun _ z => by cases z) with
  | scr h => exact ⟨_, rfl, h⟩
theorem o2_add : Op2 X (binaryOp .Add) (bop .add) := by
  intro pins s σ H x y v u Q I rx ry ⟨F, d, e, r, sm, dx, ey, ho, q⟩
  cases d <;> cases e <;> try (cases ho)
  · cases dx.int; cases ey.int
    exact op_add pins s σ H _ _ v u Q I rx ry ⟨_, _, rfl, rfl, q F H _ (.refl sm) (.int _)⟩
  · rename_i i j
    cases dx.str; cases ey.str
    have ho' : (if i.length + j.length ≤ sizeLine then some (D.str (i ++ j)) else none) = some r := ho
    split at ho' <;> cases ho'
    exact op_add_str pins s σ H _ _ v u Q I rx ry ⟨_, _, rfl, rfl, by assumption, q F H _ (.refl sm) (.str _)⟩
  · rename_i xs zs
    have ho' : (if xs.length + zs.length ≤ sizeLine then some (D.tup (xs ++ zs)) else none) = some r := ho
    split at ho' <;> cases ho'
    rename_i hl
    obtain ⟨a, ys, rfl, h1, q1⟩ := dx.tup
    obtain ⟨b, ws, rfl, h2, q2⟩ := ey.tup
    refine op_catA pins s σ H _ _ v u Q I rx ry ⟨a, b, ys, ws, rfl, rfl, Same.seqT sm h1, Same.seqT sm h2, by rw [← q1.length, ← q2.length]; exact hl, fun z => ?_, fun _ z => ?_, fun _ _ p hp => ?_⟩
    · subst z
      cases q1
      exact q F H _ (.refl sm) (.tup h2 q2)
    · subst z
      cases q2
      rw [List.append_nil] at q
      exact q F H _ (.refl sm) (.tup h1 q1)
    · exact q _ _ _ (.new sm hp) (.tup (.of upd_same) ((q1.append q2).mono (Grow.same sm (.new sm hp))))
  · rename_i xs zs
    have ho' : (if xs.length + zs.length ≤ sizeLine then some (D.lst (xs ++ zs)) else none) = some r := ho
    split at ho' <;> cases ho'
    rename_i hl
    obtain ⟨a, ys, rfl, h1, q1⟩ := dx.list sm
    obtain ⟨b, ws, rfl, h2, q2⟩ := ey.list sm
    refine op_cat pins s σ H _ _ v u Q I rx ry ⟨a, b, ys, ws, rfl, rfl, h1, h2, by rw [← q1.length, ← q2.length]; exact hl, fun p hp => ?_⟩
    exact q _ _ _ (.new sm hp) (.lst upd_same ((q1.append q2).mono (Grow.same sm (.new sm hp))))
theorem o2_sub : Op2 X (binaryOp .Sub) (bop .sub) := by
  intro pins s σ H x y v u Q I rx ry ⟨F, d, e, r, sm, dx, ey, ho, q⟩
  cases d <;> cases e <;> try (cases ho)
  cases dx.int; cases ey.int
  exact op_sub pins s σ H _ _ v u Q I rx ry ⟨_, _, rfl, rfl, q F H _ (.refl sm) (.int _)⟩
theorem small_of {i : Int} (h : small i = true) : -(2 ^ 64) < i ∧ i < 2 ^ 64 := by
  unfold small at h
  simp only [Bool.and_eq_true, decide_eq_true_eq] at h
  exact h
theorem o2_mul : Op2 X (binaryOp .Mult) (bop .mul) := by
  intro pins s σ H x y v u Q I rx ry ⟨F, d, e, r, sm, dx, ey, ho, q⟩
  cases d <;> cases e <;> try (cases ho)
  · rename_i i j
    cases dx.int; cases ey.int
    have ho' : (if (small i || small j) = true then some (D.int (i * j)) else none) = some r := ho
    split at ho' <;> cases ho'
    rename_i hs
    refine op_mul pins s σ H _ _ v u Q I rx ry ⟨_, _, rfl, rfl, ?_, q F H _ (.refl sm) (.int _)⟩
    simp only [Bool.or_eq_true] at hs
    rcases hs with hs | hs
    · exact .inl (small_of hs)
    · exact .inr (small_of hs)
  · rename_i xs k
    cases ey.int
    have ho' : (if 0 < xs.length ∧ 2 ≤ k ∧ k ≤ 1000 ∧ xs.length ≤ 1000 then some (D.tup (List.replicate k.toNat xs).flatten) else none) = some r := ho
    split at ho' <;> cases ho'
    rename_i hs
    obtain ⟨a, ys, rfl, h1, q1⟩ := dx.tup
    refine op_repT pins s σ H _ _ v u Q I rx ry ⟨a, k, ys, rfl, rfl, Same.seqT sm h1, ?_, hs.2.1, hs.2.2.1, by rw [← q1.length]; exact hs.2.2.2, fun p hp => ?_⟩
    · rintro rfl
      have := q1.length
      simp at this
      subst this
      exact absurd hs.1 (by simp)
    · exact q _ _ _ (.new sm hp) (.tup (.of upd_same) ((q1.rep k.toNat).mono (Grow.same sm (.new sm hp))))
  · rename_i xs k
    cases ey.int
    have ho' : (if -(2 ^ 63) ≤ k ∧ k < 2 ^ 63 ∧ xs.length * k.toNat ≤ sizeLine then some (D.lst (List.replicate k.toNat xs).flatten) else none) = some r := ho
    split at ho' <;> cases ho'
    rename_i hs
    obtain ⟨a, ys, rfl, h1, q1⟩ := dx.list sm
    refine op_rep pins s σ H _ _ v u Q I rx ry ⟨a, k, ys, rfl, rfl, h1, hs.1, hs.2.1, by rw [← q1.length]; exact hs.2.2, fun p hp => ?_⟩
    exact q _ _ _ (.new sm hp) (.lst upd_same ((q1.rep k.toNat).mono (Grow.same sm (.new sm hp))))
theorem o2_fdiv : Op2 X (binaryOp .FloorDiv) (bop .fdiv) := by
  intro pins s σ H x y v u Q I rx ry ⟨F, d, e, r, sm, dx, ey, ho, q⟩
  cases d <;> cases e <;> try (cases ho)
  rename_i i j
  cases dx.int; cases ey.int
  have ho' : (if j ≠ 0 ∧ j.natAbs < 1073741824 then some (D.int (i.fdiv j)) else none) = some r := ho
  split at ho' <;> cases ho'
  rename_i hs
  exact op_fdivN pins s σ H _ _ v u Q I rx ry ⟨_, _, rfl, rfl, hs, q F H _ (.refl sm) (.int _)⟩
theorem o2_mod : Op2 X (binaryOp .Mod) (bop .mod) := by
  intro pins s σ H x y v u Q I rx ry ⟨F, d, e, r, sm, dx, ey, ho, q⟩
  cases d <;> cases e <;> try (cases ho)
  rename_i i j
  cases dx.int; cases ey.int
  have ho' : (if j ≠ 0 then some (D.int (i.fmod j)) else none) = some r := ho
  split at ho' <;> cases ho'
  rename_i hs
  exact op_modN pins s σ H _ _ v u Q I rx ry ⟨_, _, rfl, rfl, hs, q F H _ (.refl sm) (.int _)⟩
theorem o2_pow : Op2 X (binaryOp .Pow) (bop .pow) := by
  intro pins s σ H x y v u Q I rx ry ⟨F, d, e, r, sm, dx, ey, ho, q⟩
  cases d <;> cases e <;> try (cases ho)
  rename_i i j
  cases dx.int; cases ey.int
  have ho' : (if 0 ≤ j ∧ j ≤ 1000000 ∧ i.natAbs < 2 ^ 64 then some (D.int (i ^ j.toNat)) else none) = some r := ho
  split at ho' <;> cases ho'
  rename_i hs
  exact op_pow pins s σ H _ _ v u Q I rx ry ⟨_, _, rfl, rfl, hs, q F H _ (.refl sm) (.int _)⟩
def Bop.py : Bop → Operator
  | .add => .Add | .sub => .Sub | .mul => .Mult | .fdiv => .FloorDiv | .mod => .Mod | .pow => .Pow
theorem o2_bop : ∀ o : Bop, Op2 X (binaryOp o.py) (bop o)
  | .add => o2_add | .sub => o2_sub | .mul => o2_mul | .fdiv => o2_fdiv | .mod => o2_mod | .pow => o2_pow
/-! ### equality -/
mutual
theorem dp_of {K : PySem.W.Frag} {mg : Str → Option Value} {F H : Hp} (sm : Same F H) : ∀ {d : D} {v : V} (n : Nat), RepD K mg F d v → okd n d = true → Dp K H v (toPy d)
  | _, _, _, .non, _ => .non
  | _, _, _, .bl b, _ => .bl b
  | _, _, _, .int i, _ => .int i
  | _, _, _, .str s, _ => .str s
  | _, _, 0, .tup h r, e => by simp [okd] at e
  | _, _, n + 1, .tup h r, e => .tup (Same.seqT sm h) (dps_of sm n r (by simpa [okd] using e))
  | _, _, 0, .lst h r, e => by simp [okd] at e
  | _, _, n + 1, .lst h r, e => .lst (.of (sm _ _ h)) (dps_of sm n r (by simpa [okd] using e))
  | _, _, _, .scr h, e => .lst (sm.seq h) (dpI _)
  | _, _, 0, .fn h, e => by simp [okd] at e
  | _, _, n + 1, .fn h, e => by simp [okd] at e
  | _, _, 0, .dct h _, e => by simp [okd] at e
  | _, _, n + 1, .dct h _, e => by simp [okd] at e
theorem dps_of {K : PySem.W.Frag} {mg : Str → Option Value} {F H : Hp} (sm : Same F H) : ∀ {d : List D} {v : List V} (n : Nat), RepDs K mg F d v → okds n d = true → DpAll K H v (toPys d)
  | _, _, _, .nil, _ => .nil
  | _, _, n, .cons h r, e => by
    simp only [okds, Bool.and_eq_true] at e
    exact .cons (dp_of sm n h e.1) (dps_of sm n r e.2)
theorem dpI {K : PySem.W.Frag} {H : Hp} : ∀ (ns : List Int), DpAll K H (ns.map V.int) (ns.map PyData.int)
  | [] => .nil
  | n :: ns => .cons (.int n) (dpI ns)
end
theorem lay_ints : ∀ ns : List Int, PyData.canLayAll0 (ns.map PyData.int) = true ∧ PyData.depthAll (ns.map PyData.int) = 0
  | [] => ⟨rfl, rfl⟩
  | n :: ns => by
    have h := lay_ints ns
    simp [PyData.canLayAll0, PyData.depthAll, PyData.canLay0, PyData.depth, h.1, h.2]
mutual
theorem lay_of : ∀ (n : Nat) (d : D), okd n d = true → (toPy d).canLay0 = true ∧ (toPy d).depth ≤ n
  | _, .non, _ => ⟨rfl, Nat.zero_le _⟩
  | _, .bl _, _ => ⟨rfl, Nat.zero_le _⟩
  | _, .int _, _ => ⟨rfl, Nat.zero_le _⟩
  | _, .str s, e => by
    have e' : PyData.strOk s = true := by simpa [okd] using e
    exact ⟨by simpa [toPy, PyData.canLay0] using e', by simp [toPy, PyData.depth]⟩
  | 0, .tup xs, e => by simp [okd] at e
  | n + 1, .tup xs, e => by
    have h := lays_of n xs (by simpa [okd] using e)
    simp [toPy, PyData.canLay0, PyData.depth, h.1, h.2]
  | 0, .lst xs, e => by simp [okd] at e
  | n + 1, .lst xs, e => by
    have h := lays_of n xs (by simpa [okd] using e)
    simp [toPy, PyData.canLay0, PyData.depth, h.1, h.2]
  | 0, .scr ns, e => by simp [okd] at e
  | n + 1, .scr ns, e => by
    have h := lay_ints ns
    simp [toPy, PyData.canLay0, PyData.depth, h.1, h.2]
  | 0, .fn x, e => by simp [okd] at e
  | n + 1, .fn x, e => by simp [okd] at e
  | 0, .dct x, e => by simp [okd] at e
  | n + 1, .dct x, e => by simp [okd] at e
theorem lays_of : ∀ (n : Nat) (d : List D), okds n d = true → PyData.canLayAll0 (toPys d) = true ∧ PyData.depthAll (toPys d) ≤ n
  | _, [], _ => ⟨rfl, Nat.zero_le _⟩
  | n, x :: xs, e => by
    simp only [okds, Bool.and_eq_true] at e
    have h1 := lay_of n x e.1
    have h2 := lays_of n xs e.2
    refine ⟨by simp [toPys, PyData.canLayAll0, h1.1, h2.1], ?_⟩
    simp only [toPys, PyData.depthAll]
    omega
end
theorem shaped_of {d : D} (h : okd 9 d = true) : SeqAt.shaped (toPy d) = true := by
  have := lay_of 9 d h
  unfold SeqAt.shaped
  simp only [Bool.and_eq_true, decide_eq_true_eq]
  exact ⟨this.1, by omega⟩
theorem RdV.dp {K : PySem.W.Frag} {mg : Str → Option Value} {F H : Hp} (sm : Same F H) {d : D} {v : V} (r : RdV K mg F H d v) (e : okd 9 d = true) : Dp K H v (toPy d) := by
  cases r with
  | rep r => exact dp_of sm 9 r e
  | lst h r => exact .lst (.of h) (dps_of sm 8 r (by simpa [okd] using e))
  | dct h r => simp [okd] at e
theorem deqO_some {d e : D} {r : Bool} (h : deqO d e = some r) : okd 9 d = true ∧ okd 9 e = true ∧ PyData.eqv (toPy d) (toPy e) = r := by
  unfold deqO at h
  split at h
  · rename_i hh
    simp only [Bool.and_eq_true] at hh
    cases h
    exact ⟨hh.1, hh.2, rfl⟩
  · cases h
theorem o2_eq (hu : X.A.units + 64 < cLine) : Op2b X (compareOp .Eq) (cop .eq) := by
  intro pins s σ H x y v u Q I rx ry ⟨F, d, e, r, sm, dx, ey, ho, q⟩
  obtain ⟨h1, h2, h3⟩ := deqO_some ho
  exact op_eqD hu pins s σ H _ _ v u Q I rx ry ⟨toPy d, toPy e, dx.dp sm h1, ey.dp sm h2, shaped_of h1, shaped_of h2, by rw [h3]; exact q⟩
theorem o2_ne (hu : X.A.units + 64 < cLine) : Op2b X (compareOp .NotEq) (cop .ne) := by
  intro pins s σ H x y v u Q I rx ry ⟨F, d, e, r, sm, dx, ey, ho, q⟩
  obtain ⟨b, hb, rfl⟩ := Option.map_eq_some_iff.mp (show (deqO d e).map (!·) = some r from ho)
  obtain ⟨h1, h2, h3⟩ := deqO_some hb
  exact op_neD hu pins s σ H _ _ v u Q I rx ry ⟨toPy d, toPy e, dx.dp sm h1, ey.dp sm h2, shaped_of h1, shaped_of h2, by rw [h3]; exact q⟩
theorem o2_lt : Op2b X (compareOp .Lt) (cop .lt) := by
  intro pins s σ H x y v u Q I rx ry ⟨F, d, e, r, sm, dx, ey, ho, q⟩
  cases d <;> cases e <;> try (cases ho)
  cases dx.int; cases ey.int
  exact op_lt pins s σ H _ _ v u Q I rx ry ⟨_, _, rfl, rfl, q⟩
theorem o2_le : Op2b X (compareOp .LtE) (cop .le) := by
  intro pins s σ H x y v u Q I rx ry ⟨F, d, e, r, sm, dx, ey, ho, q⟩
  cases d <;> cases e <;> try (cases ho)
  cases dx.int; cases ey.int
  exact op_le pins s σ H _ _ v u Q I rx ry ⟨_, _, rfl, rfl, q⟩
theorem o2_gt : Op2b X (compareOp .Gt) (cop .gt) := by
  intro pins s σ H x y v u Q I rx ry ⟨F, d, e, r, sm, dx, ey, ho, q⟩
  cases d <;> cases e <;> try (cases ho)
  cases dx.int; cases ey.int
  exact op_gt pins s σ H _ _ v u Q I rx ry ⟨_, _, rfl, rfl, q⟩
theorem o2_ge : Op2b X (compareOp .GtE) (cop .ge) := by
  intro pins s σ H x y v u Q I rx ry ⟨F, d, e, r, sm, dx, ey, ho, q⟩
  cases d <;> cases e <;> try (cases ho)
  cases dx.int; cases ey.int
  exact op_ge pins s σ H _ _ v u Q I rx ry ⟨_, _, rfl, rfl, q⟩
theorem RdV.isNon {K : PySem.W.Frag} {mg : Str → Option Value} {F H : Hp} {d : D} {v : V} (r : RdV K mg F H d v) : decide (v = V.non) = isNon d := by
  cases r with
  | lst _ _ => rfl
  | dct _ _ => rfl
  | rep r => cases r <;> rfl
theorem o2_is : Op2b X (compareOp .Is) (cop .is) := by
  intro pins s σ H x y v u Q I rx ry ⟨F, d, e, r, sm, dx, ey, ho, q⟩
  cases e <;> try (cases d <;> cases ho; done)
  have ho' : some (isNon d) = some r := by cases d <;> exact ho
  cases ho'
  cases (ey.of (fun _ z => by cases z)).of_non
  refine op_isN pins s σ H _ _ v u Q I rx ry ⟨rfl, ?_⟩
  rw [dx.isNon]; exact q
theorem o2_isnot : Op2b X (compareOp .IsNot) (cop .isnot) := by
  intro pins s σ H x y v u Q I rx ry ⟨F, d, e, r, sm, dx, ey, ho, q⟩
  cases e <;> try (cases d <;> cases ho; done)
  have ho' : some (!isNon d) = some r := by cases d <;> exact ho
  cases ho'
  cases (ey.of (fun _ z => by cases z)).of_non
  refine op_notN pins s σ H _ _ v u Q I rx ry ⟨rfl, ?_⟩
  rw [dx.isNon]; exact q
/-! ### in -/
theorem flat_rep {K : PySem.W.Frag} {mg : Str → Option Value} {F : Hp} {d : D} {v : V} (r : RepD K mg F d v) (f : flat d = true) : flatV v = true := by
  cases r <;> first | rfl | cases f
theorem eqF_rep {K : PySem.W.Frag} {mg : Str → Option Value} {F : Hp} {d e : D} {v w : V} (r : RepD K mg F d v) (r' : RepD K mg F e w) (f : flat d = true) (f' : flat e = true) : eqV v w = eqF d e := by
  cases r <;> cases r' <;> first | rfl | cases f | cases f' | (simp [eqV, eqF]; done) | skip
theorem inD_rep {K : PySem.W.Frag} {mg : Str → Option Value} {F : Hp} {d : D} {v : V} (r : RepD K mg F d v) (f : flat d = true) : ∀ {xs : List D} {ys : List V}, RepDs K mg F xs ys → xs.all flat = true → ys.all flatV = true ∧ inV v ys = inD d xs
  | _, _, .nil, _ => ⟨rfl, rfl⟩
  | _, _, .cons h t, e => by
    simp only [List.all_cons, Bool.and_eq_true] at e
    obtain ⟨h1, h2⟩ := inD_rep r f t e.2
    refine ⟨by simp [flat_rep h e.1, h1], ?_⟩
    unfold inV inD at h2 ⊢
    rw [List.any_cons, List.any_cons, h2, eqF_rep h r e.1 f]
end
end Q
set_option Elab.async false
set_option maxRecDepth 100000
set_option linter.all false
set_option maxHeartbeats 1000000
/-! Sorting: whole numbers, rows of whole numbers. -/
namespace Q
open PySem PySem.Spec PyProof.Rows L2 SrtO
section
variable {α : Type} {lt : α → α → Bool}
theorem insI_perm (x : α) : ∀ l : List α, (insI lt x l).Perm (x :: l)
  | [] => .refl _
  | y :: r => by
    unfold insI
    split
    · exact ((insI_perm x r).cons y).trans (.swap x y r)
    · exact .refl _
theorem sortB_perm : ∀ l : List α, (sortB lt l).Perm l
  | [] => .refl _
  | x :: r => (insI_perm x _).trans ((sortB_perm r).cons x)
theorem insI_srtd (O : Swo lt) (x : α) : ∀ {l : List α}, Srtd lt l → Srtd lt (insI lt x l)
  | [], _ => List.pairwise_cons.mpr ⟨by simp, .nil⟩
  | y :: r, h => by
    have h1 := List.pairwise_cons.mp h
    unfold insI
    by_cases c : lt y x = true
    · rw [if_pos c]
      refine List.pairwise_cons.mpr ⟨fun z hz => ?_, insI_srtd O x h1.2⟩
      rcases List.mem_cons.mp ((insI_perm x r).mem_iff.mp hz) with rfl | hz
      · exact O.asym y z c
      · exact h1.1 z hz
    · have c' : lt y x = false := by simpa using c
      rw [if_neg c]
      refine List.pairwise_cons.mpr ⟨fun z hz => ?_, h⟩
      rcases List.mem_cons.mp hz with rfl | hz
      · exact c'
      · exact O.tr x y z c' (h1.1 z hz)
theorem sortB_srtd (O : Swo lt) : ∀ l : List α, Srtd lt (sortB lt l)
  | [] => .nil
  | x :: r => insI_srtd O x (sortB_srtd O r)
theorem insI_cls (O : Swo lt) (x z : α) : ∀ l : List α, (insI lt x l).filter (eqv lt z) = (x :: l).filter (eqv lt z)
  | [] => rfl
  | y :: r => by
    unfold insI
    by_cases c : lt y x = true
    · rw [if_pos c]
      have no : ¬ (eqv lt z x = true ∧ eqv lt z y = true) := by
        rintro ⟨e1, e2⟩
        obtain ⟨a1, a2⟩ := eqv_iff.mp e1
        obtain ⟨b1, b2⟩ := eqv_iff.mp e2
        have := O.tr x z y a1 b2
        rw [c] at this; cases this
      have ih := insI_cls O x z r
      rcases bcase (eqv lt z x) with e1 | e1
      · have e2 : eqv lt z y = false := by
          rcases bcase (eqv lt z y) with e2 | e2
          · exact absurd ⟨e1, e2⟩ no
          · exact e2
        simp only [List.filter_cons, e1, e2, if_true] at ih ⊢
        simpa using ih
      · simp only [List.filter_cons, e1] at ih ⊢
        simp only [Bool.false_eq_true, if_false] at ih ⊢
        rw [ih]
    · rw [if_neg c]
theorem sortB_stb (O : Swo lt) : ∀ l : List α, Stb lt (sortB lt l) l
  | [] => Stb.refl _
  | x :: r => ⟨sortB_perm _, fun z => by
    show (insI lt x (sortB lt r)).filter _ = _
    rw [insI_cls O x z, List.filter_cons, List.filter_cons, (sortB_stb O r).cls z]⟩
/-- there is just one such list -/
theorem sortB_uniq (O : Swo lt) {l m : List α} (h : Srtd lt l) (st : Stb lt l m) : l = sortB lt m :=
  stb_uniq O h (sortB_srtd O m) ⟨st.perm.trans (sortB_perm m).symm, fun z => (st.cls z).trans ((sortB_stb O m).cls z).symm⟩
end
theorem swo_I : Swo ltI := by
  refine ⟨fun x y h => ?_, fun x y z h1 h2 => ?_⟩ <;> simp only [ltI, decide_eq_true_eq, decide_eq_false_iff_not] at * <;> omega
theorem sortI_uniq {l m : List Int} (h : l.Pairwise (· ≤ ·)) (p : l.Perm m) : l = sortB ltI m := by
  have s : Srtd ltI l := h.imp fun {a b} q => by simp only [ltI, decide_eq_false_iff_not]; omega
  refine sortB_uniq swo_I s ⟨p, fun z => ?_⟩
  have e : eqv ltI z = fun y => decide (y = z) := by
    funext y
    by_cases q : y = z
    · rw [decide_eq_true q]; subst q; exact eqv_iff.mpr ⟨swo_I.refl y, swo_I.refl y⟩
    · rw [decide_eq_false q]
      rcases bcase (eqv ltI z y) with t | t
      · obtain ⟨t1, t2⟩ := eqv_iff.mp t
        simp only [ltI, decide_eq_false_iff_not] at t1 t2
        omega
      · exact t
  rw [e]
  have go : ∀ l : List Int, l.filter (fun y => decide (y = z)) = List.replicate (l.count z) z := by
    intro l
    induction l with
    | nil => rfl
    | cons a l ih =>
      rw [List.filter_cons, List.count_cons, ih]
      by_cases q : a = z
      · simp [q, List.replicate_succ]
      · simp [q]
  rw [go, go, p.count_eq]
theorem swo_lexI : Swo lexI := by
  have as : ∀ x y, lexI x y = true → lexI y x = false := by
    intro x
    induction x with
    | nil => intro y h; cases y <;> first | (cases h; done) | rfl
    | cons a x ih =>
      intro y h
      cases y with
      | nil => cases h
      | cons b y =>
        simp only [lexI] at h ⊢
        by_cases e : a = b
        · rw [if_pos e] at h
          rw [if_pos e.symm]
          exact ih y h
        · rw [if_neg e] at h
          rw [if_neg (fun z => e z.symm)]
          simp only [decide_eq_true_eq, decide_eq_false_iff_not] at *
          omega
  refine ⟨as, ?_⟩
  intro x
  induction x with
  | nil =>
    intro y z h1 h2
    cases z with
    | nil => rfl
    | cons c z => rfl
  | cons a x ih =>
    intro y z h1 h2
    cases y with
    | nil => cases h1
    | cons b y =>
      cases z with
      | nil => cases h2
      | cons c z =>
        simp only [lexI] at h1 h2 ⊢
        by_cases e1 : b = a
        · rw [if_pos e1] at h1
          by_cases e2 : c = b
          · rw [if_pos e2] at h2
            rw [if_pos (e2.trans e1)]
            exact ih y z h1 h2
          · rw [if_neg e2] at h2
            rw [if_neg (fun q => e2 (q.trans e1.symm))]
            simp only [decide_eq_false_iff_not] at *
            omega
        · rw [if_neg e1] at h1
          by_cases e2 : c = b
          · rw [if_neg (fun q => e1 (e2.symm.trans q))]
            simp only [decide_eq_false_iff_not] at *
            omega
          · rw [if_neg e2] at h2
            simp only [decide_eq_false_iff_not] at h1 h2
            rw [if_neg (by omega)]
            simp only [decide_eq_false_iff_not]
            omega
/-! ### rows in the machine -/
def IsRow (h : Heap) (v : Value) (r : List Int) : Prop := ∃ a o xs n, v = .ref a ∧ h.get? a = some o ∧ o.cls = .type "tuple" ∧ o.data = .seq xs n ∧ IntsAre xs.toList r ∧ r ≠ []
theorem IsRow.keeps {h h' : Heap} {v : Value} {r : List Int} (p : IsRow h v r) (k : ∀ b o, h.get? b = some o → o.cls = .type "tuple" → h'.get? b = some o) : IsRow h' v r := by
  obtain ⟨a, o, xs, n, e, ho, hc, hd, hi⟩ := p
  exact ⟨a, o, xs, n, e, k _ _ ho hc, hc, hd, hi⟩
def rowK (h : Heap) (v : Value) : List Int := match v with
  | .ref a => (match h.get? a with
    | some o => (match o.data with
      | .seq xs _ => xs.toList.map iv
      | _ => [])
    | none => [])
  | _ => []
theorem IsRow.key {h : Heap} {v : Value} {r : List Int} (p : IsRow h v r) : rowK h v = r := by
  obtain ⟨a, o, xs, n, rfl, ho, hc, hd, hi, _⟩ := p
  unfold rowK
  dsimp only
  rw [ho]
  dsimp only
  rw [hd]
  exact iv_ints hi
section
variable {prog : Program} {w : World} {A : Around} {E : Value → Shared → Prop} {s : Shared}
theorem lex_rows {b fin : Bool} {Q : Bool → Shared → Prop} : ∀ {xs ys : List Value} {ns ms : List Int} (i : Nat), IntsAre xs ns → IntsAre ys ms → fin = decide (ns.length < ms.length) → Q (lexI ns ms) s → PySem.W.KatLex prog w A b fin Q (xs.zip ys) i s
  | _, _, _, _, _, .nil, .nil, e, h => by
    refine PySem.W.kat_nil ?_
    rw [e]; exact h
  | _, _, _, _, _, .nil, .cons _ _ _, e, h => by
    refine PySem.W.kat_nil ?_
    rw [e]; simpa [lexI] using h
  | _, _, _, _, _, .cons _ _ _, .nil, e, h => by
    refine PySem.W.kat_nil ?_
    rw [e]; simpa [lexI] using h
  | _, _, _, _, i, .cons x t r, .cons y u r', e, h => by
    refine PySem.W.kat_cons (SeqAt.EqAt.int_int x t y u prog w _ _ ?_)
    refine PySem.W.kat_go (fun e1 => PySem.W.kat_yes ?_) (fun e1 => PySem.W.kat_no ?_)
    · have ex : x = y := by simpa using e1
      refine lex_rows (i + 1) r r' (by rw [e]; simp) ?_
      simp only [lexI, if_pos ex] at h
      exact h
    · have ex : ¬ x = y := by simpa using e1
      simp only [lexI, if_neg ex] at h
      by_cases c : (b && i == 0) = true
      · rw [c]; exact oneLt_int h
      · have c' : (b && i == 0) = false := by simpa using c
        rw [c']
        exact PySem.W.kat_one _ _ (PyProof.Rows.lt_int (Q := PySem.W.BoolBack Q) h)
theorem row_cmp {vs : List Value} (hp : ∀ v ∈ vs, ∃ r, IsRow s.heap v r) {h0 : Heap} (hk : ∀ v ∈ vs, ∀ r, IsRow s.heap v r → rowK h0 v = r) : Cmp prog w A s (tuples' true) (fun p => p.1 ∈ vs) (lt2 fun v u => lexI (rowK h0 v) (rowK h0 u)) := by
  intro p q hm hm'
  obtain ⟨r1, h1⟩ := hp _ hm
  obtain ⟨r2, h2⟩ := hp _ hm'
  show wpAny (model prog w) A (keyLt' (tuples' true) p.1 q.1) (fun r s' => s' = s ∧ r = lexI (rowK h0 p.1) (rowK h0 q.1)) (fun _ _ => False) s
  rw [hk _ hm _ h1, hk _ hm' _ h2]
  obtain ⟨a, o, xs, n, e, ho, hc, hd, hi, _⟩ := h1
  obtain ⟨a', o', xs', n', e', ho', hc', hd', hi', _⟩ := h2
  rw [e, e']
  refine PySem.W.kat_lt ho hd ho' hd' (lex_rows 0 hi hi' ?_ ⟨rfl, rfl⟩)
  rw [← hi.length, ← hi'.length, Array.length_toList, Array.length_toList]
theorem row_firsts {h : Heap} : ∀ {vs : List Value}, (∀ v ∈ vs, ∃ r, IsRow h v r) → ∃ fs : List Value, PySem.W.KatTups h vs fs ∧ fs.length = vs.length ∧ ∀ f ∈ fs, ∃ x t, f = Value.int x t
  | [], _ => ⟨[], PySem.W.KatTups.nil, rfl, fun _ hm => by simp at hm⟩
  | v :: vs, hp => by
    obtain ⟨fs, h1, h2, h3⟩ := row_firsts (vs := vs) fun v' hm => hp v' (List.mem_cons_of_mem _ hm)
    obtain ⟨r, a, o, xs, n, e, ho, hc, hd, hi, hr⟩ := hp v (List.mem_cons_self ..)
    subst e
    obtain ⟨xs⟩ := xs
    cases hi with
    | nil => exact absurd rfl hr
    | cons x t hi =>
      refine ⟨.int x t :: fs, PySem.W.KatTups.cons ho hc hd (by simp) h1, by rw [List.length_cons, List.length_cons, h2], fun f hm => ?_⟩
      rcases List.mem_cons.mp hm with rfl | hm
      · exact ⟨x, t, rfl⟩
      · exact h3 f hm
theorem rows_sortableO {a : Addr} {vs : List Value} (h0 : 0 < vs.length) {h00 : Heap} (hp : ∀ v ∈ vs, ∃ r, IsRow s.heap v r) (hk : ∀ v ∈ vs, ∀ r, IsRow s.heap v r → rowK h00 v = r) (ha : ∀ o, s.heap.get? a = some o → o.cls ≠ .type "tuple") : SortableO prog w A s a vs fun v u => lexI (rowK h00 v) (rowK h00 u) := by
  intro h' keep
  have hp' : ∀ v ∈ vs, ∃ r, IsRow h' v r := fun v hm => by
    obtain ⟨r, q⟩ := hp v hm
    exact ⟨r, q.keeps fun b o e c => keep b o (fun z => by subst z; exact ha o e c) e⟩
  have hk' : ∀ v ∈ vs, ∀ r, IsRow h' v r → rowK h00 v = r := fun v hm r q => by
    obtain ⟨r', q'⟩ := hp v hm
    have q2 : IsRow h' v r' := q'.keeps fun b o e c => keep b o (fun z => by subst z; exact ha o e c) e
    rw [hk v hm r' q', ← q2.key, q.key]
  obtain ⟨fs, h1, h2, h3⟩ := row_firsts hp'
  refine ⟨tuples' true, fun Q E hq => ?_, row_cmp hp' hk'⟩
  refine PySem.W.kat_kind (T := .type "int") h1 (by omega) (fun f hm => ?_) (by rfl) ?_
  · obtain ⟨x, t, rfl⟩ := h3 f hm
    exact PySem.W.Looks.now
  · have e : (Value.type "int" != Value.type "tuple") = true := by first | decide +kernel | rfl | decide
    rw [e]
    exact hq
/-- sorted(l) of rows of ints -/
theorem sorted_rowsO {l : Addr} {vs : List Value} {Q : Value → Shared → Prop} (hl : s.heap.IsList l vs.toArray) (hz : vs.length ≤ sizeLine) (hp : ∀ v ∈ vs, ∃ r, IsRow s.heap v r)
    (h : ∀ (h' : Heap) (d : Addr) (out : List Value), Srtd (fun v u => lexI (rowK s.heap v) (rowK s.heap u)) out → Stb (fun v u => lexI (rowK s.heap v) (rowK s.heap u)) out vs → (∀ b o, s.heap.get? b = some o → h'.get? b = some o) → s.heap.objs.size ≤ d → (∃ n, h'.get? d = some (seqObj "list" out.toArray n)) → Q (.ref d) { s with heap := h' }) :
    wpAny (model prog w) A (call (.builtin "sorted") [.ref l]) Q E s := by
  have O : Swo fun v u => lexI (rowK s.heap v) (rowK s.heap u) := ⟨fun x y => swo_lexI.asym _ _, fun x y z => swo_lexI.tr _ _ _⟩
  refine sorted_ord O hl hz (fun h2 h₁ a ha kk => ?_) fun out hs hb => ?_
  · refine rows_sortableO (s := { s with heap := h₁ }) (by omega) (fun v hm => ?_) (fun v hm r q => ?_) fun o e => ?_
    · obtain ⟨r, q⟩ := hp v hm
      exact ⟨r, q.keeps fun b o e _ => (kk b o e).2⟩
    · obtain ⟨r', q'⟩ := hp v hm
      have q2 : IsRow h₁ v r' := q'.keeps fun b o e _ => (kk b o e).2
      rw [q'.key, ← q2.key]
      exact q.key
    · have e' : some o = some (seqObj "list" vs.toArray 0) := e.symm.trans ha
      cases e'
      intro c
      exact absurd (Value.type.inj c) (by decide)
  · exact h _ _ out hs hb (fun b o e => sortedAll_old e) (Nat.le_succ _) (sortedAll_at s.heap vs out.toArray)
end
theorem toInts_of : ∀ {xs : List D} {ns : List Int}, toInts xs = some ns → xs = ns.map D.int
  | [], _, h => by cases h; rfl
  | .int i :: r, _, h => by
    have h' : (toInts r).map (i :: ·) = some _ := h
    obtain ⟨ns, h1, rfl⟩ := Option.map_eq_some_iff.mp h'
    rw [toInts_of h1]; rfl
  | .non :: _, _, h => by cases h
  | .bl _ :: _, _, h => by cases h
  | .str _ :: _, _, h => by cases h
  | .tup _ :: _, _, h => by cases h
  | .lst _ :: _, _, h => by cases h
  | .scr _ :: _, _, h => by cases h
  | .fn _ :: _, _, h => by cases h
  | .dct _ :: _, _, h => by cases h
theorem toRow_of {x : D} {r : List Int} (h : toRow x = some r) : x = ofRow r ∧ r ≠ [] := by
  unfold toRow at h
  split at h
  · rename_i xs
    split at h
    · cases h
    · rename_i ne
      have e := toInts_of h
      refine ⟨by rw [ofRow, e], ?_⟩
      rintro rfl
      exact ne e
  · cases h
theorem toRows_of : ∀ {xs : List D} {rs : List (List Int)}, toRows xs = some rs → xs = rs.map ofRow ∧ ∀ r ∈ rs, r ≠ []
  | [], _, h => by cases h; exact ⟨rfl, by simp⟩
  | x :: xs, rs, h => by
    have h' : ((toRow x).bind fun a => (toRows xs).map fun as => a :: as) = some rs := h
    obtain ⟨a, h1, h2⟩ := Option.bind_eq_some_iff.mp h'
    obtain ⟨as, h3, rfl⟩ := Option.map_eq_some_iff.mp h2
    obtain ⟨e1, e2⟩ := toRow_of h1
    obtain ⟨e3, e4⟩ := toRows_of h3
    refine ⟨by rw [e1, e3]; rfl, fun r hr => ?_⟩
    rcases List.mem_cons.mp hr with rfl | hr
    · exact e2
    · exact e4 r hr
theorem repDs_ints {K : PySem.W.Frag} {mg : Str → Option Value} {F : Hp} : ∀ {ns : List Int} {ys : List V}, RepDs K mg F (ns.map D.int) ys → ys = ns.map V.int
  | [], _, .nil => rfl
  | n :: ns, _, .cons h r => by rw [h.of_int, repDs_ints r]; rfl
section
variable {X : Cx}
theorem row_rep {pins : List (Addr × Obj)} {σ : L2.St} {H : Hp} {s : Shared} {F : Hp} (I : Inv X pins σ H s) (sm : Same F H) {r : List Int} {v : V} (h : RepD X.K X.mg F (ofRow r) v) (hr : r ≠ []) : ∃ t, v = .ref t ∧ IsRow s.heap (.ref t) r := by
  cases h with
  | @tup a _ ys h1 h2 =>
    have e := repDs_ints h2
    subst e
    obtain ⟨its, rv, ⟨o, ho, hc, n, hd⟩, _⟩ := I.tuple (Same.seqT sm h1)
    exact ⟨a, rfl, a, o, _, n, rfl, ho, hc, hd, by simpa using rv.ints, hr⟩
theorem sorted_D {F : Hp} {pins : List (Addr × Obj)} {σ : L2.St} {H : Hp} {s : Shared} {us : List Value} {xs : List D} {v : V} {r : D} {Q : VK} (I : Inv X pins σ H s) (rs : Vals [v] us) (sm : Same F H) (dv : RdV X.K X.mg F H (.lst xs) v) (ho : sortD xs = some r)
    (q : ∀ F' H' z, Grow F H F' H' → RepD X.K X.mg F' r z → Q z H') : wpAny (model X.prog X.w) X.A (call (.builtin "sorted") us) (EP X pins σ Q) X.xe s := by
  obtain ⟨a, ys, rfl, h1, q1⟩ := dv.list sm
  unfold sortD at ho
  split at ho
  · rename_i ns e
    cases ho
    rw [toInts_of e] at q1
    rw [repDs_ints q1] at h1
    refine cr_sortedI pins s σ H _ us Q I rs ⟨a, ns, rfl, .of h1, fun ns' p hp hw hn => ?_⟩
    rw [sortI_uniq hw hp]
    exact q _ _ _ (.new sm hn) (.lst upd_same RepDs.ints)
  · obtain ⟨rr, e, rfl⟩ := Option.map_eq_some_iff.mp ho
    obtain ⟨e1, e2⟩ := toRows_of e
    subst e1
    rw [Vals.ref1 rs]
    obtain ⟨its, rv, hl, hz⟩ := I.list (.of h1)
    have all : ∀ {ns : List (List Int)} {ys : List V} {its : List Value}, RepDs X.K X.mg F (ns.map ofRow) ys → Vals ys its → (∀ r ∈ ns, r ≠ []) → (∀ u ∈ its, ∃ r, IsRow s.heap u r ∧ RepD X.K X.mg F (ofRow r) (backV u) ∧ ∃ t, u = Value.ref t) ∧ its.map (rowK s.heap) = ns := by
      intro ns
      induction ns with
      | nil => intro ys its r1 r2 _; cases r1; cases r2; exact ⟨by simp, rfl⟩
      | cons n ns ih =>
        intro ys its r1 r2 hn
        cases r1 with
        | @cons _ y _ ys h t =>
        cases r2 with
        | @cons _ u _ us ru tu =>
        obtain ⟨i1, i2⟩ := ih t tu fun r hr => hn r (List.mem_cons_of_mem _ hr)
        obtain ⟨a, rfl, hrow⟩ := row_rep I sm h (hn n (List.mem_cons_self ..))
        cases ru
        refine ⟨fun x hx => ?_, by rw [List.map_cons, i2, hrow.key]⟩
        rcases List.mem_cons.mp hx with rfl | hx
        · exact ⟨n, hrow, h, _, rfl⟩
        · exact i1 x hx
    obtain ⟨al, ak⟩ := all q1 rv e2
    refine sorted_rowsO hl.isList (by rw [← rv.length]; exact hz) (fun u hu => ?_) fun h' d out s1 s2 kp hd hn => ?_
    · obtain ⟨r, h, _⟩ := al u hu
      exact ⟨r, h⟩
    · obtain ⟨n, hn⟩ := hn
      have h3 : ∀ u ∈ out, ∃ a, u = Value.ref a := fun u hu => by
        obtain ⟨_, _, _, t, e⟩ := al u (s2.perm.mem_iff.mp hu)
        exact ⟨t, e⟩
      have ek : out.map (rowK s.heap) = sortB lexI rr := by
        rw [← ak]
        exact sortB_uniq swo_lexI (srtd_map s1) (Stb.map swo_lexI _ s2)
      have rep : RepDs X.K X.mg F ((sortB lexI rr).map ofRow) (out.map backV) := by
        rw [← ek]
        have go : ∀ {l : List Value}, (∀ u ∈ l, u ∈ its) → RepDs X.K X.mg F ((l.map (rowK s.heap)).map ofRow) (l.map backV) := by
          intro l
          induction l with
          | nil => intro _; exact .nil
          | cons u l ih =>
            intro hm
            obtain ⟨r, h, hr, _⟩ := al u (hm u (List.mem_cons_self ..))
            refine .cons ?_ (ih fun x hx => hm x (List.mem_cons_of_mem _ hx))
            rw [h.key]; exact hr
        exact go fun u hu => s2.perm.mem_iff.mp hu
      have hp := I.hok.fresh hd
      refine ⟨.ref d, upd H d (.lst (out.map backV)), I.laid (t' := s.toks) kp hd ⟨?_, out, n, vals_back h3, hn⟩, rfl, q _ _ _ (.new sm hp) (.lst upd_same (rep.mono (Grow.same sm (.new sm hp))))⟩
      rw [List.length_map, s2.len, ← rv.length]
      exact hz
end
end Q
set_option Elab.async false
set_option maxRecDepth 100000
set_option linter.all false
set_option maxHeartbeats 1000000
/-! Membership, places, cuts, kinds, built-in functions. -/
namespace Q
open PySem PySem.Spec PyProof.Rows L2
section
variable {X : Cx}
theorem o2_inn (hu0 : X.A.units + 64 < cLine) : Op2b X (compareOp .In) (cop .inn) := by
  intro pins s σ H x y v u Q I rx ry ⟨F, d, e, r, sm, dx, ey, ho, q⟩
  have go : ∀ (ys : List D) (zs : List V) (a : Addr), y = .ref a → (SqL X.K H a zs ∨ SqT X.K H a zs) → RepDs X.K X.mg F ys zs → (if (flat d && ys.all flat) = true then some (inD d ys) else none) = some r → wpAny (model X.prog X.w) X.A (compareOp .In v u) (EP X pins σ Q) X.xe s := by
    intro ys zs a ey hz rz hh
    subst ey
    split at hh <;> cases hh
    rename_i hc
    simp only [Bool.and_eq_true] at hc
    have rd : RepD X.K X.mg F d x := dx.of (fun xs z => by subst z; cases hc.1) (fun xs z => by subst z; cases hc.1)
    have h2 := inD_rep rd hc.1 rz hc.2
    refine op_in_seq pins s σ H _ _ v u Q I rx ry ⟨a, zs, rfl, hz, flat_rep rd hc.1, h2.1, ?_⟩
    show Q (.bl (inV x zs)) H
    rw [h2.2]; exact q
  cases e with
  | tup ys =>
    obtain ⟨a, zs, ee, h1, q1⟩ := ey.tup
    exact go ys zs a ee (.inr (Same.seqT sm h1)) q1 (by cases d <;> exact ho)
  | lst ys =>
    obtain ⟨a, zs, ee, h1, q1⟩ := ey.list sm
    exact go ys zs a ee (.inl (.of h1)) q1 (by cases d <;> exact ho)
  | non => cases d <;> cases ho
  | bl _ => cases d <;> cases ho
  | int _ => cases d <;> cases ho
  | str _ => cases d <;> cases ho
  | scr _ => cases d <;> cases ho
  | fn _ => cases d <;> cases ho
  | dct kvs =>
    obtain ⟨a, vs, rfl, h1, q1⟩ := ey.dict sm
    obtain ⟨k, hk, rfl⟩ := Option.map_eq_some_iff.mp (show (keyD d).map (fun k => (valD kvs k).isSome) = some r by cases d <;> exact ho)
    have ek : x = kV k := by
      cases d <;> cases hk
      · exact dx.int
      · exact dx.str
    subst ek
    obtain rfl : u = Value.ref a := ry
    have hu : X.A.units + 1 < cLine := by omega
    refine d_in hu I (.k h1) rx fun s3 I3 => ⟨.bl _, H, I3, rfl, ?_⟩
    rcases q1.val k with ⟨e1, e2⟩ | ⟨d', v', e1, e2, _⟩
    · rw [e1] at q; rw [e2]; exact q
    · rw [e1] at q; rw [e2]; exact q
theorem o2_nin (hu0 : X.A.units + 64 < cLine) : Op2b X (compareOp .NotIn) (cop .nin) := by
  intro pins s σ H x y v u Q I rx ry ⟨F, d, e, r, sm, dx, ey, ho, q⟩
  have go : ∀ (ys : List D) (zs : List V) (a : Addr), y = .ref a → (SqL X.K H a zs ∨ SqT X.K H a zs) → RepDs X.K X.mg F ys zs → (if (flat d && ys.all flat) = true then some (!inD d ys) else none) = some r → wpAny (model X.prog X.w) X.A (compareOp .NotIn v u) (EP X pins σ Q) X.xe s := by
    intro ys zs a ey hz rz hh
    subst ey
    split at hh <;> cases hh
    rename_i hc
    simp only [Bool.and_eq_true] at hc
    have rd : RepD X.K X.mg F d x := dx.of (fun xs z => by subst z; cases hc.1) (fun xs z => by subst z; cases hc.1)
    have h2 := inD_rep rd hc.1 rz hc.2
    refine op_notIn_seq pins s σ H _ _ v u Q I rx ry ⟨a, zs, rfl, hz, flat_rep rd hc.1, h2.1, ?_⟩
    show Q (.bl (!inV x zs)) H
    rw [h2.2]; exact q
  cases e with
  | tup ys =>
    obtain ⟨a, zs, ee, h1, q1⟩ := ey.tup
    exact go ys zs a ee (.inr (Same.seqT sm h1)) q1 (by cases d <;> exact ho)
  | lst ys =>
    obtain ⟨a, zs, ee, h1, q1⟩ := ey.list sm
    exact go ys zs a ee (.inl (.of h1)) q1 (by cases d <;> exact ho)
  | non => cases d <;> cases ho
  | bl _ => cases d <;> cases ho
  | int _ => cases d <;> cases ho
  | str _ => cases d <;> cases ho
  | scr _ => cases d <;> cases ho
  | fn _ => cases d <;> cases ho
  | dct kvs =>
    obtain ⟨a, vs, rfl, h1, q1⟩ := ey.dict sm
    obtain ⟨k, hk, rfl⟩ := Option.map_eq_some_iff.mp (show (keyD d).map (fun k => !(valD kvs k).isSome) = some r by cases d <;> exact ho)
    have ek : x = kV k := by
      cases d <;> cases hk
      · exact dx.int
      · exact dx.str
    subst ek
    obtain rfl : u = Value.ref a := ry
    have hu : X.A.units + 1 < cLine := by omega
    refine d_notIn hu I (.k h1) rx fun s3 I3 => ⟨.bl _, H, I3, rfl, ?_⟩
    rcases q1.val k with ⟨e1, e2⟩ | ⟨d', v', e1, e2, _⟩
    · rw [e1] at q; rw [e2]; exact q
    · rw [e1] at q; rw [e2]; exact q
def Cop.py : Cop → CmpOp
  | .eq => .Eq | .ne => .NotEq | .lt => .Lt | .le => .LtE | .gt => .Gt | .ge => .GtE | .is => .Is | .isnot => .IsNot | .inn => .In | .nin => .NotIn
theorem o2_cop (hu : X.A.units + 64 < cLine) : ∀ o : Cop, Op2b X (compareOp o.py) (cop o)
  | .eq => o2_eq hu | .ne => o2_ne hu | .lt => o2_lt | .le => o2_le | .gt => o2_gt | .ge => o2_ge | .is => o2_is | .isnot => o2_isnot | .inn => o2_inn hu | .nin => o2_nin hu
/-! ### places -/
theorem atI_rep {K : PySem.W.Frag} {mg : Str → Option Value} {F : Hp} {xs : List D} {ys : List V} {i : Int} {d : D} (r : RepDs K mg F xs ys) (h : atI xs i = some d) : ∃ v, atI ys i = some v ∧ RepD K mg F d v := by
  unfold atI at h ⊢
  rw [← r.length]
  obtain ⟨j, h1, h2⟩ := Option.bind_eq_some_iff.mp h
  obtain ⟨v, h3, h4⟩ := r.get h2
  exact ⟨v, by rw [h1]; exact h3, h4⟩
theorem atI_ints {ns : List Int} {i : Int} {n : Int} (h : atI ns i = some n) : atI (ns.map V.int) i = some (.int n) := by
  unfold atI at h ⊢
  rw [List.length_map]
  obtain ⟨j, h1, h2⟩ := Option.bind_eq_some_iff.mp h
  rw [h1]
  simp [h2]
theorem ix_D : IxR X fun x y H Q => ∃ F d e r, Same F H ∧ RdV X.K X.mg F H d x ∧ RdV X.K X.mg F H e y ∧ ixop d e = some r ∧ ∀ F' H' z, Grow F H F' H' → RepD X.K X.mg F' r z → Q z H' := by
  intro value slice pins s σ H x y v u Q I rx ry ⟨F, d, e, r, sm, dx, ey, ho, q⟩ hs
  cases d <;> cases e <;> try (cases ho)
  · rename_i z i
    cases dx.str; cases ey.int
    have ho' : (if z.length ≤ sizeLine then (atI z.cps.toList i).map fun c => D.str ⟨#[c]⟩ else none) = some r := ho
    split at ho' <;> try (cases ho'; done)
    rename_i hl
    obtain ⟨c, h1, rfl⟩ := Option.map_eq_some_iff.mp ho'
    exact ix_str value slice pins s σ H _ _ v u Q I rx ry ⟨z, i, c, rfl, rfl, hl, h1, q F H _ (.refl sm) (.str _)⟩ hs
  · rename_i xs i
    cases ey.int
    obtain ⟨a, ys, rfl, h1, q1⟩ := dx.tup
    obtain ⟨w, h2, h3⟩ := atI_rep q1 (show atI xs i = some r from ho)
    exact ix_tup value slice pins s σ H _ _ v u Q I rx ry ⟨a, ys, i, w, rfl, rfl, Same.seqT sm h1, h2, q F H _ (.refl sm) h3⟩ hs
  · rename_i xs i
    cases ey.int
    obtain ⟨a, ys, rfl, h1, q1⟩ := dx.list sm
    obtain ⟨w, h2, h3⟩ := atI_rep q1 (show atI xs i = some r from ho)
    exact ix_list value slice pins s σ H _ _ v u Q I rx ry ⟨a, ys, i, w, rfl, rfl, .of h1, h2, q F H _ (.refl sm) h3⟩ hs
  · rename_i ns i
    cases ey.int
    obtain ⟨a, rfl, h1⟩ := dx.scr
    obtain ⟨n, h2, rfl⟩ := Option.map_eq_some_iff.mp (show (atI ns i).map D.int = some r from ho)
    exact ix_list value slice pins s σ H _ _ v u Q I rx ry ⟨a, _, i, _, rfl, rfl, sm.seq h1, atI_ints h2, q F H _ (.refl sm) (.int _)⟩ hs
/-! ### cuts -/
theorem cutD_rep {K : PySem.W.Frag} {mg : Str → Option Value} {F : Hp} {xs : List D} {ys : List V} (r : RepDs K mg F xs ys) (lo hi : Option Int) : RepDs K mg F (cutD xs lo hi) (cutV ys lo hi) := by
  unfold cutD cutV
  rw [← r.length]
  exact (r.drop _).take _
theorem sl_D : SlR X fun x lo hi H Q => ∃ F d r, Same F H ∧ RdV X.K X.mg F H d x ∧ slop d lo hi = some r ∧ ∀ F' H' z, Grow F H F' H' → RepD X.K X.mg F' r z → Q z H' := by
  intro pins s σ H x v vl vu lo hi sl Q I rx hs pl pu ⟨F, d, r, sm, dx, ho, q⟩
  cases d <;> try (cases ho)
  · rename_i xs
    obtain ⟨a, ys, rfl, h1, q1⟩ := dx.tup
    refine sl_tupA pins s σ H _ v vl vu lo hi sl Q I rx hs pl pu ⟨a, ys, rfl, Same.seqT sm h1, fun hw => ?_, fun _ p hp => ?_⟩
    · have e : cutD xs lo hi = xs := by
        unfold cutD
        rw [← q1.length] at hw
        rw [hw.1, hw.2]
        simp
      refine q F H _ (.refl sm) ?_
      rw [e]
      exact .tup h1 q1
    · exact q _ _ _ (.new sm hp) (.tup (.of upd_same) ((cutD_rep q1 lo hi).mono (Grow.same sm (.new sm hp))))
  · rename_i xs
    obtain ⟨a, ys, rfl, h1, q1⟩ := dx.list sm
    refine sl_list pins s σ H _ v vl vu lo hi sl Q I rx hs pl pu ⟨a, ys, rfl, .of h1, fun p hp => ?_⟩
    exact q _ _ _ (.new sm hp) (.lst upd_same ((cutD_rep q1 lo hi).mono (Grow.same sm (.new sm hp))))
/-! ### isinstance -/
theorem tyX_of {K : PySem.W.Frag} {mg : Str → Option Value} {F H : Hp} (sm : Same F H) {d : D} {v : V} {t : Ty} {b : Bool} (r : RdV K mg F H d v) (h : isi d t = some b) : ∃ n, TyX K H v (.type n) ∧ kitB n t.name = some b := by
  cases r with
  | lst e _ => exact ⟨"list", .base (.lst e), by cases t <;> cases h <;> decide +kernel⟩
  | dct e _ => cases t <;> cases h
  | rep r =>
    cases r with
    | non => exact ⟨"NoneType", .base .non, by cases t <;> cases h <;> decide +kernel⟩
    | bl b => exact ⟨"bool", .base (.bl b), by cases t <;> cases h <;> decide +kernel⟩
    | int b => exact ⟨"int", .base (.int b), by cases t <;> cases h <;> decide +kernel⟩
    | str b => exact ⟨"str", .base (.str b), by cases t <;> cases h <;> decide +kernel⟩
    | tup e _ =>
      refine ⟨"tuple", ?_, by cases t <;> cases h <;> decide +kernel⟩
      rcases Same.seqT sm e with (e | ⟨o, e⟩) | ⟨o, its, n, e, c, _⟩
      · exact .base (.tup e)
      · exact .fTuple e
      · exact .kTuple e c
    | lst e _ => exact ⟨"list", .base (.lst (sm _ _ e)), by cases t <;> cases h <;> decide +kernel⟩
    | scr _ => cases t <;> cases h
    | fn _ => cases t <;> cases h
    | dct _ _ => cases t <;> cases h
theorem call_isiD (t : Ty) : CallR X (.builtin "isinstance") fun xs H Q => ∃ F d x r, xs = [x, .ty t.name] ∧ Same F H ∧ RdV X.K X.mg F H d x ∧ isi d t = some r ∧ Q (.bl r) H := by
  intro pins s σ H xs us Q I rs ⟨F, d, x, r, e, sm, dx, ho, q⟩
  subst e
  obtain ⟨n, h1, h2⟩ := tyX_of sm dx ho
  exact call_isi pins s σ H _ us Q I rs ⟨x, .ty t.name, .type n, .type t.name, r, rfl, .ty _, h1, kit_ty h2, q⟩
end
end Q
namespace Q
open PySem PySem.Spec PyProof.Rows L2
section
variable {X : Cx}
def Bi.isTy : Bi → Bool
  | .intOf => true | .strOf => true | .listOf => true | .tupleOf => true | .dictOf => true | _ => false
def Bi.val (b : Bi) : Value := if b.isTy = true then .type b.name else .builtin b.name
theorem toInts_eq : ∀ {xs : List D} {ns : List Int}, toInts xs = some ns → xs = ns.map D.int
  | [], ns, e => by cases e; rfl
  | .int i :: r, ns, e => by
    obtain ⟨m, h1, rfl⟩ := Option.map_eq_some_iff.mp (show (toInts r).map (i :: ·) = some ns from e)
    rw [List.map_cons, ← toInts_eq h1]
  | .non :: _, _, e => by cases e
  | .bl _ :: _, _, e => by cases e
  | .str _ :: _, _, e => by cases e
  | .tup _ :: _, _, e => by cases e
  | .lst _ :: _, _, e => by cases e
  | .scr _ :: _, _, e => by cases e
  | .fn _ :: _, _, e => by cases e
  | .dct _ :: _, _, e => by cases e
theorem toBools_eq : ∀ {xs : List D} {ns : List Bool}, toBools xs = some ns → xs = ns.map D.bl
  | [], ns, e => by cases e; rfl
  | .bl i :: r, ns, e => by
    obtain ⟨m, h1, rfl⟩ := Option.map_eq_some_iff.mp (show (toBools r).map (i :: ·) = some ns from e)
    rw [List.map_cons, ← toBools_eq h1]
  | .non :: _, _, e => by cases e
  | .int _ :: _, _, e => by cases e
  | .str _ :: _, _, e => by cases e
  | .tup _ :: _, _, e => by cases e
  | .lst _ :: _, _, e => by cases e
  | .scr _ :: _, _, e => by cases e
  | .fn _ :: _, _, e => by cases e
  | .dct _ :: _, _, e => by cases e
theorem RepDs.of_ints {K : PySem.W.Frag} {mg : Str → Option Value} {F : Hp} : ∀ {ns : List Int} {ys : List V}, RepDs K mg F (ns.map D.int) ys → ys = ns.map V.int
  | [], _, .nil => rfl
  | n :: ns, _, .cons h r => by rw [h.of_int, RepDs.of_ints r]; rfl
theorem RepDs.of_bools {K : PySem.W.Frag} {mg : Str → Option Value} {F : Hp} : ∀ {ns : List Bool} {ys : List V}, RepDs K mg F (ns.map D.bl) ys → ys = ns.map V.bl
  | [], _, .nil => rfl
  | n :: ns, _, .cons h r => by rw [h.of_bl, RepDs.of_bools r]; rfl
theorem maxI_spec : ∀ (ns : List Int), 0 < ns.length → maxI ns ∈ ns ∧ ∀ y ∈ ns, y ≤ maxI ns
  | [], h => absurd h (by simp)
  | [x], _ => by simp [maxI]
  | x :: y :: r, _ => by
    have ih := maxI_spec (y :: r) (by simp)
    have e : maxI (x :: y :: r) = max x (maxI (y :: r)) := rfl
    rw [e]
    refine ⟨?_, fun z hz => ?_⟩
    · by_cases q : x ≤ maxI (y :: r)
      · rw [Int.max_eq_right q]; exact List.mem_cons_of_mem _ ih.1
      · rw [Int.max_eq_left (by omega)]; exact List.mem_cons_self
    · rcases List.mem_cons.mp hz with rfl | hz
      · omega
      · have := ih.2 z hz; omega
theorem minI_spec : ∀ (ns : List Int), 0 < ns.length → minI ns ∈ ns ∧ ∀ y ∈ ns, minI ns ≤ y
  | [], h => absurd h (by simp)
  | [x], _ => by simp [minI]
  | x :: y :: r, _ => by
    have ih := minI_spec (y :: r) (by simp)
    have e : minI (x :: y :: r) = min x (minI (y :: r)) := rfl
    rw [e]
    refine ⟨?_, fun z hz => ?_⟩
    · by_cases q : x ≤ minI (y :: r)
      · rw [Int.min_eq_left q]; exact List.mem_cons_self
      · rw [Int.min_eq_right (by omega)]; exact List.mem_cons_of_mem _ ih.1
    · rcases List.mem_cons.mp hz with rfl | hz
      · omega
      · have := ih.2 z hz; omega
theorem paired1 {F : D → V → Prop} {d : D} {vs : List V} (p : Paired F [d] vs) : ∃ v, vs = [v] ∧ F d v := by
  cases p with | cons h r => cases r; exact ⟨_, rfl, h⟩
theorem paired2 {F : D → V → Prop} {d e : D} {vs : List V} (p : Paired F [d, e] vs) : ∃ v w, vs = [v, w] ∧ F d v ∧ F e w := by
  cases p with | cons h r => cases r with | cons h' r' => cases r'; exact ⟨_, _, rfl, h, h'⟩
theorem keyD_rep {K : PySem.W.Frag} {mg : Str → Option Value} {F : Hp} {d : D} {v : V} {k : Key} (r : RepD K mg F d v) (h : keyD d = some k) : v = kV k := by
  cases r <;> cases h <;> rfl
theorem pairsD_rep {K : PySem.W.Frag} {mg : Str → Option Value} {F H : Hp} (sm : Same F H) : ∀ {xs : List D} {ys : List V} {ps : List (Key × D)}, RepDs K mg F xs ys → pairsD xs = some ps →
    ∃ (as : List Addr) (kvs : List (Key × V)), ys = as.map V.ref ∧ Paired (fun p kv => SqT K H p [kV kv.1, kv.2]) as kvs ∧ RepKs K mg F ps kvs
  | _, _, _, .nil, e => by cases e; exact ⟨[], [], rfl, .nil, .nil⟩
  | x :: xs, _, ps, .cons h r, e => by
    unfold pairsD at e
    split at e
    · rename_i z0
      cases z0
    · rename_i a b r' e0
      cases e0
      obtain ⟨k, hk, e⟩ := Option.bind_eq_some_iff.mp e
      obtain ⟨ps', hp, rfl⟩ := Option.map_eq_some_iff.mp e
      cases h with
      | @tup ad _ _ h1 h2 =>
      cases h2 with
      | cons ra r2 =>
      cases r2 with
      | cons rb r3 =>
      cases r3
      obtain ⟨as, kvs, e1, e2, e3⟩ := pairsD_rep sm r hp
      have ek := keyD_rep ra hk
      subst ek
      exact ⟨ad :: as, (k, _) :: kvs, by rw [List.map_cons, e1], .cons (Same.seqT sm h1) e2, .cons rb e3⟩
    · cases e
theorem bi_call (hc : X.calm = true) : ∀ b : Bi, CallD X b.val (biop b) := by
  intro b pins s σ H xs us Q I rs ⟨F, ds, r, sm, ps, ho, q⟩
  have one : ∀ d, ds = [d] → ∃ v, xs = [v] ∧ RdV X.K X.mg F H d v := fun d e => by subst e; exact paired1 ps
  have two : ∀ d e, ds = [d, e] → ∃ v w, xs = [v, w] ∧ RdV X.K X.mg F H d v ∧ RdV X.K X.mg F H e w := fun d e z => by subst z; exact paired2 ps
  unfold biop at ho
  split at ho <;> try (cases ho; done)
  · cases ho
    rename_i zs
    obtain ⟨v, rfl, dv⟩ := one _ rfl
    obtain ⟨a, ys, rfl, h1, q1⟩ := dv.list sm
    refine call_len_seq pins s σ H _ us Q I rs ⟨a, ys, rfl, .inl (.of h1), ?_⟩
    rw [← q1.length]
    exact q F H _ (.refl sm) (.int _)
  · cases ho
    rename_i zs
    obtain ⟨v, rfl, dv⟩ := one _ rfl
    obtain ⟨a, ys, rfl, h1, q1⟩ := dv.tup
    refine call_len_seq pins s σ H _ us Q I rs ⟨a, ys, rfl, .inr (Same.seqT sm h1), ?_⟩
    rw [← q1.length]
    exact q F H _ (.refl sm) (.int _)
  · cases ho
    rename_i zs
    obtain ⟨v, rfl, dv⟩ := one _ rfl
    obtain ⟨a, rfl, h1⟩ := dv.scr
    refine call_len_seq pins s σ H _ us Q I rs ⟨a, _, rfl, .inl (sm.seq h1), ?_⟩
    rw [List.length_map]
    exact q F H _ (.refl sm) (.int _)
  · rename_i z
    split at ho <;> cases ho
    rename_i hl
    obtain ⟨v, rfl, dv⟩ := one _ rfl
    cases dv.str
    exact call_len_str pins s σ H _ us Q I rs ⟨z, rfl, hl, q F H _ (.refl sm) (.int _)⟩
  · cases ho
    obtain ⟨v, rfl, dv⟩ := one _ rfl
    cases dv.int
    exact call_abs pins s σ H _ us Q I rs ⟨_, rfl, q F H _ (.refl sm) (.int _)⟩
  · cases ho
    obtain ⟨v, w, rfl, dv, dw⟩ := two _ _ rfl
    cases dv.int; cases dw.int
    exact call_max2 hc pins s σ H _ us Q I rs ⟨_, _, rfl, q F H _ (.refl sm) (.int _)⟩
  · cases ho
    obtain ⟨v, w, rfl, dv, dw⟩ := two _ _ rfl
    cases dv.int; cases dw.int
    exact call_min2 hc pins s σ H _ us Q I rs ⟨_, _, rfl, q F H _ (.refl sm) (.int _)⟩
  · cases ho
    obtain ⟨v, rfl, dv⟩ := one _ rfl
    cases dv.int
    exact call_int1 pins s σ H _ us Q I rs (.inl ⟨_, rfl, q F H _ (.refl sm) (.int _)⟩)
  · cases ho
    obtain ⟨v, rfl, dv⟩ := one _ rfl
    cases dv.bl
    exact call_int1 pins s σ H _ us Q I rs (.inr ⟨_, rfl, q F H _ (.refl sm) (.int _)⟩)
  · split at ho <;> cases ho
    rename_i hl
    obtain ⟨v, rfl, dv⟩ := one _ rfl
    cases dv.int
    exact call_str_int pins s σ H _ us Q I rs ⟨_, rfl, hl, q F H _ (.refl sm) (.str _)⟩
  · cases ho
    obtain ⟨v, rfl, dv⟩ := one _ rfl
    obtain ⟨a, ys, rfl, h1, q1⟩ := dv.list sm
    exact call_list_of pins s σ H _ us Q I rs ⟨a, ys, rfl, .inl (.of h1), fun p hp => q _ _ _ (.new sm hp) (.lst upd_same (q1.mono (Grow.same sm (.new sm hp))))⟩
  · cases ho
    obtain ⟨v, rfl, dv⟩ := one _ rfl
    obtain ⟨a, ys, rfl, h1, q1⟩ := dv.tup
    exact call_list_of pins s σ H _ us Q I rs ⟨a, ys, rfl, .inr (Same.seqT sm h1), fun p hp => q _ _ _ (.new sm hp) (.lst upd_same (q1.mono (Grow.same sm (.new sm hp))))⟩
  · cases ho
    obtain ⟨v, rfl, dv⟩ := one _ rfl
    obtain ⟨a, ys, rfl, h1, q1⟩ := dv.list sm
    exact call_tuple_of pins s σ H _ us Q I rs ⟨a, ys, rfl, .inl ⟨.of h1, fun p hp => q _ _ _ (.new sm hp) (.tup (.of upd_same) (q1.mono (Grow.same sm (.new sm hp))))⟩⟩
  · cases ho
    obtain ⟨v, rfl, dv⟩ := one _ rfl
    obtain ⟨a, ys, rfl, h1, q1⟩ := dv.tup
    exact call_tuple_of pins s σ H _ us Q I rs ⟨a, ys, rfl, .inr ⟨Same.seqT sm h1, q F H _ (.refl sm) (.tup h1 q1)⟩⟩
  · rename_i zs
    obtain ⟨ns, h1, rfl⟩ := Option.map_eq_some_iff.mp ho
    obtain ⟨v, rfl, dv⟩ := one _ rfl
    obtain ⟨a, ys, rfl, h2, q1⟩ := dv.list sm
    rw [toInts_eq h1] at q1
    rw [q1.of_ints] at h2
    exact cr_sum hc pins s σ H _ us Q I rs ⟨a, ns, rfl, .of h2, q F H _ (.refl sm) (.int _)⟩
  · rename_i zs
    obtain ⟨ns, h1, ho⟩ := Option.bind_eq_some_iff.mp ho
    split at ho <;> cases ho
    rename_i hl
    obtain ⟨v, rfl, dv⟩ := one _ rfl
    obtain ⟨a, ys, rfl, h2, q1⟩ := dv.list sm
    rw [toInts_eq h1] at q1
    rw [q1.of_ints] at h2
    refine cr_max hc pins s σ H _ us Q I rs ⟨a, ns, rfl, .of h2, hl, fun m hm hb => ?_⟩
    have sp := maxI_spec ns hl
    have e : m = maxI ns := by
      have h1 := sp.2 m hm
      have h2 := hb _ sp.1
      omega
    rw [e]
    exact q F H _ (.refl sm) (.int _)
  · rename_i zs
    obtain ⟨ns, h1, ho⟩ := Option.bind_eq_some_iff.mp ho
    split at ho <;> cases ho
    rename_i hl
    obtain ⟨v, rfl, dv⟩ := one _ rfl
    obtain ⟨a, ys, rfl, h2, q1⟩ := dv.list sm
    rw [toInts_eq h1] at q1
    rw [q1.of_ints] at h2
    refine cr_min hc pins s σ H _ us Q I rs ⟨a, ns, rfl, .of h2, hl, fun m hm hb => ?_⟩
    have sp := minI_spec ns hl
    have e : m = minI ns := by
      have h1 := sp.2 m hm
      have h2 := hb _ sp.1
      omega
    rw [e]
    exact q F H _ (.refl sm) (.int _)
  · rename_i zs
    obtain ⟨bs, h1, rfl⟩ := Option.map_eq_some_iff.mp ho
    obtain ⟨v, rfl, dv⟩ := one _ rfl
    obtain ⟨a, ys, rfl, h2, q1⟩ := dv.list sm
    rw [toBools_eq h1] at q1
    rw [q1.of_bools] at h2
    exact cr_all hc pins s σ H _ us Q I rs ⟨a, bs, rfl, .of h2, q F H _ (.refl sm) (.bl _)⟩
  · rename_i zs
    obtain ⟨ps, h1, rfl⟩ := Option.map_eq_some_iff.mp ho
    obtain ⟨v, rfl, dv⟩ := one _ rfl
    obtain ⟨a, ys, rfl, h2, q1⟩ := dv.list sm
    obtain ⟨as, kvs, e1, e2, e3⟩ := pairsD_rep sm q1 h1
    subst e1
    refine call_dictP hc pins s σ H _ us Q I rs ⟨a, as, kvs, rfl, .of h2, e2, fun p hp => ?_⟩
    exact q _ _ _ (.new sm hp) (.dct upd_same ((RepKs.merge e3 .nil).mono (Grow.same sm (.new sm hp))))
  · rename_i zs
    obtain ⟨v, rfl, dv⟩ := one _ rfl
    exact sorted_D I rs sm dv ho q
end
end Q
set_option Elab.async false
set_option maxRecDepth 100000
set_option linter.all false
set_option maxHeartbeats 1000000
/-! The look that a tree of ours is the program's own, and that what it comes to is what the machine does: expressions. -/
namespace Q
open PySem PySem.Spec PyProof.Rows L2
def plainE : Expr → Bool
  | .Starred _ _ => false
  | _ => true
theorem star_cons {e : Expr} {es : List Expr} {env : PySem.Env} (h : plainE e = true) : starEach (e :: es) env = (false, eval e env) :: starEach es env := by
  cases e <;> first | rfl | cases h
theorem star_any {pos : Pos} {env : PySem.Env} : ∀ {es : List Expr}, es.all plainE = true → (backTo pos (starEach es env)).any (·.1) = false
  | [], _ => rfl
  | e :: es, h => by
    simp only [List.all_cons, Bool.and_eq_true] at h
    have ih := star_any (pos := pos) (env := env) h.2
    rw [star_cons h.1]
    unfold backTo at ih ⊢
    rw [List.map_cons, List.any_cons, ih]
    rfl
def noSet : Expr → Bool
  | .Set _ _ _ => false
  | _ => true
theorem marks_of {b : Expr} {op : CmpOp} (h : noSet b = true) : behindInMarks op b = false := by
  cases b <;> first | rfl | cases h
def noSlice : Expr → Bool
  | .Slice _ _ _ _ => false
  | _ => true
theorem plainIx_of {b : Expr} (h : noSlice b = true) : PlainIx b := by
  intro o i
  cases b <;> first | rfl | cases h
def noComp : Expr → Bool
  | .ListComp _ _ _ _ => false
  | .SetComp _ _ _ _ => false
  | .DictComp _ _ _ _ _ => false
  | _ => true
def visB (sc : Scope) (x : Str) : Bool := match sc.names.lookup x with
  | some .local => true
  | some .cell => true
  | some .free => true
  | _ => false
theorem vis_of {sc : Scope} {x : Str} (h : visB sc x = true) : Vis sc x := by
  unfold visB at h
  unfold Vis
  split at h <;> simp_all
def locB (sc : Scope) (x : Str) : Bool := match sc.names.lookup x with
  | some .local => true
  | some .cell => true
  | _ => false
theorem loc_of {sc : Scope} {x : Str} (h : locB sc x = true) : L2.Loc sc x := by
  unfold locB at h
  unfold L2.Loc
  split at h <;> simp_all
def glB (sc : Scope) (x : Str) : Bool := decide (sc.names.lookup x = some .globalImplicit)
def plainN (x : Str) : Bool := !(x == ("__debug__" : Str)) && !(x == ("__classdict__" : Str))
mutual
def chkG (sc : Scope) (N : List Str) : Tg → Expr → Bool
  | .nm i, .Name x _ => decide (N[i]? = some x) && locB sc x
  | .tp ts, .Tuple es _ _ => chkGs sc N ts es
  | _, _ => false
def chkGs (sc : Scope) (N : List Str) : List Tg → List Expr → Bool
  | [], [] => true
  | t :: ts, e :: es => plainE e && chkG sc N t e && chkGs sc N ts es
  | _, _ => false
end
def isTupE : Expr → Bool
  | .Tuple _ _ _ => true
  | _ => false
/-- the kind of a target -/
def tgK : Expr → Nat
  | .Tuple _ _ _ => 1
  | .Name _ _ => 2
  | _ => 0
def nmIs (e : Expr) (x : Str) : Bool := match e with
  | .Name y _ => decide (y = x)
  | _ => false
theorem tgDs_len {sc : Scope} {N : List Str} : ∀ {ts : List Tg} {es : List Expr}, chkGs sc N ts es = true → ts.length = es.length
  | [], [], _ => rfl
  | t :: ts, e :: es, h => by
    simp only [chkGs, Bool.and_eq_true] at h
    rw [List.length_cons, List.length_cons, tgDs_len h.2]
  | [], _ :: _, h => by simp [chkGs] at h
  | _ :: _, [], h => by simp [chkGs] at h
theorem tgDs_lenx : ∀ {ts : List Tg} {xs : List D} {ρ ρ' : Env}, tgDs ts xs ρ = some ρ' → xs.length = ts.length
  | [], [], _, _, _ => rfl
  | t :: ts, x :: xs, ρ, ρ', h => by
    simp only [tgDs] at h
    split at h
    · rw [List.length_cons, List.length_cons, tgDs_lenx h]
    · cases h
  | [], _ :: _, _, _, h => by simp [tgDs] at h
  | _ :: _, [], _, _, h => by simp [tgDs] at h
/-- a receiver that is a plain name, or a field -/
def nmV : Expr → Bool
  | .Name _ _ => true
  | .Attribute _ _ _ => true
  | _ => false
/-- .. or of a list, or a call with arguments -/
def nmW : Expr → Bool
  | .Name _ _ => true
  | .Attribute _ _ _ => true
  | .Subscript _ _ _ => true
  | .Call _ (_ :: _) _ _ => true
  | _ => false
/-- what an operation is written of: its first thing, the others -/
def opSub (o : Opr) (sc : Scope) (e : Expr) : Option (Expr × List Expr) := match o, e with
  | .fld x, .Attribute pa m _ => if m = x ∧ nmW pa = true then some (pa, []) else none
  | .newr, .BinOp pa op pb _ => if op = .Mult then some (pa, [pb]) else none
  | .cpy, .Call pf [pa] [] _ => if (nmIs pf "list" && glB sc "list" && plainE pa) = true then some (pa, []) else none
  | .ixd, .Subscript pa pb _ => if noSlice pb = true then some (pa, [pb]) else none
  | .get, .Call (.Attribute pa m apos) [pb, pc] [] cpos => if (decide (m = ("get" : Str)) && (apos.endLine == cpos.line) && plainE pb && plainE pc && nmV pa) = true then some (pa, [pb, pc]) else none
  | .ixT, .Subscript pa (.Tuple pes _ _) _ => some (pa, pes)
  | .getT, .Call (.Attribute pa m apos) [.Tuple [pb, pc] _ _, pd] [] cpos => if (decide (m = ("get" : Str)) && (apos.endLine == cpos.line) && plainE pd && nmV pa) = true then some (pa, [pb, pc, pd]) else none
  | .skeys, .Call pf [.Call (.Attribute pa m apos) [] [] cpos] [] _ => if (nmIs pf "sorted" && glB sc "sorted" && decide (m = ("keys" : Str)) && (apos.endLine == cpos.line) && nmV pa) = true then some (pa, []) else none
  | .sitems, .Call pf [.Call (.Attribute pa m apos) [] [] cpos] [] _ => if (nmIs pf "sorted" && glB sc "sorted" && decide (m = ("items" : Str)) && (apos.endLine == cpos.line) && nmV pa) = true then some (pa, []) else none
  | .sset, .Call pf [.Call pg [pa] [] _] [] _ => if (nmIs pf "sorted" && glB sc "sorted" && nmIs pg "set" && glB sc "set" && plainE pa) = true then some (pa, []) else none
  | .lset, .Call pf [.Call pg [pa] [] _] [] _ => if (nmIs pf "len" && glB sc "len" && nmIs pg "set" && glB sc "set" && plainE pa) = true then some (pa, []) else none
  | .lenum, .Call pf [.Call pg [pa] [] _] [] _ => if (nmIs pf "list" && glB sc "list" && nmIs pg "enumerate" && glB sc "enumerate" && plainE pa) = true then some (pa, []) else none
  | .gget x _, .Call (.Attribute (.Name y _) m apos) [pb, pc] [] cpos => if (decide (y = x) && glB sc x && plainN x && decide (m = ("get" : Str)) && (apos.endLine == cpos.line) && plainE pb && plainE pc) = true then some (pb, [pc]) else none
  | _, _ => none
def cEq : D → Const → Bool
  | .non, .none => true
  | .bl a, .bool b => decide (a = b)
  | .int a, .int b => decide (a = b)
  | .str a, .str b => decide (a = b)
  | _, _ => false
mutual
/-- the tree e is the program's expression -/
def chk : E → Scope → List Str → Expr → Bool
  | .var i, sc, N, .Name x _ => decide (N[i]? = some x) && visB sc x && plainN x
  | .c x, _, _, .Constant k _ _ => cEq x k
  | .gl x _, sc, _, .Name y _ => decide (y = x) && glB sc x && plainN x
  | .bin o a b, sc, N, .BinOp pa op pb _ => decide (op = o.py) && chk a sc N pa && chk b sc N pb
  | .neg a, sc, N, .UnaryOp op pa _ => decide (op = .USub) && chk a sc N pa
  | .cmp o a b, sc, N, .Compare pa [op] [pb] _ => decide (op = o.py) && noSet pb && chk a sc N pa && chk b sc N pb
  | .chain o o' a b c, sc, N, .Compare pa [op, op'] [pb, pc] _ => decide (op = o.py) && decide (op' = o'.py) && noSet pc && chk a sc N pa && chk b sc N pb && chk c sc N pc
  | .chain3 o o' o'' a b c d, sc, N, .Compare pa [op, op', op''] [pb, pc, pd] _ => decide (op = o.py) && decide (op' = o'.py) && decide (op'' = o''.py) && noSet pd && chk a sc N pa && chk b sc N pb && chk c sc N pc && chk d sc N pd
  | .nt a, sc, N, .UnaryOp op pa _ => decide (op = .Not) && chk a sc N pa
  | .and es, sc, N, .BoolOp op pes _ => decide (op = .And) && chks es sc N pes
  | .or es, sc, N, .BoolOp op pes _ => decide (op = .Or) && chks es sc N pes
  | .ite c a b, sc, N, .IfExp pc pa pb _ => chk c sc N pc && chk a sc N pa && chk b sc N pb
  | .tup es, sc, N, .Tuple pes _ _ => chks es sc N pes
  | .lst es, sc, N, .List pes _ => chks es sc N pes
  | .newl es, sc, N, .List pes _ => chks es sc N pes
  | .ix a b, sc, N, .Subscript pa pb _ => noSlice pb && chk a sc N pa && chk b sc N pb
  | .sl a lo hi, sc, N, .Subscript pa (.Slice plo phi none _) _ => chk a sc N pa && chko lo sc N plo && chko hi sc N phi
  | .bi f es, sc, N, .Call pf pes [] _ => nmIs pf f.name && glB sc f.name && !pes.isEmpty && chks es sc N pes
  | .isi a t, sc, N, .Call pf [pa, pt] [] _ => nmIs pf "isinstance" && glB sc "isinstance" && nmIs pt t.name && glB sc t.name && plainE pa && chk a sc N pa
  | .app a b, sc, N, .Call (.Attribute pa m apos) [pb] [] cpos => decide (m = ("append" : Str)) && (apos.endLine == cpos.line) && plainE pb && nmV pa && chk a sc N pa && chk b sc N pb
  | .ext a b, sc, N, .Call (.Attribute pa m apos) [pb] [] cpos => decide (m = ("extend" : Str)) && (apos.endLine == cpos.line) && plainE pb && nmV pa && chk a sc N pa && chk b sc N pb
  | .call x _ es, sc, N, .Call pf pes [] _ => nmIs pf x && glB sc x && plainN x && !pes.isEmpty && chks es sc N pes
  | .comp own tg it cond elt, sc, N, .ListComp pelt [⟨ptg, pit, pifs, 0⟩] scope _ =>
      blkC N sc scope own && chkIt it sc N (tgK ptg) pit && chkG scope N tg ptg && chkC cond (relS scope sc) N pifs && chk elt (relS scope sc) N pelt && noSet pit && tgIn tg (own.map (·.2))
  | .frz a, sc, N, e => chk a sc N e
  | .sl2 a, sc, N, .Subscript pa (.Slice none none (some (.Constant (.int j) _ _)) _) _ => decide (j = 2) && chk a sc N pa
  | .lrg1 a, sc, N, .Call pf [.Call pr [pa] [] _] [] _ => nmIs pf "list" && glB sc "list" && nmIs pr "range" && glB sc "range" && plainE pa && chk a sc N pa
  | .lrg2 a b, sc, N, .Call pf [.Call pr [pa, pb] [] _] [] _ => nmIs pf "list" && glB sc "list" && nmIs pr "range" && glB sc "range" && plainE pa && plainE pb && chk a sc N pa && chk b sc N pb
  | .lrg3 a b c, sc, N, .Call pf [.Call pr [pa, pb, pc] [] _] [] _ => nmIs pf "list" && glB sc "list" && nmIs pr "range" && glB sc "range" && plainE pa && plainE pb && plainE pc && chk a sc N pa && chk b sc N pb && chk c sc N pc
  | .any, _, _, _ => true
  | .isk a _ _ x, sc, N, .Call pf [pa, px] [] _ => nmIs pf "isinstance" && glB sc "isinstance" && nmIs px x && glB sc x && plainN x && plainE pa && chk a sc N pa
  | .cnt a b, sc, N, .Call (.Attribute pa m apos) [pb] [] cpos => decide (m = ("count" : Str)) && (apos.endLine == cpos.line) && plainE pb && nmV pa && chk a sc N pa && chk b sc N pb
  | .idx a b, sc, N, .Call (.Attribute pa m apos) [pb] [] cpos => decide (m = ("index" : Str)) && (apos.endLine == cpos.line) && plainE pb && nmV pa && chk a sc N pa && chk b sc N pb
  | .callE a _ es, sc, N, .Call (.Subscript pf pi p) pes [] _ => !pes.isEmpty && chk a sc N (.Subscript pf pi p) && chks es sc N pes
  | .opn o a es, sc, N, pe => (match opSub o sc pe with
    | some q => chk a sc N q.1 && chks es sc N q.2
    | none => false)
  | .inT es a, sc, N, .Compare (.Tuple pes _ _) [op] [pb] _ => decide (op = .In) && decide (pes.length = 2) && noSet pb && chks es sc N pes && chk a sc N pb
  | .newd _, _, _, .Dict [] [] _ => true
  | .meth a x _ es, sc, N, .Call (.Attribute pa m apos) pes [] cpos => decide (m = x) && (apos.endLine == cpos.line) && nmW pa && decide (pes.length < 29) && chk a sc N pa && chks es sc N pes
  | .mk x _ es, sc, N, .Call pf pes [] _ => nmIs pf x && glB sc x && plainN x && !pes.isEmpty && chks es sc N pes
  | .tupw es, sc, N, .Tuple pes _ _ => chks es sc N pes
  | _, _, _, _ => false
def chks : Es → Scope → List Str → List Expr → Bool
  | .nil, _, _, [] => true
  | .cons e es, sc, N, pe :: pes => plainE pe && chk e sc N pe && chks es sc N pes
  | _, _, _, _ => false
def chko : Eo → Scope → List Str → Option Expr → Bool
  | .non, _, _, none => true
  | .som e, sc, N, some pe => chk e sc N pe
  | _, _, _, _ => false
def chkC : Eo → Scope → List Str → List Expr → Bool
  | .non, _, _, [] => true
  | .som e, sc, N, [pe] => chk e sc N pe
  | _, _, _, _ => false
def chkIt : It → Scope → List Str → Nat → Expr → Bool
  | .seq e, sc, N, _, pe => chk e sc N pe
  | .rng1 a, sc, N, _, .Call pf [pa] [] _ => nmIs pf "range" && glB sc "range" && plainE pa && chk a sc N pa
  | .rng2 a b, sc, N, _, .Call pf [pa, pb] [] _ => nmIs pf "range" && glB sc "range" && plainE pa && plainE pb && chk a sc N pa && chk b sc N pb
  | .enum a, sc, N, 1, .Call pf [pa] [] _ => nmIs pf "enumerate" && glB sc "enumerate" && plainE pa && chk a sc N pa
  | .enumN a, sc, N, 2, .Call pf [pa] [] _ => nmIs pf "enumerate" && glB sc "enumerate" && plainE pa && chk a sc N pa
  | .zip a b, sc, N, 1, .Call pf [pa, pb] [] _ => nmIs pf "zip" && glB sc "zip" && plainE pa && plainE pb && chk a sc N pa && chk b sc N pb
  | _, _, _, _, _ => false
end
/-! ### lists -/
theorem asg_cons {e : Expr} {es : List Expr} {env : PySem.Env} (h : plainE e = true) : assignEach (e :: es) env = (false, assign e env) :: assignEach es env := by
  cases e <;> first | rfl | cases h
theorem folded_of {e : Expr} {env : PySem.Env} (h : noSet e = true) (x : Value) : foldedSetIterable e env x = pure x := by
  cases e <;> first | rfl | cases h
/-- what a context is -/
structure CtxQ (X : Cx) (sc : Scope) (N : List Str) (k : Nat) : Prop where
  scE : X.env.scope = sc
  nm : X.N = N
  nd : N.Nodup
  calm : X.calm = true
  room : Room k X.A
  bf : ∀ x ∈ (["len", "abs", "max", "min", "int", "str", "list", "tuple", "sum", "all", "range", "enumerate", "zip", "isinstance", "bool", "dict", "sorted", "set"] : List Str), X.mg x = none
theorem CtxQ.hu {X : Cx} {sc : Scope} {N : List Str} {k : Nat} (c : CtxQ X sc N k) : X.A.units + 64 < cLine := c.room.units
theorem CtxQ.blk {X : Cx} {sc scope : Scope} {N : List Str} {k : Nat} (c : CtxQ X sc N k) (s : Shared) (H : Hp) (C : Addr) (cells : List (Str × Addr)) (fp : List Addr) : CtxQ (X.blk s H scope (compEnvC scope cells C X.env) fp) (relS scope sc) N k :=
  ⟨by rw [← c.scE]; rfl, c.nm, c.nd, c.calm, c.room, c.bf⟩
/-- where targets may be stored -/
def Stores (X : Cx) (sc : Scope) : Prop := ∀ x, locB sc x = true → L2.Loc X.env.scope x ∧ (X.fn x = true ∨ X.env.scope.names.lookup x = some .local)
theorem stores_blk {X : Cx} {sc scope : Scope} {N : List Str} {k : Nat} (c : CtxQ X sc N k) (s : Shared) (H : Hp) (C : Addr) (cells : List (Str × Addr)) (fp : List Addr) : Stores (X.blk s H scope (compEnvC scope cells C X.env) fp) scope := by
  intro x hx
  have e : (X.blk s H scope (compEnvC scope cells C X.env) fp).env.scope = relS scope X.env.scope := rfl
  rw [e]
  rcases loc_of hx with q | q
  · have z : (relS scope X.env.scope).names.lookup x = some .local := lookup_relS_keep (by decide) q
    exact ⟨.inl z, .inr z⟩
  · have z : (relS scope X.env.scope).names.lookup x = some .cell := lookup_relS_keep (by decide) q
    refine ⟨.inr z, .inl ?_⟩
    show (scope.names.lookup x == some .cell) = true
    rw [q]; rfl
/-! ### targets -/
theorem wipe_set {σ : L2.St} {i : Nat} {v : Option V} : ∀ {vs : List Nat}, i ∈ vs → L2.wipe (σ.set i v) vs = L2.wipe σ vs
  | w :: vs, h => by
    unfold L2.wipe
    by_cases e : i ∈ vs
    · rw [wipe_set e]
    · have ei : i = w := by
        rcases List.mem_cons.mp h with z | z
        · exact z
        · exact absurd z e
      subst ei
      have go : ∀ {us : List Nat}, i ∉ us → L2.wipe (σ.set i v) us = (L2.wipe σ us).set i v := by
        intro us
        induction us with
        | nil => intro _; rfl
        | cons u us ih =>
          intro hu
          simp only [List.mem_cons, not_or] at hu
          unfold L2.wipe
          rw [ih hu.2, List.set_comm _ _ hu.1]
      rw [go e, List.set_set]
theorem wipe_wipe {σ : L2.St} : ∀ (vs ws : List Nat), (∀ v ∈ vs, v ∈ ws) → L2.wipe (L2.wipe σ vs) ws = L2.wipe σ ws
  | [], _, _ => rfl
  | v :: vs, ws, h => by
    show L2.wipe ((L2.wipe σ vs).set v none) ws = _
    rw [wipe_set (h v List.mem_cons_self)]
    exact wipe_wipe vs ws fun x hx => h x (List.mem_cons_of_mem _ hx)
section
variable {X : Cx}
mutual
theorem pg_of {sc : Scope} {N : List Str} (hN : X.N = N) (nd : N.Nodup) (hc : X.calm = true) (hs : Stores X sc) : ∀ (t : Tg) (e : Expr), chkG sc N t e = true → PG X e (rdG X.K X.mg t)
  | .nm i, .Name x pos, h => by
    simp only [chkG, Bool.and_eq_true, decide_eq_true_eq] at h
    obtain ⟨h1, h2⟩ := hs x h.2
    refine L2PG.weaken (pg_name (i := i) (by rw [hN]; exact nd) (by rw [hN]; exact h.1) h1 h2) ?_
    rintro v σ H Q ⟨ω, ρ, S, d, ρ', hr, sl, rd, e, q⟩
    have e' : some (ρ.set i (some (.d d))) = some ρ' := by simpa [tgD] using e
    cases e'
    refine q _ (sl.set i (.d rd)) fun vs hv => ?_
    exact wipe_set (by simpa [tgIn] using hv)
  | .tp ts, .Tuple es k pos, h => by
    simp only [chkG] at h
    obtain ⟨hl, hf, hg⟩ := pgs_of hN nd hc hs ts es h
    refine L2PG.weaken (pg_tup (n := es.length) hc hg hl hf) ?_
    rintro v σ H Q ⟨ω, ρ, S, d, ρ', hr, sl, rd, e, q⟩
    cases d <;> try (simp [tgD] at e; done)
    rename_i xs
    have e' : tgDs ts xs ρ = some ρ' := by simpa [tgD] using e
    cases rd with
    | @tup a _ ys h1 h2 =>
    refine ⟨a, ys, rfl, Same.seqT hr.fz h1, ?_, ω, ρ, S, xs, ρ', hr, sl, h2, e', fun σ' sl' hw => q σ' sl' fun vs hv => hw vs (by simpa [tgIn] using hv)⟩
    rw [← h2.length, ← tgDs_len h, tgDs_lenx e']
  | .nm _, .Tuple _ _ _, h => by simp [chkG] at h
  | .tp _, .Name _ _, h => by simp [chkG] at h
  | .nm _, .BoolOp .., h => by simp [chkG] at h
  | .nm _, .NamedExpr .., h => by simp [chkG] at h
  | .nm _, .BinOp .., h => by simp [chkG] at h
  | .nm _, .UnaryOp .., h => by simp [chkG] at h
  | .nm _, .Lambda .., h => by simp [chkG] at h
  | .nm _, .IfExp .., h => by simp [chkG] at h
  | .nm _, .Dict .., h => by simp [chkG] at h
  | .nm _, .Set .., h => by simp [chkG] at h
  | .nm _, .ListComp .., h => by simp [chkG] at h
  | .nm _, .SetComp .., h => by simp [chkG] at h
  | .nm _, .DictComp .., h => by simp [chkG] at h
  | .nm _, .GeneratorExp .., h => by simp [chkG] at h
  | .nm _, .Await .., h => by simp [chkG] at h
  | .nm _, .Yield .., h => by simp [chkG] at h
  | .nm _, .YieldFrom .., h => by simp [chkG] at h
  | .nm _, .Compare .., h => by simp [chkG] at h
  | .nm _, .Call .., h => by simp [chkG] at h
  | .nm _, .FormattedValue .., h => by simp [chkG] at h
  | .nm _, .JoinedStr .., h => by simp [chkG] at h
  | .nm _, .Constant .., h => by simp [chkG] at h
  | .nm _, .Attribute .., h => by simp [chkG] at h
  | .nm _, .Subscript .., h => by simp [chkG] at h
  | .nm _, .Starred .., h => by simp [chkG] at h
  | .nm _, .List .., h => by simp [chkG] at h
  | .nm _, .Slice .., h => by simp [chkG] at h
  | .tp _, .BoolOp .., h => by simp [chkG] at h
  | .tp _, .NamedExpr .., h => by simp [chkG] at h
  | .tp _, .BinOp .., h => by simp [chkG] at h
  | .tp _, .UnaryOp .., h => by simp [chkG] at h
  | .tp _, .Lambda .., h => by simp [chkG] at h
  | .tp _, .IfExp .., h => by simp [chkG] at h
  | .tp _, .Dict .., h => by simp [chkG] at h
  | .tp _, .Set .., h => by simp [chkG] at h
  | .tp _, .ListComp .., h => by simp [chkG] at h
  | .tp _, .SetComp .., h => by simp [chkG] at h
  | .tp _, .DictComp .., h => by simp [chkG] at h
  | .tp _, .GeneratorExp .., h => by simp [chkG] at h
  | .tp _, .Await .., h => by simp [chkG] at h
  | .tp _, .Yield .., h => by simp [chkG] at h
  | .tp _, .YieldFrom .., h => by simp [chkG] at h
  | .tp _, .Compare .., h => by simp [chkG] at h
  | .tp _, .Call .., h => by simp [chkG] at h
  | .tp _, .FormattedValue .., h => by simp [chkG] at h
  | .tp _, .JoinedStr .., h => by simp [chkG] at h
  | .tp _, .Constant .., h => by simp [chkG] at h
  | .tp _, .Attribute .., h => by simp [chkG] at h
  | .tp _, .Subscript .., h => by simp [chkG] at h
  | .tp _, .Starred .., h => by simp [chkG] at h
  | .tp _, .List .., h => by simp [chkG] at h
  | .tp _, .Slice .., h => by simp [chkG] at h
theorem pgs_of {sc : Scope} {N : List Str} (hN : X.N = N) (nd : N.Nodup) (hc : X.calm = true) (hs : Stores X sc) : ∀ (t : List Tg) (e : List Expr), chkGs sc N t e = true → (assignEach e X.env).length = e.length ∧ (assignEach e X.env).findIdx? (·.1) = none ∧ PGs X e (rdGs X.K X.mg t)
  | [], [], _ => by
    refine ⟨rfl, rfl, L2PGs.weaken pgs_nil ?_⟩
    rintro v σ H Q ⟨ω, ρ, S, d, ρ', hr, sl, rd, e, q⟩
    cases d with
    | nil =>
      cases rd
      have e' : some ρ = some ρ' := by simpa [tgDs] using e
      cases e'
      exact ⟨rfl, q σ sl fun _ _ => rfl⟩
    | cons _ _ => simp [tgDs] at e
  | t :: ts, e :: es, h => by
    simp only [chkGs, Bool.and_eq_true] at h
    obtain ⟨hl, hf, hg⟩ := pgs_of hN nd hc hs ts es h.2
    have h1 := pg_of hN nd hc hs t e h.1.2
    have ac := asg_cons (es := es) (env := X.env) h.1.1
    refine ⟨by rw [ac, List.length_cons, List.length_cons, hl], by rw [ac, List.findIdx?_cons, hf]; rfl, L2PGs.weaken (pgs_cons h1 hg (by rw [ac]; rfl)) ?_⟩
    rintro v σ H Q ⟨ω, ρ, S, d, ρ', hr, sl, rd, e, q⟩
    cases d with
    | nil => simp [tgDs] at e
    | cons d ds =>
      cases rd with
      | @cons _ y _ ys r1 r2 =>
      simp only [tgDs] at e
      split at e
      · rename_i ρ1 q1
        exact ⟨y, ys, rfl, ω, ρ, S, d, ρ1, hr, sl, r1, q1, fun σ1 sl1 w1 => ⟨ω, ρ1, S, ds, ρ', hr, sl1, r2, e, fun σ' sl' w2 => q σ' sl' fun vs hv => by
          simp only [tgIns, Bool.and_eq_true] at hv
          exact (w2 vs hv.2).trans (w1 vs hv.1)⟩⟩
      · cases e
  | [], _ :: _, h => by simp [chkGs] at h
  | _ :: _, [], h => by simp [chkGs] at h
end
end
end Q
set_option Elab.async false
set_option maxRecDepth 100000
set_option linter.all false
set_option maxHeartbeats 1000000
/-! Each tree's reading. -/
namespace Q
open PySem PySem.Spec PyProof.Rows L2
/-- a def that keeps what f says -/
def spF (K : PySem.W.Frag) (mg : Str → Option Value) (cl : Nat → Addr) (n : Nat) (f : Fn) : Sp := fun vs H Q Ex => vs.length = n ∧ ∃ ω ws S, HRep K mg ω S H ∧ RepWs K mg ω ws vs ∧
  Post K mg cl (fun c d _ H' => Ex c d H') [] ω (f ws S) fun ω' _ H' w => ∀ x, RepW K mg ω' w x → Q x H'
def CallOk (prog : Program) (w : World) (K : PySem.W.Frag) (mg : Str → Option Value) (base : Heap) (cl : Nat → Addr) (k : Nat) (x : Str) (f : Fn) : Prop :=
  ∃ (a : Addr) (fd : FuncData) (ps : List Str), mg x = some (.ref a) ∧ PySem.W.keepIn K (.ref a) = true ∧ Binds K fd ps [] ∧ (∀ ws S, ws.length ≠ ps.length → f ws S = .stuck) ∧ FnOk prog w K mg base (L2.CX prog w) k a fd ps (spF K mg cl ps.length f)
def GlOk (K : PySem.W.Frag) (mg : Str → Option Value) (x : Str) (d : D) : Prop := ∃ u v, mg x = some u ∧ RelV v u ∧ ∀ F, RepD K mg F d v
/-- what is asked of the class Hall -/
inductive MK where
  | fld (x : Str) | meth (x : Str) (f : Fn) | mk (x : Str) (f : Fn) | kd (x : Str) (tab : List (Str × Int))
def HallOk (prog : Program) (w : World) (K : PySem.W.Frag) (mg : Str → Option Value) (base : Heap) (cl : Nat → Addr) (k : Nat) : MK → Prop
  | .fld x => ∃ C : Addr, mg "Hall" = some (.ref C) ∧ Cls K C ∧ NoAttr K C x
  | .meth x f => ∃ (C g : Addr) (fd : FuncData) (ps : List Str), mg "Hall" = some (.ref C) ∧ Cls K C ∧ Meth K C x g ∧ Binds K fd ps [] ∧ (∀ ws S, ws.length ≠ ps.length → f ws S = .stuck) ∧ FnOk prog w K mg base (L2.CX prog w) k g fd ps (spF K mg cl ps.length f)
  | .mk x f => x = "Hall" ∧ ∃ (C g : Addr) (fd : FuncData) (ps : List Str) (j : Nat), j + 1 ≤ k ∧ mg "Hall" = some (.ref C) ∧ Mk K C g ∧ Binds K fd ps [] ∧ (∀ ws S, ws.length ≠ ps.length → f ws S = .stuck) ∧ FnOk prog w K mg base (L2.CX prog w) j g fd ps (spF K mg cl ps.length f)
  | .kd x tab => ∃ (d : Addr) (es : Array DictEntry) (n : Nat), mg x = some (.ref d) ∧ KDict K w d es n ∧ ∀ z : Str, ∃ r, PySem.W.nsIn K d z = some r ∧
      match (tab.find? fun p => decide (p.1 = z)) with
      | some p => ∃ t, r = some (.int p.2 t)
      | none => r = none
def okOp (M : MK → Prop) : Opr → Prop
  | .fld x => M (.fld x)
  | .gget x tab => M (.kd x tab)
  | _ => True
mutual
/-- what the tree's calls and constants lean on -/
def okE (P : Str → Fn → Prop) (G : Str → D → Prop) (M : MK → Prop) : E → Prop
  | .gl x v => G x v
  | .bin _ a b => okE P G M a ∧ okE P G M b
  | .neg a => okE P G M a
  | .cmp _ a b => okE P G M a ∧ okE P G M b
  | .chain _ _ a b c => okE P G M a ∧ okE P G M b ∧ okE P G M c
  | .chain3 _ _ _ a b c d => okE P G M a ∧ okE P G M b ∧ okE P G M c ∧ okE P G M d
  | .nt a => okE P G M a
  | .and es => okEs P G M es
  | .or es => okEs P G M es
  | .ite c a b => okE P G M c ∧ okE P G M a ∧ okE P G M b
  | .tup es => okEs P G M es
  | .lst es => okEs P G M es
  | .newl es => okEs P G M es
  | .ix a b => okE P G M a ∧ okE P G M b
  | .sl a lo hi => okE P G M a ∧ okEo P G M lo ∧ okEo P G M hi
  | .bi _ es => okEs P G M es
  | .isi a _ => okE P G M a
  | .app a b => okE P G M a ∧ okE P G M b
  | .ext a b => okE P G M a ∧ okE P G M b
  | .call x f es => P x f ∧ okEs P G M es
  | .comp _ _ it cond elt => okIt P G M it ∧ okEo P G M cond ∧ okE P G M elt
  | .frz a => okE P G M a
  | .lrg1 a => okE P G M a
  | .sl2 a => okE P G M a
  | .lrg2 a b => okE P G M a ∧ okE P G M b
  | .lrg3 a b c => okE P G M a ∧ okE P G M b ∧ okE P G M c
  | .isk _ _ _ _ => False
  | .cnt a b => okE P G M a ∧ okE P G M b
  | .idx a b => okE P G M a ∧ okE P G M b
  | .callE a tab es => okE P G M a ∧ (∀ p ∈ tab, P p.1 p.2) ∧ okEs P G M es
  | .opn o a es => okOp M o ∧ okE P G M a ∧ okEs P G M es
  | .inT es a => okEs P G M es ∧ okE P G M a
  | .meth a x f es => M (.meth x f) ∧ okE P G M a ∧ okEs P G M es
  | .mk x f es => M (.mk x f) ∧ okEs P G M es
  | .tupw es => okEs P G M es
  | _ => True
def okEs (P : Str → Fn → Prop) (G : Str → D → Prop) (M : MK → Prop) : Es → Prop
  | .nil => True
  | .cons e es => okE P G M e ∧ okEs P G M es
def okEo (P : Str → Fn → Prop) (G : Str → D → Prop) (M : MK → Prop) : Eo → Prop
  | .non => True
  | .som e => okE P G M e
def okIt (P : Str → Fn → Prop) (G : Str → D → Prop) (M : MK → Prop) : It → Prop
  | .seq e => okE P G M e
  | .rng1 a => okE P G M a
  | .rng2 a b => okE P G M a ∧ okE P G M b
  | .enum a => okE P G M a
  | .enumN a => okE P G M a
  | .zip a b => okE P G M a ∧ okE P G M b
end
section
variable {K : PySem.W.Frag} {mg : Str → Option Value} {cl : Nat → Addr} {Wx : WX} {σ : L2.St} {ω : Wd} {H : Hp} {S : Store}
theorem Post.now {α : Type} {v : α} {P : Wd → Store → Hp → α → Prop} (h : Post K mg cl Wx σ ω (.ok v S) P) (hr : HRep K mg ω S H) : P ω S H v := h ω H (.refl ω) hr
theorem post_ofD {o : Option D} {P : Wd → Store → Hp → W → Prop} (h : Post K mg cl Wx σ ω (ofD o S) P) : ∃ r, o = some r ∧ Post K mg cl Wx σ ω (.ok (.d r) S) P := by
  cases o with
  | none => exact h.elim
  | some r => exact ⟨r, rfl, h⟩
theorem post_ofB {o : Option Bool} {P : Wd → Store → Hp → W → Prop} (h : Post K mg cl Wx σ ω (ofB o S) P) : ∃ r, o = some r ∧ Post K mg cl Wx σ ω (.ok (.d (.bl r)) S) P := by
  cases o with
  | none => exact h.elim
  | some r => exact ⟨r, rfl, h⟩
theorem post_grow {d : D} {Q : VK} (hr : HRep K mg ω S H) (h : Post K mg cl Wx σ ω (.ok (.d d) S) fun ω' _ H' w => ∀ x, RepW K mg ω' w x → Q x H') : ∀ F' H' z, Grow ω.fz H F' H' → RepD K mg F' d z → Q z H' :=
  fun F' H' z g r => h { ω with fz := F' } H' (g.wd hr.fz) (hr.grow g) z (.d r)
theorem post_op2 {f : D → D → Option D} {x y : W} {vx vy : V} {Q : VK} (hr : HRep K mg ω S H) (rx : RepW K mg ω x vx) (ry : RepW K mg ω y vy)
    (h : Post K mg cl Wx σ ω (op2 f x y S) fun ω' _ H' w => ∀ x, RepW K mg ω' w x → Q x H') :
    ∃ F d e r, Same F H ∧ RdV K mg F H d vx ∧ RdV K mg F H e vy ∧ f d e = some r ∧ ∀ F' H' z, Grow F H F' H' → RepD K mg F' r z → Q z H' := by
  unfold op2 at h
  split at h
  · rename_i a b e1 e2
    obtain ⟨r, e3, h⟩ := post_ofD h
    exact ⟨ω.fz, a, b, r, hr.fz, view_rd hr rx e1, view_rd hr ry e2, e3, post_grow hr h⟩
  · exact h.elim
theorem post_op2b {f : D → D → Option Bool} {x y : W} {vx vy : V} {P : Wd → Store → Hp → W → Prop} (hr : HRep K mg ω S H) (rx : RepW K mg ω x vx) (ry : RepW K mg ω y vy)
    (h : Post K mg cl Wx σ ω (op2b f x y S) P) :
    ∃ d e r, RdV K mg ω.fz H d vx ∧ RdV K mg ω.fz H e vy ∧ f d e = some r ∧ P ω S H (.d (.bl r)) := by
  unfold op2b at h
  split at h
  · rename_i a b e1 e2
    obtain ⟨r, e3, h⟩ := post_ofB h
    exact ⟨a, b, r, view_rd hr rx e1, view_rd hr ry e2, e3, h.now hr⟩
  · exact h.elim
theorem post_asB {w : W} {P : Wd → Store → Hp → Bool → Prop} (hr : HRep K mg ω S H) (h : Post K mg cl Wx σ ω (asB w S) P) : ∃ b, w = .d (.bl b) ∧ P ω S H b := by
  unfold asB at h
  split at h
  · exact ⟨_, rfl, h.now hr⟩
  · exact h.elim
theorem repW_bl {b : Bool} {v : V} (r : RepW K mg ω (.d (.bl b)) v) : v = .bl b := r.of_d.of_bl
theorem views_rd (hr : HRep K mg ω S H) : ∀ {ws : List W} {xs : List V} {ds : List D}, RepWs K mg ω ws xs → views S ws = some ds → Paired (RdV K mg ω.fz H) ds xs
  | _, _, ds, .nil, e => by cases e; exact .nil
  | w :: ws, _, ds, .cons r rs, e => by
    simp only [views] at e
    split at e
    · rename_i x xs' e1 e2
      cases e
      exact .cons (view_rd hr r e1) (views_rd hr rs e2)
    · cases e
end
section
variable {X : Cx} {cl : Nat → Addr} {Wx : WX}
abbrev SE (X : Cx) (cl : Nat → Addr) (Wx : WX) (pe : Expr) (f : Env → Store → R W) : Prop := PE X pe (rdE X.K X.mg cl Wx f)
abbrev ST (X : Cx) (cl : Nat → Addr) (Wx : WX) (pe : Expr) (f : Env → Store → R Bool) : Prop := PT X pe (rdT X.K X.mg cl Wx f)
abbrev SW (X : Cx) (cl : Nat → Addr) (Wx : WX) (pe : Expr) (f : Env → Store → R Bool) : Prop := PW X pe (rdT X.K X.mg cl Wx f)
abbrev SA (X : Cx) (cl : Nat → Addr) (Wx : WX) (pe : List Expr) (f : Env → Store → R (List W)) : Prop := PA X pe (rdA X.K X.mg cl Wx f)
variable {pa pb pc : Expr} {fa fb fc : Env → Store → R W} {ta tb : Env → Store → R Bool} {pos : Pos}
theorem se_var {i : Nat} {x : Str} (hN : X.N[i]? = some x) (hv : Vis X.env.scope x) (hd : (x == ("__debug__" : Str)) = false) (hcd : (x == ("__classdict__" : Str)) = false) : SE X cl Wx (.Name x pos) (fun ρ S => lookV ρ i S) := by
  refine L2PE.weaken (pe_var hN hv hd hcd) ?_
  rintro σ H Q ⟨ω, ρ, S, hr, sl, h⟩
  dsimp only [lookV] at h
  split at h
  · rename_i w e
    obtain ⟨x, e1, r⟩ := sl.at_ i w e
    exact ⟨x, e1, h.now hr x r⟩
  · exact h.elim
theorem se_c {k : Const} {d : D} {j : Nat} (h : cEq d k = true) : SE X cl Wx (.Constant k j pos) (fun _ S => .ok (.d d) S) := by
  unfold cEq at h
  split at h
  · refine L2PE.weaken pe_non ?_
    rintro σ H Q ⟨ω, ρ, S, hr, sl, h⟩
    exact h.now hr _ (.d .non)
  · cases of_decide_eq_true h
    refine L2PE.weaken pe_bl ?_
    rintro σ H Q ⟨ω, ρ, S, hr, sl, h⟩
    exact h.now hr _ (.d (.bl _))
  · cases of_decide_eq_true h
    refine L2PE.weaken pe_int ?_
    rintro σ H Q ⟨ω, ρ, S, hr, sl, h⟩
    exact h.now hr _ (.d (.int _))
  · cases of_decide_eq_true h
    refine L2PE.weaken pe_str ?_
    rintro σ H Q ⟨ω, ρ, S, hr, sl, h⟩
    exact h.now hr _ (.d (.str _))
  · cases h
theorem se_gl {x : Str} {d : D} (hg : Gl X x) (ok : GlOk X.K X.mg x d) (hd : (x == ("__debug__" : Str)) = false) : SE X cl Wx (.Name x pos) (fun _ S => .ok (.d d) S) := by
  obtain ⟨u, v, h1, h2, h3⟩ := ok
  refine L2PE.weaken (pe_glob hg h1 h2 hd) ?_
  rintro σ H Q ⟨ω, ρ, S, hr, sl, h⟩
  exact h.now hr _ (.d (h3 _))
theorem se_bin (o : Bop) (ha : SE X cl Wx pa fa) (hb : SE X cl Wx pb fb) : SE X cl Wx (.BinOp pa o.py pb pos) (fun ρ S => (fa ρ S).bind fun x S1 => (fb ρ S1).bind fun y S2 => op2 (bop o) x y S2) := by
  refine L2PE.weaken (pe_op (o2_bop o) ha hb) ?_
  rintro σ H Q ⟨ω, ρ, S, hr, sl, h⟩
  refine ⟨ω, ρ, S, hr, sl, h.bind.mono fun ω1 S1 H1 x l1 hr1 h1 vx rx => ⟨ω1, ρ, S1, hr1, sl.mono l1, h1.bind.mono fun ω2 S2 H2 y l2 hr2 h2 vy ry => ?_⟩⟩
  exact post_op2 hr2 (rx.mono l2) ry h2
theorem se_neg (ha : SE X cl Wx pa fa) : SE X cl Wx (.UnaryOp .USub pa pos) (fun ρ S => (fa ρ S).bind fun x S1 => op1 negD x S1) := by
  refine L2PE.weaken (pe_un un_neg ha) ?_
  rintro σ H Q ⟨ω, ρ, S, hr, sl, h⟩
  refine ⟨ω, ρ, S, hr, sl, h.bind.mono fun ω1 S1 H1 x l1 hr1 h1 vx rx => ?_⟩
  unfold op1 at h1
  split at h1
  · rename_i a e1
    obtain ⟨r, e3, h1⟩ := post_ofD h1
    cases a <;> try (cases e3; done)
    cases e3
    cases (view_rd hr1 rx e1).int
    exact ⟨_, rfl, h1.now hr1 _ (.d (.int _))⟩
  · exact h1.elim
theorem se_cmp (hu : X.A.units + 64 < cLine) (o : Cop) (ha : SE X cl Wx pa fa) (hb : SE X cl Wx pb fb) (hm : noSet pb = true) : SE X cl Wx (.Compare pa [o.py] [pb] pos) (fun ρ S => (fa ρ S).bind fun x S1 => (fb ρ S1).bind fun y S2 => op2b (cop o) x y S2) := by
  refine L2PE.weaken (pe_cmpR (o2_cop hu o) ha hb (marks_of hm)) ?_
  rintro σ H Q ⟨ω, ρ, S, hr, sl, h⟩
  refine ⟨ω, ρ, S, hr, sl, h.bind.mono fun ω1 S1 H1 x l1 hr1 h1 vx rx => ⟨ω1, ρ, S1, hr1, sl.mono l1, h1.bind.mono fun ω2 S2 H2 y l2 hr2 h2 vy ry => ?_⟩⟩
  obtain ⟨d, e, r, a1, a2, a3, a4⟩ := post_op2b hr2 (rx.mono l2) ry h2
  exact ⟨ω2.fz, d, e, r, hr2.fz, a1, a2, a3, a4 _ (.d (.bl _))⟩
theorem st_cmp (hu : X.A.units + 64 < cLine) (o : Cop) (ha : SE X cl Wx pa fa) (hb : SE X cl Wx pb fb) (hm : noSet pb = true) : ST X cl Wx (.Compare pa [o.py] [pb] pos) (fun ρ S => (fa ρ S).bind fun x S1 => (fb ρ S1).bind fun y S2 => (op2b (cop o) x y S2).bind fun r S3 => asB r S3) := by
  refine L2PT.weaken (pt_cmpR (o2_cop hu o) ha hb (marks_of hm)) ?_
  rintro σ H Q ⟨ω, ρ, S, hr, sl, h⟩
  refine ⟨ω, ρ, S, hr, sl, h.bind.mono fun ω1 S1 H1 x l1 hr1 h1 vx rx => ⟨ω1, ρ, S1, hr1, sl.mono l1, h1.bind.mono fun ω2 S2 H2 y l2 hr2 h2 vy ry => ?_⟩⟩
  obtain ⟨d, e, r, a1, a2, a3, a4⟩ := post_op2b hr2 (rx.mono l2) ry h2.bind
  exact ⟨ω2.fz, d, e, r, hr2.fz, a1, a2, a3, r, rfl, Post.now (v := r) a4 hr2⟩
theorem marks2 {op op' : CmpOp} {b c : Expr} (h : noSet c = true) : lastMarks [op, op'] [b, c] = false := marks_of (op := op') h
theorem se_chain (hu : X.A.units + 64 < cLine) (o o' : Cop) (ha : SE X cl Wx pa fa) (hb : SE X cl Wx pb fb) (hc : SE X cl Wx pc fc) (hm : noSet pc = true) : SE X cl Wx (.Compare pa [o.py, o'.py] [pb, pc] pos)
    (fun ρ S => (fa ρ S).bind fun x S1 => (fb ρ S1).bind fun y S2 => (op2b (cop o) x y S2).bind fun r S3 => (asB r S3).bind fun k S4 =>
      if k = true then (fc ρ S4).bind fun z S5 => op2b (cop o') y z S5 else .ok (.d (.bl false)) S4) := by
  refine L2PE.weaken (pe_chain (o2_cop hu o) (o2_cop hu o') ha hb hc (marks2 hm)) ?_
  rintro σ H Q ⟨ω, ρ, S, hr, sl, h⟩
  refine ⟨ω, ρ, S, hr, sl, h.bind.mono fun ω1 S1 H1 x l1 hr1 h1 vx rx => ⟨ω1, ρ, S1, hr1, sl.mono l1, h1.bind.mono fun ω2 S2 H2 y l2 hr2 h2 vy ry => ?_⟩⟩
  obtain ⟨d, e, r, a1, a2, a3, a4⟩ := post_op2b hr2 (rx.mono l2) ry h2.bind
  refine ⟨ω2.fz, d, e, r, hr2.fz, a1, a2, a3, r, rfl, ?_⟩
  have a5 := Post.now (v := r) (Post.bind a4) hr2
  cases r with
  | false => exact Post.now (S := S2) a5 hr2 _ (.d (.bl _))
  | true =>
    rw [if_pos rfl]
    refine ⟨ω2, ρ, S2, hr2, (sl.mono l1).mono l2, (Post.bind a5).mono fun ω3 S3 H3 z l3 hr3 h3 vz rz => ?_⟩
    obtain ⟨d', e', r', b1, b2, b3, b4⟩ := post_op2b hr3 (ry.mono l3) rz h3
    exact ⟨ω3.fz, d', e', r', hr3.fz, b1, b2, b3, b4 _ (.d (.bl _))⟩
/-- a op1 b op2 c op3 d -/
def tChain3 (r r' r'' : R2) (ta tb tc td : TE) : TE := fun σ H Q => ta σ H fun x H1 => tb σ H1 fun y H2 => r x y H2 fun z H3 => ∃ k, z = .bl k ∧
  (if k = true then tc σ H3 fun w' H4 => r' y w' H4 fun z' H5 => ∃ k', z' = .bl k' ∧ (if k' = true then td σ H5 fun v' H6 => r'' w' v' H6 Q else Q (.bl false) H5) else Q (.bl false) H3)
theorem pe_chain3 {a b c d : Expr} {ta tb tc td : TE} {op op' op'' : CmpOp} {r r' r'' : R2} (ho : OpR X (compareOp op) r) (ho' : OpR X (compareOp op') r') (ho'' : OpR X (compareOp op'') r'') (ha : PE X a ta) (hb : PE X b tb) (hc : PE X c tc) (hd : PE X d td)
    (hm : lastMarks [op, op', op''] [b, c, d] = false) : PE X (.Compare a [op, op', op''] [b, c, d] pos) (tChain3 r r' r'' ta tb tc td) := by
  refine ⟨fun pins s σ H Q I h => ?_⟩
  refine Compare_chain (thn (ha.run pins s σ H _ I h) fun v s1 ⟨x, H1, I1, r1, q1⟩ => chain_link (thn (hb.run pins s1 σ H1 _ I1 q1) fun u s2 ⟨y, H2, I2, r2, q2⟩ =>
    thn (ho pins s2 σ H2 x y v u _ I2 r1 r2 q2) fun e1 s3 ⟨z, H3, I3, r3, k, e, q3⟩ => ?_)) hm
  subst e
  cases r3
  refine wpAny_truthy_bool ?_
  cases k with
  | false => exact ite_ff ⟨.bl false, H3, I3, rfl, q3⟩
  | true =>
    refine ite_tt (chain_link (thn (hc.run pins s3 σ H3 _ I3 q3) fun w' s4 ⟨z', H4, I4, r4, q4⟩ => thn (ho' pins s4 σ H4 y z' u w' _ I4 r2 r4 q4) fun e2 s5 ⟨z2, H5, I5, r5, k2, e5, q5⟩ => ?_))
    subst e5
    cases r5
    refine wpAny_truthy_bool ?_
    cases k2 with
    | false => exact ite_ff ⟨.bl false, H5, I5, rfl, q5⟩
    | true => exact ite_tt (chain_last (thn (hd.run pins s5 σ H5 _ I5 q5) fun v' s6 ⟨z3, H6, I6, r6, q6⟩ => ho'' pins s6 σ H6 z' z3 w' v' Q I6 r4 r6 q6))
theorem marks3 {op op' op'' : CmpOp} {b c d : Expr} (h : noSet d = true) : lastMarks [op, op', op''] [b, c, d] = false := marks_of (op := op'') h
theorem se_chain3 {pd : Expr} {fd : Env → Store → R W} (hu : X.A.units + 64 < cLine) (o o' o'' : Cop) (ha : SE X cl Wx pa fa) (hb : SE X cl Wx pb fb) (hc : SE X cl Wx pc fc) (hd : SE X cl Wx pd fd) (hm : noSet pd = true) : SE X cl Wx (.Compare pa [o.py, o'.py, o''.py] [pb, pc, pd] pos)
    (fun ρ S => (fa ρ S).bind fun x S1 => (fb ρ S1).bind fun y S2 => (op2b (cop o) x y S2).bind fun r S3 => (asB r S3).bind fun k S4 =>
      if k = true then (fc ρ S4).bind fun z S5 => (op2b (cop o') y z S5).bind fun r S6 => (asB r S6).bind fun k S7 => if k = true then (fd ρ S7).bind fun u S8 => op2b (cop o'') z u S8 else .ok (.d (.bl false)) S7
      else .ok (.d (.bl false)) S4) := by
  refine L2PE.weaken (pe_chain3 (o2_cop hu o) (o2_cop hu o') (o2_cop hu o'') ha hb hc hd (marks3 hm)) ?_
  rintro σ H Q ⟨ω, ρ, S, hr, sl, h⟩
  refine ⟨ω, ρ, S, hr, sl, h.bind.mono fun ω1 S1 H1 x l1 hr1 h1 vx rx => ⟨ω1, ρ, S1, hr1, sl.mono l1, h1.bind.mono fun ω2 S2 H2 y l2 hr2 h2 vy ry => ?_⟩⟩
  obtain ⟨d, e, r, a1, a2, a3, a4⟩ := post_op2b hr2 (rx.mono l2) ry h2.bind
  refine ⟨ω2.fz, d, e, r, hr2.fz, a1, a2, a3, r, rfl, ?_⟩
  have a5 := Post.now (v := r) (Post.bind a4) hr2
  cases r with
  | false => exact Post.now (S := S2) a5 hr2 _ (.d (.bl _))
  | true =>
    rw [if_pos rfl]
    refine ⟨ω2, ρ, S2, hr2, (sl.mono l1).mono l2, (Post.bind a5).mono fun ω3 S3 H3 z l3 hr3 h3 vz rz => ?_⟩
    obtain ⟨d', e', r', b1, b2, b3, b4⟩ := post_op2b hr3 (ry.mono l3) rz (Post.bind h3)
    refine ⟨ω3.fz, d', e', r', hr3.fz, b1, b2, b3, r', rfl, ?_⟩
    have b5 := Post.now (v := r') (Post.bind b4) hr3
    cases r' with
    | false => exact Post.now (S := S3) b5 hr3 _ (.d (.bl _))
    | true =>
      rw [if_pos rfl]
      refine ⟨ω3, ρ, S3, hr3, ((sl.mono l1).mono l2).mono l3, (Post.bind b5).mono fun ω4 S4 H4 u l4 hr4 h4 vu ru => ?_⟩
      obtain ⟨d2, e2, r2, c1, c2, c3, c4⟩ := post_op2b hr4 (rz.mono l4) ru h4
      exact ⟨ω4.fz, d2, e2, r2, hr4.fz, c1, c2, c3, c4 _ (.d (.bl _))⟩
theorem st_chain (hu : X.A.units + 64 < cLine) (o o' : Cop) (ha : SE X cl Wx pa fa) (hb : SE X cl Wx pb fb) (hc : SE X cl Wx pc fc) (hm : noSet pc = true) : ST X cl Wx (.Compare pa [o.py, o'.py] [pb, pc] pos)
    (fun ρ S => (fa ρ S).bind fun x S1 => (fb ρ S1).bind fun y S2 => (op2b (cop o) x y S2).bind fun r S3 => (asB r S3).bind fun k S4 =>
      if k = true then (fc ρ S4).bind fun z S5 => (op2b (cop o') y z S5).bind fun r S6 => asB r S6 else .ok false S4) := by
  refine L2PT.weaken (pt_chain (o2_cop hu o) (o2_cop hu o') ha hb hc (marks2 hm)) ?_
  rintro σ H Q ⟨ω, ρ, S, hr, sl, h⟩
  refine ⟨ω, ρ, S, hr, sl, h.bind.mono fun ω1 S1 H1 x l1 hr1 h1 vx rx => ⟨ω1, ρ, S1, hr1, sl.mono l1, h1.bind.mono fun ω2 S2 H2 y l2 hr2 h2 vy ry => ?_⟩⟩
  obtain ⟨d, e, r, a1, a2, a3, a4⟩ := post_op2b hr2 (rx.mono l2) ry h2.bind
  refine ⟨ω2.fz, d, e, r, hr2.fz, a1, a2, a3, r, rfl, ?_⟩
  have a5 := Post.now (v := r) (Post.bind a4) hr2
  cases r with
  | false => exact ⟨false, rfl, Post.now (S := S2) a5 hr2⟩
  | true =>
    rw [if_pos rfl]
    refine ⟨ω2, ρ, S2, hr2, (sl.mono l1).mono l2, (Post.bind a5).mono fun ω3 S3 H3 z l3 hr3 h3 vz rz => ?_⟩
    obtain ⟨d', e', r', b1, b2, b3, b4⟩ := post_op2b hr3 (ry.mono l3) rz h3.bind
    exact ⟨ω3.fz, d', e', r', hr3.fz, b1, b2, b3, r', rfl, Post.now (v := r') b4 hr3⟩
theorem se_not (ha : SE X cl Wx pa fa) : SE X cl Wx (.UnaryOp .Not pa pos) (fun ρ S => (fa ρ S).bind fun x S1 => (asB x S1).bind fun k S2 => .ok (.d (.bl (!k))) S2) := by
  refine L2PE.weaken (pe_not ha) ?_
  rintro σ H Q ⟨ω, ρ, S, hr, sl, h⟩
  refine ⟨ω, ρ, S, hr, sl, h.bind.mono fun ω1 S1 H1 x l1 hr1 h1 vx rx => ?_⟩
  obtain ⟨b, rfl, a⟩ := post_asB hr1 h1.bind
  cases repW_bl rx
  exact ⟨b, rfl, Post.now a hr1 _ (.d (.bl _))⟩
theorem st_not (ha : ST X cl Wx pa ta) : ST X cl Wx (.UnaryOp .Not pa pos) (fun ρ S => (ta ρ S).bind fun k S1 => .ok (!k) S1) := by
  refine L2PT.weaken (pt_not ha) ?_
  rintro σ H Q ⟨ω, ρ, S, hr, sl, h⟩
  exact ⟨ω, ρ, S, hr, sl, h.bind.mono fun ω1 S1 H1 x l1 hr1 h1 => h1.now hr1⟩
theorem se_one {op : PySem.BoolOp} (ha : SE X cl Wx pa fa) : SE X cl Wx (.BoolOp op [pa] pos) fa := pe_one ha
theorem se_and {r : List Expr} (ha : SE X cl Wx pa fa) (hb : SE X cl Wx (.BoolOp .And (pb :: r) pos) fb) : SE X cl Wx (.BoolOp .And (pa :: pb :: r) pos) (fun ρ S => (fa ρ S).bind fun x S1 => (asB x S1).bind fun k S2 => if k = true then fb ρ S2 else .ok (.d (.bl false)) S2) := by
  refine L2PE.weaken (pe_and ha hb) ?_
  rintro σ H Q ⟨ω, ρ, S, hr, sl, h⟩
  refine ⟨ω, ρ, S, hr, sl, h.bind.mono fun ω1 S1 H1 x l1 hr1 h1 vx rx => ?_⟩
  obtain ⟨b, rfl, a⟩ := post_asB hr1 h1.bind
  cases repW_bl rx
  refine ⟨b, rfl, ?_⟩
  cases b with
  | false => exact Post.now (S := S1) a hr1 _ (.d (.bl _))
  | true => exact ⟨ω1, ρ, S1, hr1, sl.mono l1, a⟩
theorem se_or {r : List Expr} (ha : SE X cl Wx pa fa) (hb : SE X cl Wx (.BoolOp .Or (pb :: r) pos) fb) : SE X cl Wx (.BoolOp .Or (pa :: pb :: r) pos) (fun ρ S => (fa ρ S).bind fun x S1 => (asB x S1).bind fun k S2 => if k = true then .ok (.d (.bl true)) S2 else fb ρ S2) := by
  refine L2PE.weaken (pe_or ha hb) ?_
  rintro σ H Q ⟨ω, ρ, S, hr, sl, h⟩
  refine ⟨ω, ρ, S, hr, sl, h.bind.mono fun ω1 S1 H1 x l1 hr1 h1 vx rx => ?_⟩
  obtain ⟨b, rfl, a⟩ := post_asB hr1 h1.bind
  cases repW_bl rx
  refine ⟨b, rfl, ?_⟩
  cases b with
  | true => exact Post.now (S := S1) a hr1 _ (.d (.bl _))
  | false => exact ⟨ω1, ρ, S1, hr1, sl.mono l1, a⟩
theorem sw_and {r : List Expr} (ha : ST X cl Wx pa ta) (hb : SW X cl Wx (.BoolOp .And (pb :: r) pos) tb) : SW X cl Wx (.BoolOp .And (pa :: pb :: r) pos) (fun ρ S => (ta ρ S).bind fun k S1 => if k = true then tb ρ S1 else .ok false S1) := by
  refine L2PW.weaken (pw_and ha hb) ?_
  rintro σ H Q ⟨ω, ρ, S, hr, sl, h⟩
  refine ⟨ω, ρ, S, hr, sl, h.bind.mono fun ω1 S1 H1 b l1 hr1 a => ?_⟩
  cases b with
  | false => exact Post.now (S := S1) a hr1
  | true => exact ⟨ω1, ρ, S1, hr1, sl.mono l1, a⟩
theorem sw_or {r : List Expr} (ha : ST X cl Wx pa ta) (hb : SW X cl Wx (.BoolOp .Or (pb :: r) pos) tb) : SW X cl Wx (.BoolOp .Or (pa :: pb :: r) pos) (fun ρ S => (ta ρ S).bind fun k S1 => if k = true then .ok true S1 else tb ρ S1) := by
  refine L2PW.weaken (pw_or ha hb) ?_
  rintro σ H Q ⟨ω, ρ, S, hr, sl, h⟩
  refine ⟨ω, ρ, S, hr, sl, h.bind.mono fun ω1 S1 H1 b l1 hr1 a => ?_⟩
  cases b with
  | true => exact Post.now (S := S1) a hr1
  | false => exact ⟨ω1, ρ, S1, hr1, sl.mono l1, a⟩
theorem sw_and1 (ha : ST X cl Wx pa ta) : SW X cl Wx (.BoolOp .And [pa] pos) ta := pw_and1 ha
theorem sw_or1 (ha : ST X cl Wx pa ta) : SW X cl Wx (.BoolOp .Or [pa] pos) ta := pw_or1 ha
theorem se_ite (hc : ST X cl Wx pc ta) (ha : SE X cl Wx pa fa) (hb : SE X cl Wx pb fb) : SE X cl Wx (.IfExp pc pa pb pos) (fun ρ S => (ta ρ S).bind fun k S1 => if k = true then fa ρ S1 else fb ρ S1) := by
  refine L2PE.weaken (pe_ifExp hc ha hb) ?_
  rintro σ H Q ⟨ω, ρ, S, hr, sl, h⟩
  refine ⟨ω, ρ, S, hr, sl, h.bind.mono fun ω1 S1 H1 b l1 hr1 a => ?_⟩
  cases b with
  | true => exact ⟨ω1, ρ, S1, hr1, sl.mono l1, a⟩
  | false => exact ⟨ω1, ρ, S1, hr1, sl.mono l1, a⟩
/-- a value that is a bool, as a test -/
theorem st_val (ha : SE X cl Wx pa fa) (he : ∀ whole, isTrue pa X.env whole = (do let v ← whole; standAt pa.pos; holding [v] (truthy v))) : ST X cl Wx pa (fun ρ S => (fa ρ S).bind fun r S2 => asB r S2) := by
  refine L2PT.weaken (pt_val ha he) ?_
  rintro σ H Q ⟨ω, ρ, S, hr, sl, h⟩
  refine ⟨ω, ρ, S, hr, sl, h.bind.mono fun ω1 S1 H1 x l1 hr1 h1 vx rx => ?_⟩
  obtain ⟨b, rfl, a⟩ := post_asB hr1 h1
  cases repW_bl rx
  exact ⟨b, rfl, a⟩
theorem st_truth (ha : SE X cl Wx pa fa) (he : ∀ whole, isTrue pa X.env whole = (do let v ← whole; standAt pa.pos; holding [v] (truthy v))) : ST X cl Wx pa (fun ρ S => (fa ρ S).bind fun r S2 => truth r S2) := by
  refine L2PT.weaken (pt_truth ha he) ?_
  rintro σ H Q ⟨ω, ρ, S, hr, sl, h⟩
  refine ⟨ω, ρ, S, hr, sl, h.bind.mono fun ω1 S1 H1 x l1 hr1 h1 vx rx => ?_⟩
  unfold truth at h1
  split at h1
  · rename_i b e
    cases (view_rd hr1 rx e).bl
    exact ⟨b, rfl, h1.now hr1⟩
  · rename_i xs e
    obtain ⟨a, ys, rfl, q1, q2⟩ := (view_rd hr1 rx e).list hr1.fz
    refine ⟨!xs.isEmpty, .inl ⟨ys, .of q1, ?_⟩, h1.now hr1⟩
    cases q2 <;> rfl
  · exact h1.elim
/-! ### lists of expressions, displays -/
theorem sa_nil : SA X cl Wx [] (fun _ S => .ok [] S) := by
  refine L2PA.weaken pa_nil ?_
  rintro σ H Q ⟨ω, ρ, S, hr, sl, h⟩
  exact h.now hr _ .nil
theorem sa_cons {es : List Expr} {fs : Env → Store → R (List W)} (hp : plainE pa = true) (ha : SE X cl Wx pa fa) (hs : SA X cl Wx es fs) : SA X cl Wx (pa :: es) (fun ρ S => (fa ρ S).bind fun x S1 => (fs ρ S1).bind fun xs S2 => .ok (x :: xs) S2) := by
  refine L2PA.weaken (pa_cons ha hs (star_cons hp)) ?_
  rintro σ H Q ⟨ω, ρ, S, hr, sl, h⟩
  refine ⟨ω, ρ, S, hr, sl, h.bind.mono fun ω1 S1 H1 x l1 hr1 h1 vx rx => ⟨ω1, ρ, S1, hr1, sl.mono l1, h1.bind.mono fun ω2 S2 H2 y l2 hr2 h2 vy ry => ?_⟩⟩
  exact h2.now hr2 _ (.cons (rx.mono l2) ry)
theorem se_tup {es : List Expr} {k : Nat} {fs : Env → Store → R (List W)} (hs : SA X cl Wx es fs) : SE X cl Wx (.Tuple es k pos) (fun ρ S => (fs ρ S).bind fun ws S1 => tupOf ws S1) := by
  refine L2PE.weaken (pe_tup hs) ?_
  rintro σ H Q ⟨ω, ρ, S, hr, sl, h⟩
  refine ⟨ω, ρ, S, hr, sl, h.bind.mono fun ω1 S1 H1 ws l1 hr1 h1 xs rs => ?_⟩
  unfold tupOf at h1
  split at h1
  · rename_i hl
    split at h1
    · rename_i ds e
      have rd := rs.allD e
      refine ⟨by rw [← rs.length]; exact hl, fun p hp => ?_⟩
      have g := Grow.new hr1.fz (o := .tup xs) hp
      exact post_grow hr1 h1 _ _ _ g (.tup (.of upd_same) (rd.mono (g.same hr1.fz)))
    · exact h1.elim
  · exact h1.elim
theorem se_lst {es : List Expr} {fs : Env → Store → R (List W)} (hs : SA X cl Wx es fs) : SE X cl Wx (.List es pos) (fun ρ S => (fs ρ S).bind fun ws S1 => lstOf ws S1) := by
  refine L2PE.weaken (pe_lst hs) ?_
  rintro σ H Q ⟨ω, ρ, S, hr, sl, h⟩
  refine ⟨ω, ρ, S, hr, sl, h.bind.mono fun ω1 S1 H1 ws l1 hr1 h1 xs rs => ?_⟩
  unfold lstOf at h1
  split at h1
  · rename_i hl
    split at h1
    · rename_i ds e
      have rd := rs.allD e
      refine ⟨by rw [← rs.length]; exact hl, fun p hp => ?_⟩
      have g := Grow.new hr1.fz (o := .lst xs) hp
      exact post_grow hr1 h1 _ _ _ g (.lst upd_same (rd.mono (g.same hr1.fz)))
    · exact h1.elim
  · exact h1.elim
theorem se_newl {es : List Expr} {fs : Env → Store → R (List W)} (hs : SA X cl Wx es fs) : SE X cl Wx (.List es pos) (fun ρ S => (fs ρ S).bind fun ws S1 => newlOf ws S1) := by
  refine L2PE.weaken (pe_lst hs) ?_
  rintro σ H Q ⟨ω, ρ, S, hr, sl, h⟩
  refine ⟨ω, ρ, S, hr, sl, h.bind.mono fun ω1 S1 H1 ws l1 hr1 h1 xs rs => ?_⟩
  unfold newlOf at h1
  split at h1
  · rename_i hl
    split at h1
    · rename_i ds e
      have rd := rs.allD e
      refine ⟨by rw [← rs.length]; exact hl, fun p hp => ?_⟩
      refine h1 { ω1 with mu := ω1.mu ++ [p] } _ ⟨Same.refl _, ⟨[p], rfl⟩, rfl, rfl⟩ (hr1.push hp (.lst upd_same rd)) _ (.loc ?_)
      rw [← hr1.len]
      simp
    · exact h1.elim
  · exact h1.elim
theorem se_ix (ha : SE X cl Wx pa fa) (hb : SE X cl Wx pb fb) (hs : noSlice pb = true) : SE X cl Wx (.Subscript pa pb pos) (fun ρ S => (fa ρ S).bind fun x S1 => (fb ρ S1).bind fun y S2 => ixW x y S2) := by
  refine L2PE.weaken (pe_ix ix_D ha hb (plainIx_of hs)) ?_
  rintro σ H Q ⟨ω, ρ, S, hr, sl, h⟩
  refine ⟨ω, ρ, S, hr, sl, h.bind.mono fun ω1 S1 H1 x l1 hr1 h1 vx rx => ⟨ω1, ρ, S1, hr1, sl.mono l1, h1.bind.mono fun ω2 S2 H2 y l2 hr2 h2 vy ry => ?_⟩⟩
  exact post_op2 hr2 (rx.mono l2) ry h2
abbrev SO (X : Cx) (cl : Nat → Addr) (Wx : WX) (pe : Option Expr) (f : Env → Store → R (Option Int)) : Prop := PO X pe (rdO X.K X.mg cl Wx f)
theorem so_non : SO X cl Wx none (fun _ S => .ok none S) := by
  refine L2PO.weaken po_none ?_
  rintro σ H Q ⟨ω, ρ, S, hr, sl, h⟩
  exact h.now hr
theorem so_som (ha : SE X cl Wx pa fa) : SO X cl Wx (some pa) (fun ρ S => (fa ρ S).bind fun x S1 => match x with
    | .d (.int i) => .ok (some i) S1
    | _ => .stuck) := by
  refine L2PO.weaken (po_some ha) ?_
  rintro σ H Q ⟨ω, ρ, S, hr, sl, h⟩
  refine ⟨ω, ρ, S, hr, sl, h.bind.mono fun ω1 S1 H1 x l1 hr1 h1 vx rx => ?_⟩
  split at h1
  · cases rx.of_d.of_int
    exact ⟨_, rfl, h1.now hr1⟩
  · exact h1.elim
theorem se_sl {lo hi : Option Expr} {fl fh : Env → Store → R (Option Int)} {p2 : Pos} (ha : SE X cl Wx pa fa) (hl : SO X cl Wx lo fl) (hh : SO X cl Wx hi fh) :
    SE X cl Wx (.Subscript pa (.Slice lo hi none p2) pos) (fun ρ S => (fa ρ S).bind fun x S1 => (fl ρ S1).bind fun l S2 => (fh ρ S2).bind fun h S3 => slW x l h S3) := by
  refine L2PE.weaken (pe_slice sl_D ha hl hh) ?_
  rintro σ H Q ⟨ω, ρ, S, hr, sl, h⟩
  refine ⟨ω, ρ, S, hr, sl, h.bind.mono fun ω1 S1 H1 x l1 hr1 h1 vx rx => ⟨ω1, ρ, S1, hr1, sl.mono l1, h1.bind.mono fun ω2 S2 H2 lo l2 hr2 h2 => ⟨ω2, ρ, S2, hr2, (sl.mono l1).mono l2, h2.bind.mono fun ω3 S3 H3 hi l3 hr3 h3 => ?_⟩⟩⟩
  unfold slW at h3
  split at h3
  · rename_i a e
    obtain ⟨r, e3, h3⟩ := post_ofD h3
    exact ⟨ω3.fz, a, r, hr3.fz, view_rd hr3 ((rx.mono l2).mono l3) e, e3, post_grow hr3 h3⟩
  · exact h3.elim
end
end Q
set_option Elab.async false
set_option maxRecDepth 100000
set_option linter.all false
set_option maxHeartbeats 1000000
/-! Calls, stores, what is walked, comprehensions. -/
namespace Q
open PySem PySem.Spec PyProof.Rows L2
section
variable {X : Cx} {cl : Nat → Addr} {Wx : WX}
variable {pa pb pc : Expr} {fa fb fc : Env → Store → R W} {ta tb : Env → Store → R Bool} {pos : Pos}
theorem base_of {e : Expr} {m : Str} {env : PySem.Env} {wh : Sem Value} (h : nmV e = true) : attributeBase e m env wh = wh := by
  cases e <;> first | rfl | cases h
theorem few_of {pb : Expr} {env : PySem.Env} {cpos : Pos} (h : plainE pb = true) : ((backTo cpos (starEach [pb] env)).all (fun x => !x.1) && (backToKw cpos (keywordEach [] env)).all (fun x => x.1.isSome)
      && decide ([pb].length + ([] : List Keyword).length + (if ([] : List Keyword).isEmpty then 0 else 1) < 30)) = true := by
  rw [star_cons h]; rfl
theorem recv_list {ω : Wd} {S : Store} {H : Hp} {x : W} {vx : V} (hr : HRep X.K X.mg ω S H) (r : RepW X.K X.mg ω x vx) {xs : List D} (e : view S x = some (.lst xs)) : tyV X.K "list" vx H := by
  obtain ⟨a, ys, rfl, q1, q2⟩ := (view_rd hr r e).list hr.fz
  exact .inl ⟨rfl, ys, .of q1⟩
theorem se_app {apos : Pos} {m : Str} (hm : m = ("append" : Str)) (hl : (apos.endLine == pos.line) = true) (hp : plainE pb = true) (hn : nmV pa = true) (ha : SE X cl Wx pa fa) (hb : SE X cl Wx pb fb) :
    SE X cl Wx (.Call (.Attribute pa m apos) [pb] [] pos) (fun ρ S => (fa ρ S).bind fun x S1 => (recvL x S1).bind fun x S2 => (fb ρ S2).bind fun y S3 => appW x y S3) := by
  subst hm
  refine L2PE.weaken (pe_bm PySem.F.plainAttrs_list PySem.F.slot_list_append PySem.F.type_list_append mt_append ha (pa_cons hb pa_nil (star_cons hp)) (base_of hn) (few_of hp) hl (star_cons hp) rfl) ?_
  rintro σ H Q ⟨ω, ρ, S, hr, sl, h⟩
  refine ⟨ω, ρ, S, hr, sl, h.bind.mono fun ω1 S1 H1 x l1 hr1 h1 vx rx => ?_⟩
  unfold recvL at h1
  split at h1
  · rename_i xs0 e0
    refine ⟨recv_list hr1 rx e0, ω1, ρ, S1, hr1, sl.mono l1, (Post.bind (r := fb ρ S1) h1).mono fun ω2 S2 H2 y l2 hr2 h2 vy ry => ?_⟩
    unfold appW at h2
    split at h2
    · rename_i k v
      split at h2
      · rename_i xs e
        split at h2
        · rename_i hlen
          cases rx.mono l2 with
          | @loc _ a ek =>
          cases hr2.obj k _ a e ek with
          | @lst _ _ ys q1 q2 =>
          refine ⟨a, ys, vy, rfl, rfl, q1, by rw [← q2.length]; exact hlen, ?_⟩
          exact h2 ω2 _ (.refl _) (hr2.put e rfl ek (.lst upd_same (q2.append (.cons ry.of_d .nil)))) _ (.d .non)
        · exact h2.elim
      · exact h2.elim
    · exact h2.elim
  · exact h1.elim
theorem se_ext {apos : Pos} {m : Str} (hm : m = ("extend" : Str)) (hl : (apos.endLine == pos.line) = true) (hp : plainE pb = true) (hn : nmV pa = true) (ha : SE X cl Wx pa fa) (hb : SE X cl Wx pb fb) :
    SE X cl Wx (.Call (.Attribute pa m apos) [pb] [] pos) (fun ρ S => (fa ρ S).bind fun x S1 => (recvL x S1).bind fun x S2 => (fb ρ S2).bind fun y S3 => extW x y S3) := by
  subst hm
  refine L2PE.weaken (pe_bm PySem.F.plainAttrs_list PySem.F.slot_list_extend PySem.F.type_list_extend mt_extend ha (pa_cons hb pa_nil (star_cons hp)) (base_of hn) (few_of hp) hl (star_cons hp) rfl) ?_
  rintro σ H Q ⟨ω, ρ, S, hr, sl, h⟩
  refine ⟨ω, ρ, S, hr, sl, h.bind.mono fun ω1 S1 H1 x l1 hr1 h1 vx rx => ?_⟩
  unfold recvL at h1
  split at h1
  · rename_i xs0 e0
    refine ⟨recv_list hr1 rx e0, ω1, ρ, S1, hr1, sl.mono l1, (Post.bind (r := fb ρ S1) h1).mono fun ω2 S2 H2 y l2 hr2 h2 vy ry => ?_⟩
    unfold extW at h2
    split at h2
    · rename_i k zs
      split at h2
      · rename_i xs e
        split at h2
        · rename_i hlen
          cases rx.mono l2 with
          | @loc _ a ek =>
          cases hr2.obj k _ a e ek with
          | @lst _ _ ys q1 q2 =>
          cases ry.of_d with
          | @lst b _ ws w1 w2 =>
          refine ⟨a, b, ys, ws, rfl, rfl, q1, hr2.fz _ _ w1, by rw [← q2.length, ← w2.length]; exact hlen, ?_⟩
          exact h2 ω2 _ (.refl _) (hr2.put e rfl ek (.lst upd_same (q2.append w2))) _ (.d .non)
        · exact h2.elim
      · exact h2.elim
    · exact h2.elim
  · exact h1.elim
/-- a list is never changed from now on -/
theorem frz_step {ω1 : Wd} {S1 S' : Store} {H1 : Hp} {x w' : W} {vx : V} (hr1 : HRep X.K X.mg ω1 S1 H1) (rx : RepW X.K X.mg ω1 x vx) (h1 : frzW x S1 = .ok w' S') : ∃ ω', ω1.le ω' ∧ HRep X.K X.mg ω' S' H1 ∧ RepW X.K X.mg ω' w' vx := by
  unfold frzW at h1
  split at h1
  · rename_i k
    split at h1
    · rename_i xs e
      cases h1
      cases rx with
      | @loc _ a ek =>
      cases hr1.obj k _ a e ek with
      | @lst _ _ ys q1 q2 =>
      have fa0 := hr1.nfz k _ a e rfl ek
      have sm : Same ω1.fz (upd ω1.fz a (.lst ys)) := fun b v q => by rw [upd_ne (ne_of_none q fa0)]; exact q
      have le : ω1.le { ω1 with fz := upd ω1.fz a (.lst ys) } := ⟨sm, ⟨[], by simp⟩, rfl, rfl⟩
      refine ⟨{ ω1 with fz := upd ω1.fz a (.lst ys) }, le, ⟨fun b v q => ?_, by rw [List.length_set]; exact hr1.len, hr1.nd, fun j p b e1 e2 => ?_, fun j p b e1 e2 e3 => ?_, hr1.fr, hr1.nfr, fun b v q => ?_⟩, .d (.lst upd_same (q2.mono sm))⟩
      · by_cases z : b = a
        · subst z
          have q' : upd ω1.fz b (.lst ys) b = some v := q
          rw [upd_same] at q'; cases q'; exact q1
        · have q' : upd ω1.fz a (.lst ys) b = some v := q
          rw [upd_ne z] at q'; exact hr1.fz b v q'
      · by_cases z : j = k
        · subst z
          have e2' : ω1.mu[j]? = some b := e2
          rw [ek] at e2'; cases e2'
          rw [List.getElem?_set_self (List.getElem?_eq_some_iff.mp e).1] at e1; cases e1
          exact .dead q1
        · rw [List.getElem?_set_ne (Ne.symm z)] at e1
          exact (hr1.obj j p b e1 e2).mono le.lo fun v q => q
      · by_cases z : j = k
        · subst z
          rw [List.getElem?_set_self (List.getElem?_eq_some_iff.mp e).1] at e1; cases e1; cases e2
        · rw [List.getElem?_set_ne (Ne.symm z)] at e1
          have nb : b ≠ a := fun y => z (nodup_at hr1.nd (y ▸ e3) ek)
          show upd ω1.fz a (.lst ys) b = none
          rw [upd_ne nb]
          exact hr1.nfz j p b e1 e2 e3
      · have nb : b ≠ a := ne_of_none q (hr1.nfr k a ek)
        show upd ω1.fz a (.lst ys) b = none
        rw [upd_ne nb]
        exact hr1.nff b v q
    · cases h1
  · cases h1
    exact ⟨ω1, .refl _, hr1, rx⟩
theorem se_frz (ha : SE X cl Wx pa fa) : SE X cl Wx pa (fun ρ S => (fa ρ S).bind fun x S1 => frzW x S1) := by
  refine L2PE.weaken ha ?_
  rintro σ H Q ⟨ω, ρ, S, hr, sl, h⟩
  refine ⟨ω, ρ, S, hr, sl, h.bind.mono fun ω1 S1 H1 x l1 hr1 h1 vx rx => ?_⟩
  cases e : frzW x S1 with
  | ok w' S' =>
    rw [e] at h1
    obtain ⟨ω2, l2, hr2, r2⟩ := frz_step hr1 rx e
    exact h1 ω2 H1 l2 hr2 _ r2
  | exc c S' =>
    exfalso
    unfold frzW at e
    split at e
    · split at e <;> cases e
    · cases e
  | stuck => rw [e] at h1; exact h1.elim
/-! ### calls -/
theorem bi_boot : ∀ b : Bi, bootBuiltins (Str.ofString b.name) = some b.val
  | .len => by decide +kernel
  | .abs => by decide +kernel
  | .max => by decide +kernel
  | .min => by decide +kernel
  | .intOf => by decide +kernel
  | .strOf => by decide +kernel
  | .listOf => by decide +kernel
  | .tupleOf => by decide +kernel
  | .sum => by decide +kernel
  | .maxL => by decide +kernel
  | .minL => by decide +kernel
  | .all => by decide +kernel
  | .dictOf => by decide +kernel
  | .sorted => by decide +kernel
theorem nm_of {e : Expr} {x : Str} (h : nmIs e x = true) : ∃ p, e = .Name x p := by
  unfold nmIs at h
  split at h
  · cases of_decide_eq_true h; exact ⟨_, rfl⟩
  · cases h
theorem gl_of {x : Str} {sc : Scope} (hs : X.env.scope = sc) (h : glB sc x = true) : Gl X x := by
  subst hs
  exact of_decide_eq_true (p := X.env.scope.names.lookup x = some .globalImplicit) h
theorem bi_names (b : Bi) : (b.name : Str) ∈ (["len", "abs", "max", "min", "int", "str", "list", "tuple", "sum", "all", "range", "enumerate", "zip", "isinstance", "bool", "dict", "sorted", "set"] : List Str) := by
  cases b <;> decide +kernel
theorem bi_plain (b : Bi) : (b.name : Str) ≠ "__name__" ∧ ((b.name : Str) == ("__debug__" : Str)) = false := by
  cases b <;> decide +kernel
theorem se_bi {es : List Expr} {fs : Env → Store → R (List W)} (b : Bi) (hc : X.calm = true) (hg : Gl X b.name) (hm : X.mg b.name = none) (hs : SA X cl Wx es fs) (hp : es.all plainE = true) (hne : es.isEmpty = false) {p : Pos} :
    SE X cl Wx (.Call (.Name b.name p) es [] pos) (fun ρ S => (fs ρ S).bind fun ws S1 => biW b ws S1) := by
  cases es with
  | nil => cases hne
  | cons e es =>
  simp only [List.all_cons, Bool.and_eq_true] at hp
  have key : ∀ {σ : L2.St} {H : Hp} {Q : VK}, rdE X.K X.mg cl Wx (fun ρ S => (fs ρ S).bind fun ws S1 => biW b ws S1) σ H Q →
      tCB (fun xs H Q => ∃ F ds r, Same F H ∧ Paired (RdV X.K X.mg F H) ds xs ∧ biop b ds = some r ∧ ∀ F' H' z, Grow F H F' H' → RepD X.K X.mg F' r z → Q z H') (rdA X.K X.mg cl Wx fs) σ H Q := by
    rintro σ H Q ⟨ω, ρ, S, hr, sl, h⟩
    refine ⟨ω, ρ, S, hr, sl, h.bind.mono fun ω1 S1 H1 ws l1 hr1 h1 xs rs => ?_⟩
    unfold biW at h1
    split at h1
    · rename_i ds e1
      obtain ⟨r, e3, h1⟩ := post_ofD h1
      exact ⟨ω1.fz, ds, r, hr1.fz, views_rd hr1 rs e1, e3, post_grow hr1 h1⟩
    · exact h1.elim
  have bb := bi_boot b
  have bc := bi_call hc b
  cases ht : b.isTy with
  | true =>
    unfold Bi.val at bb bc
    rw [if_pos ht] at bb bc
    exact L2PE.weaken (pe_callTy bc hg hm bb hs (bi_plain b).1 (bi_plain b).2 (star_cons hp.1) (star_any hp.2)) fun σ H Q => key
  | false =>
    unfold Bi.val at bb bc
    rw [if_neg (by rw [ht]; decide)] at bb bc
    exact L2PE.weaken (pe_callB bc hg hm bb hs (bi_plain b).1 (bi_plain b).2 (star_cons hp.1) (star_any hp.2)) fun σ H Q => key
theorem ty_boot : ∀ t : Ty, bootBuiltins (Str.ofString t.name) = some (.type t.name)
  | .int => by decide +kernel
  | .bool => by decide +kernel
  | .str => by decide +kernel
  | .tuple => by decide +kernel
  | .list => by decide +kernel
theorem ty_plain (t : Ty) : (t.name : Str) ≠ "__name__" ∧ ((t.name : Str) == ("__debug__" : Str)) = false ∧ (t.name : Str) ∈ (["len", "abs", "max", "min", "int", "str", "list", "tuple", "sum", "all", "range", "enumerate", "zip", "isinstance", "bool", "dict", "sorted", "set"] : List Str) := by
  cases t <;> decide +kernel
theorem se_isi (t : Ty) (hg : Gl X "isinstance") (hm : X.mg "isinstance" = none) (hg2 : Gl X t.name) (hm2 : X.mg t.name = none) (ha : SE X cl Wx pa fa) (hp : plainE pa = true) {p q : Pos} :
    SE X cl Wx (.Call (.Name "isinstance" p) [pa, .Name t.name q] [] pos) (fun ρ S => (fa ρ S).bind fun x S1 => isiW x t S1) := by
  have hty : PE X (.Name t.name q) (tC (.ty t.name)) := pe_bltn hg2 hm2 (ty_boot t) rfl (ty_plain t).1 (ty_plain t).2.1
  refine L2PE.weaken (pe_callB (call_isiD t) hg hm (by decide +kernel) (pa_cons ha (pa_cons hty pa_nil (star_cons rfl)) (star_cons hp)) (by decide +kernel) (by decide +kernel) (star_cons hp) (star_any rfl)) ?_
  rintro σ H Q ⟨ω, ρ, S, hr, sl, h⟩
  refine ⟨ω, ρ, S, hr, sl, h.bind.mono fun ω1 S1 H1 x l1 hr1 h1 vx rx => ?_⟩
  unfold isiW at h1
  split at h1
  · rename_i a e
    obtain ⟨r, e3, h1⟩ := post_ofB h1
    exact ⟨ω1.fz, a, vx, r, rfl, hr1.fz, view_rd hr1 rx e, e3, h1.now hr1 _ (.d (.bl _))⟩
  · exact h1.elim
theorem se_call {k : Nat} {es : List Expr} {fs : Env → Store → R (List W)} {x : Str} {f : Fn} (room : Room k X.A) (tk : Takes X Wx) (hg : Gl X x) (hd : (x == ("__debug__" : Str)) = false) (hk : CallOk X.prog X.w X.K X.mg X.base cl k x f) (hs : SA X cl Wx es fs) (hp : es.all plainE = true) (hne : es.isEmpty = false) {p : Pos} :
    SE X cl Wx (.Call (.Name x p) es [] pos) (fun ρ S => (fs ρ S).bind fun ws S1 => f ws S1) := by
  cases es with
  | nil => cases hne
  | cons e es =>
  simp only [List.all_cons, Bool.and_eq_true] at hp
  obtain ⟨a, fd, ps, h1, h2, h3, h5, h4⟩ := hk
  refine L2PE.weaken (pe_callS h4 room hg h1 h2 h3 (fun σ => passAt tk σ) hs hd (star_cons hp.1) (star_any hp.2)) ?_
  rintro σ H Q ⟨ω, ρ, S, hr, sl, h⟩
  refine ⟨ω, ρ, S, hr, sl, h.bind.mono fun ω1 S1 H1 ws l1 hr1 h1 xs rs => ⟨?_, ω1, ws, S1, hr1, rs, ?_⟩⟩
  · rw [← rs.length]
    refine Classical.byContradiction fun z => ?_
    rw [h5 ws S1 z] at h1
    exact h1.elim
  · cases hf : f ws S1 with
    | ok w S2 => rw [hf] at h1; exact h1
    | exc c S2 => rw [hf] at h1; exact h1
    | stuck => rw [hf] at h1; exact h1
/-! ### count, index -/
theorem toPys_map : ∀ xs : List D, toPys xs = xs.map toPy
  | [] => rfl
  | x :: xs => by rw [toPys, toPys_map xs]; rfl
theorem reads_map {H : Hp} {pins : List (Addr × Obj)} {σ : L2.St} {s : Shared} {ds : List PyData} {vs : List V} {its : List Value} (I : Inv X pins σ H s) (ha : DpAll X.K H vs ds) (rv : Vals vs its) (hxs : PyData.canLayAll0 ds = true) :
    ∃ as, ReadsAll s.heap its ds as ∧ its.map (SeqAt.readOf s.heap) = ds := by
  obtain ⟨as, h4⟩ := Dp.readsAll I ds _ its ha rv
  exact ⟨as, h4, SeqAt.readsAll_map ds its as hxs h4⟩
def rCountD (K : PySem.W.Frag) : V → List V → Hp → VK → Prop := fun x xs H Q => ∃ (a : Addr) (y : V) (d : PyData) (ds : List PyData), x = V.ref a ∧ xs = [y] ∧ Dp K H (V.ref a) (.list ds) ∧ Dp K H y d ∧
  SeqAt.shaped (.list ds) = true ∧ SeqAt.shaped d = true ∧ Q (.int ((ds.countP fun z => PyData.eqv z d : Nat) : Int)) H
theorem mt_countD (hu : X.A.units + 65 < cLine) : MtR X "list.count" (rCountD X.K) := by
  intro pins s σ H x xs v us Q I rx rxs h
  obtain ⟨a, y, d, ds, rfl, rfl, hl, hy, sl, sd, q⟩ := h
  cases rx
  cases rxs with
  | @cons _ uy _ ut ry rt =>
  cases rt
  obtain ⟨bs, r1⟩ := Dp.reads I d y uy hy ry
  have lay := SeqAt.canLay_of_shaped sl
  cases hl with
  | lst hs ha =>
  obtain ⟨its, rv, ⟨⟨cls, dd, data, sls⟩, n, ho, hc, hdn, hdt⟩, hlen⟩ := I.list hs
  dsimp only at hc hdt
  subst hc hdt
  obtain ⟨as, h4, hmap⟩ := reads_map I ha rv lay
  refine call_meets PySem.F.slot_list_count ⟨_, ho, rfl⟩ PySem.F.entry_list_count (PySem.F.args_list_count_2 _ _)
    (SeqAt.list_countAt a its.toArray n dd sls uy (fun u => PyData.eqv (SeqAt.readOf s.heap u) d)) ⟨ho, SeqAt.items_eqAt (vs := its.toArray) h4 r1 lay (SeqAt.canLay_of_shaped sd) (room_in_shaped sd hu), ?_⟩
  have e : its.toArray.toList.countP (fun u => PyData.eqv (SeqAt.readOf s.heap u) d) = ds.countP fun z => PyData.eqv z d := by
    rw [← hmap, List.countP_map]
    rfl
  rw [e]
  exact ⟨.int _, H, I.tok _, ⟨_, rfl⟩, q⟩
theorem okd_lst {xs : List D} (h : okds 8 xs = true) : okd 9 (.lst xs) = true := by simpa [okd] using h
theorem toPy_lst (xs : List D) : toPy (.lst xs) = .list (toPys xs) := by simp [toPy]
theorem se_cnt {apos : Pos} {m : Str} (hu : X.A.units + 65 < cLine) (hm : m = ("count" : Str)) (hl : (apos.endLine == pos.line) = true) (hp : plainE pb = true) (hn : nmV pa = true) (ha : SE X cl Wx pa fa) (hb : SE X cl Wx pb fb) :
    SE X cl Wx (.Call (.Attribute pa m apos) [pb] [] pos) (fun ρ S => (fa ρ S).bind fun x S1 => (recvL x S1).bind fun x S2 => (fb ρ S2).bind fun y S3 => cntW x y S3) := by
  subst hm
  refine L2PE.weaken (pe_bm PySem.F.plainAttrs_list PySem.F.slot_list_count PySem.F.type_list_count (mt_countD hu) ha (pa_cons hb pa_nil (star_cons hp)) (base_of hn) (few_of hp) hl (star_cons hp) rfl) ?_
  rintro σ H Q ⟨ω, ρ, S, hr, sl, h⟩
  refine ⟨ω, ρ, S, hr, sl, h.bind.mono fun ω1 S1 H1 x l1 hr1 h1 vx rx => ?_⟩
  unfold recvL at h1
  split at h1
  · rename_i xs0 e0
    refine ⟨recv_list hr1 rx e0, ω1, ρ, S1, hr1, sl.mono l1, (Post.bind (r := fb ρ S1) h1).mono fun ω2 S2 H2 y l2 hr2 h2 vy ry => ?_⟩
    unfold cntW at h2
    split at h2
    · rename_i xs d e
      obtain ⟨r, e3, h2⟩ := post_ofD h2
      unfold cntD at e3
      split at e3
      · rename_i hk
        cases e3
        simp only [Bool.and_eq_true] at hk
        have rd := view_rd hr2 (rx.mono l2) e
        have rl := rd
        obtain ⟨a, ys, rfl, q1, q2⟩ := rl.list hr2.fz
        have dx := rd.dp hr2.fz (okd_lst hk.1)
        rw [toPy_lst] at dx
        have sx := shaped_of (okd_lst hk.1)
        rw [toPy_lst] at sx
        refine ⟨a, vy, toPy d, toPys xs, rfl, rfl, dx, dp_of hr2.fz 9 ry.of_d hk.2, sx, shaped_of hk.2, ?_⟩
        have ec : (toPys xs).countP (fun z => PyData.eqv z (toPy d)) = xs.countP (sameD d) := by
          rw [toPys_map, List.countP_map]; rfl
        rw [ec]
        exact h2.now hr2 _ (.d (.int _))
      · cases e3
    · exact h2.elim
  · exact h1.elim
theorem se_idx {apos : Pos} {m : Str} (hu : X.A.units + 65 < cLine) (hm : m = ("index" : Str)) (hl : (apos.endLine == pos.line) = true) (hp : plainE pb = true) (hn : nmV pa = true) (ha : SE X cl Wx pa fa) (hb : SE X cl Wx pb fb) :
    SE X cl Wx (.Call (.Attribute pa m apos) [pb] [] pos) (fun ρ S => (fa ρ S).bind fun x S1 => (recvL x S1).bind fun x S2 => (fb ρ S2).bind fun y S3 => idxW x y S3) := by
  subst hm
  refine L2PE.weaken (pe_bm PySem.F.plainAttrs_list PySem.F.slot_list_index PySem.F.type_list_index (mt_indexD hu) ha (pa_cons hb pa_nil (star_cons hp)) (base_of hn) (few_of hp) hl (star_cons hp) rfl) ?_
  rintro σ H Q ⟨ω, ρ, S, hr, sl, h⟩
  refine ⟨ω, ρ, S, hr, sl, h.bind.mono fun ω1 S1 H1 x l1 hr1 h1 vx rx => ?_⟩
  unfold recvL at h1
  split at h1
  · rename_i xs0 e0
    refine ⟨recv_list hr1 rx e0, ω1, ρ, S1, hr1, sl.mono l1, (Post.bind (r := fb ρ S1) h1).mono fun ω2 S2 H2 y l2 hr2 h2 vy ry => ?_⟩
    unfold idxW at h2
    split at h2
    · rename_i xs d e
      obtain ⟨r, e3, h2⟩ := post_ofD h2
      unfold idxD at e3
      split at e3
      · rename_i hk
        obtain ⟨j, hj, rfl⟩ := Option.map_eq_some_iff.mp e3
        simp only [Bool.and_eq_true] at hk
        have rd := view_rd hr2 (rx.mono l2) e
        have rl := rd
        obtain ⟨a, ys, rfl, q1, q2⟩ := rl.list hr2.fz
        have dx := rd.dp hr2.fz (okd_lst hk.1)
        rw [toPy_lst] at dx
        have sx := shaped_of (okd_lst hk.1)
        rw [toPy_lst] at sx
        obtain ⟨hlt, hpj, hno⟩ := List.findIdx?_eq_some_iff_getElem.mp hj
        refine ⟨a, vy, toPy d, toPys xs, j, toPy xs[j], rfl, rfl, dx, dp_of hr2.fz 9 ry.of_d hk.2, sx, shaped_of hk.2, ?_, hpj, ?_, ?_⟩
        · rw [toPys_map, List.getElem?_map, List.getElem?_eq_getElem hlt]; rfl
        · intro m z' hm hz
          rw [toPys_map, List.getElem?_map, List.getElem?_eq_getElem (by omega)] at hz
          cases hz
          have := hno m hm
          unfold sameD at this
          simpa using this
        · exact h2.now hr2 _ (.d (.int _))
      · cases e3
    · exact h2.elim
  · exact h1.elim
/-! ### a call of a def that is found by what it is -/
theorem se_callE {k : Nat} {es : List Expr} {pf pi : Expr} {tab : List (Str × Fn)} {fs : Env → Store → R (List W)} {p : Pos} (room : Room k X.A) (tk : Takes X Wx) (hf : SE X cl Wx (.Subscript pf pi p) fa) (hk : ∀ q ∈ tab, CallOk X.prog X.w X.K X.mg X.base cl k q.1 q.2) (hs : SA X cl Wx es fs) (hp : es.all plainE = true) (hne : es.isEmpty = false) :
    SE X cl Wx (.Call (.Subscript pf pi p) es [] pos) (fun ρ S => (fa ρ S).bind fun w S1 => match tabW w tab with
    | some f => (fs ρ S1).bind fun ws S2 => f ws S2
    | none => .stuck) := by
  cases es with
  | nil => cases hne
  | cons e es =>
  simp only [List.all_cons, Bool.and_eq_true] at hp
  refine ⟨fun pins s σ H Q I h => ?_⟩
  obtain ⟨ω, ρ, S, hr, sl, h⟩ := h
  refine Call_ (thn (hf.run pins s σ H (fun v H1 => ∃ (a : Addr) (x : Str) (f : Fn), v = .ref a ∧ X.mg x = some (.ref a) ∧ (x, f) ∈ tab ∧ rdA X.K X.mg cl Wx fs σ H1 (fun xs H2 => spF X.K X.mg cl xs.length f xs H2 Q (WE Wx σ))) I ⟨ω, ρ, S, hr, sl, h.bind.mono fun ω1 S1 H1 w l1 hr1 h1 vw rw_ => ?_⟩) fun u s1 ⟨v, H1, I1, r1, a, x, f, ev, hx, hm, q1⟩ => ?_)
  · split at h1
    · rename_i f hf
      unfold tabW at hf
      split at hf
      · rename_i x
        obtain ⟨q, hq, rfl⟩ := Option.map_eq_some_iff.mp hf
        have hmem := List.mem_of_find?_eq_some hq
        have hxe : q.1 = x := by
          have := List.find?_some hq
          exact of_decide_eq_true this
        subst hxe
        cases rw_.of_d with
        | @fn _ a ha =>
        refine ⟨a, q.1, q.2, rfl, ha, hmem, ω1, ρ, S1, hr1, sl.mono l1, h1.bind.mono fun ω2 S2 H2 ws l2 hr2 h2 xs rs => ⟨rfl, ω2, ws, S2, hr2, rs, ?_⟩⟩
        cases hff : q.2 ws S2 with
        | ok w S3 => rw [hff] at h2; exact h2
        | exc c S3 => rw [hff] at h2; exact h2
        | stuck => rw [hff] at h2; exact h2
      · cases hf
    · exact h1.elim
  · subst ev
    cases r1
    obtain ⟨a', fd, ps, h1, h2, h3, h5, h4⟩ := hk _ hm
    rw [hx] at h1; cases h1
    refine PySem.W.callWith_K (h₀ := X.base) I1.ok.mod.kin h2 (thn (hs.run pos pins s1 σ H1 _ I1 q1) fun us s2 ⟨vs, H2, I2, r2, q2⟩ => ⟨I2.kIn, ?_⟩) (star_cons hp.1) (star_any hp.2)
    refine run_fnS h4 room h3 (passAt tk σ) I2 r2 ?_
    obtain ⟨_, ω2, ws, S2, hr2, rs, post⟩ := q2
    refine ⟨?_, ω2, ws, S2, hr2, rs, post⟩
    rw [← rs.length]
    refine Classical.byContradiction fun z => ?_
    have e0 := h5 ws S2 z
    dsimp only at e0 post
    rw [e0] at post
    exact post.elim
end
end Q
set_option Elab.async false
set_option maxRecDepth 100000
set_option linter.all false
set_option maxHeartbeats 3200000
/-! Rules that the kit lacks: sorted of a dict's keys, of a set of a list, how many a set has, enumerate over a tuple. -/
namespace Q
open PySem PySem.Spec PyProof.Rows L2
/-! ### sorted of what is gathered -/
section
variable {P : Program} {w : World} {A : Around} {E : Value → Shared → Prop} {s : Shared}
theorem sorted_of {r : Addr} {ns : List Int} {Q : Value → Shared → Prop} (hn : ns.length ≤ sizeLine)
    (hcol : ∀ (E : Value → Shared → Prop) (R : List Value → Shared → Prop), (∀ s' out ms, (∀ b o, s.heap.get? b = some o → s'.heap.get? b = some o) → s.heap.objs.size ≤ s'.heap.objs.size → s'.gens = s.gens → s'.os = s.os → IntsAre out ms → ms.Perm ns → R out s') → wpAny (model P w) A.in1 (collect (.ref r)) R E s)
    (hQ : ∀ s' p (out : Array Value) (c : Nat) (ms : List Int), (∀ b o, s.heap.get? b = some o → s'.heap.get? b = some o) → s'.gens = s.gens → s'.os = s.os → s.heap.objs.size ≤ p →
      s'.heap.get? p = some (seqObj "list" out c) → IntsAre out.toList ms → ms.Perm ns → ms.Pairwise (· ≤ ·) → Q (.ref p) s') :
    wpAny (model P w) A (call (.builtin "sorted") [.ref r]) Q E s := by
  refine Calls.call_function_entry kind_sorted plain_sorted entry_sorted (args_sorted1 _) ?_
  unfold Builtin.«sorted»
  refine wpAny_bind (m := checkCount "sorted" 1 1 _) (wpAny_pure ?_)
  refine wpAny_bind (hcol _ _ fun s1 vs ms k1 hz g1 o1 hI pm => ?_)
  have hvl : vs.length = ns.length := by rw [hI.length, pm.length_eq]
  refine wpAny_bind (wpAny_newList ?_ (by rw [hvl]; exact hn))
  have hoL : (s1.heap.push (seqObj "list" vs.toArray 0)).get? s1.heap.objs.size = some (seqObj "list" vs.toArray 0) := Heap.get?_push_size _ rfl
  refine wpAny_bind (wpAny_holding (wpAny_call_entry slot_list_sort ⟨_, hoL, rfl⟩ entry_list_sort (SrtO.list_sort_ord SrtO.swo_int hoL (by rw [hvl]; exact hn) (fun h2 => SrtO.ints_sortable hI h2) fun out a1 a2 => ⟨_, rfl, ?_⟩) (args_list_sort _)))
  obtain ⟨k1', k2', k3'⟩ := SrtO.ints_out hI a1 a2
  obtain ⟨c, hc⟩ := sortedHeap_at (vs := vs) (out := out.toArray) hoL
  refine wpAny_pure ⟨_, rfl, hQ _ s1.heap.objs.size out.toArray c _ (fun b u e => ?_) g1 o1 hz hc (by simpa using k1') (k2'.trans pm) k3'⟩
  have q := k1 b u e
  have hlt := Heap.lt_size q
  show (sortedHeap (s1.heap.push (seqObj "list" vs.toArray 0)) s1.heap.objs.size vs out.toArray).get? b = some u
  rw [sortedHeap_old (Nat.ne_of_lt hlt) (by rw [size_push']; exact Nat.lt_succ_of_lt hlt)]
  exact Heap.get?_push_of_some _ q
end
section
variable {X : Cx} {e : Expr} {td : TE} {p p2 q apos cpos pos : Pos}
theorem laid_sorted {pins : List (Addr × Obj)} {σ : L2.St} {H : Hp} {s s0 : Shared} {s' : Shared} {a : Addr} {out : Array Value} {c : Nat} {ms : List Int} {Q : VK} (I : Inv X pins σ H s0) (k0 : ∀ b o, s0.heap.get? b = some o → s.heap.get? b = some o) (z0 : s0.heap.objs.size ≤ s.heap.objs.size) (g0 : s.gens = s0.gens) (o0 : s.os = s0.os)
    (k : ∀ b o, s.heap.get? b = some o → s'.heap.get? b = some o) (g : s'.gens = s.gens) (o : s'.os = s.os) (hp : s.heap.objs.size ≤ a)
    (hg : s'.heap.get? a = some (seqObj "list" out c)) (hi : IntsAre out.toList ms) (hn : ms.length ≤ sizeLine) (h : H a = none → Q (.ref a) (upd H a (.lst (ms.map V.int)))) : EP X pins σ Q (.ref a) s' := by
  have hlen : (ms.map V.int).length ≤ sizeLine := by rw [List.length_map]; exact hn
  have hz : s0.heap.objs.size ≤ a := Nat.le_trans z0 hp
  have hn : H a = none := I.hok.fresh hz
  have kk : ∀ b u, s0.heap.get? b = some u → s'.heap.get? b = some u := fun b u e => k b u (k0 b u e)
  have J : Inv X pins σ (upd H a (.lst (ms.map V.int))) s' :=
    I.call' (ch := []) (o.trans o0) (Un.laid kk hz hn) (I.hok.laid kk hz ⟨hlen, out.toList, c, vals_of_ints hi, hg⟩) (by rw [g, g0]; exact I.bare) (fun _ z => nomatch z)
  exact ⟨.ref a, _, J, rfl, h hn⟩
/-! ### sorted(d.keys()) -/
def tSK (td : TE) : TE := fun σ H Q => td σ H fun x H1 => ∃ (a : Addr) (kvs : List (Key × V)) (ns : List Int), x = .ref a ∧ Rd H1 a (.dK kvs) ∧ kvs.map (·.1) = ns.map Sum.inl ∧
  ∀ (ms : List Int) (p : Addr), ms.Perm ns → ms.Pairwise (· ≤ ·) → H1 p = none → Q (.ref p) (upd H1 p (.lst (ms.map V.int)))
theorem ints_items {kvs : List (Key × V)} {vs : List (Key × Value)} {ns : List Int} (kv : KV kvs vs) (en : kvs.map (·.1) = ns.map Sum.inl) {P : Program} {w : World} {acc : Array Value}
    (h : ItemsOf (fun i v => ∃ k x, vs[i]? = some (k, x) ∧ (mixKind P w).is k v = true) acc vs.length) : IntsAre acc.toList ns := by
  have hl : kvs.length = vs.length := Paired.length kv
  have hk : vs.map (·.1) = kvs.map (·.1) := by
    clear h en
    induction kv with
    | nil => rfl
    | cons h _ ih => rw [List.map_cons, List.map_cons, ih (by simpa using hl), h.1]
  have : ∀ (l : List Value) (ns : List Int), l.length = ns.length → (∀ (j : Nat) (v : Value), l[j]? = some v → ∃ n : Int, ns[j]? = some n ∧ ∃ t, v = Value.int n t) → IntsAre l ns := by
    intro l
    induction l with
    | nil => intro ns e _; cases ns with
      | nil => exact .nil
      | cons _ _ => cases e
    | cons v l ih => intro ns e g; cases ns with
      | nil => cases e
      | cons n ns =>
        obtain ⟨m, e1, t, rfl⟩ := g 0 v rfl
        cases e1
        exact .cons n t (ih ns (by simpa using e) fun j v hj => g (j + 1) v (by simpa using hj))
  refine this _ _ ?_ fun j v hj => ?_
  · rw [Array.length_toList, h.1, ← hl]
    have := congrArg List.length en
    simpa using this
  · obtain ⟨k, x, e1, e2⟩ := h.2 j v (by rw [← Array.getElem?_toList]; exact hj)
    have e3 : (vs.map (·.1))[j]? = some k := by rw [List.getElem?_map, e1]; rfl
    rw [hk, en, List.getElem?_map] at e3
    cases hn : ns[j]? with
    | none => rw [hn] at e3; cases e3
    | some n =>
      rw [hn] at e3
      cases e3
      refine ⟨n, rfl, ?_⟩
      rw [mixKind_is] at e2
      rcases keyIs_shape e2 with ⟨i, t, h1, h2⟩ | ⟨y, t, h1, h2⟩
      · cases h1; exact ⟨t, h2⟩
      · cases h1
theorem pe_sk (hc : X.calm = true) (hg : Gl X "sorted") (hm : X.mg "sorted" = none) (he : PE X e td) (hbase : attributeBase e "keys" X.env (eval e X.env) = eval e X.env) (hline : (apos.endLine == cpos.line) = true) :
    PE X (.Call (.Name "sorted" p) [.Call (.Attribute e "keys" apos) [] [] cpos] [] pos) (tSK td) := by
  refine ⟨fun pins s σ H Q I h => ?_⟩
  refine Call_ (ld_blt I hg hm boot_sorted ?_)
  refine PyProof.Rows.callWith_builtin1 (PyProof.Rows.args_cons ?_ rfl) rfl rfl
  refine wpAny_Call_method (T := "dict") (id := "dict.keys") hbase rfl hline F.plainAttrs_dict F.slot_dict_keys F.type_dict_keys (thn (he.run pins s σ H _ I h) fun u s1 ⟨x, H1, I1, rx, a, kvs, ns, ex, rd, en, q⟩ => ?_)
  subst ex
  obtain rfl : u = Value.ref a := rx
  obtain ⟨z, hs, vs, rel, dd⟩ := dk_rd I1.hok rd
  have hl : kvs.length = vs.length := Paired.length rel
  refine ⟨dd.typeIs, dd.mapOf.noDict, ?_⟩
  show wpAny _ _ (callWith cpos (.builtin "dict.keys") [.ref a] [] []) _ X.xe s1
  refine method_meetsIn F.slot_dict_keys F.entry_dict_keys rfl (PySem.evalArgs_none ⟨rfl, dd.typeIs, F.args_dict_keys_1 _, _, PySem.W.kdl_meets_keys (mixKind X.prog X.w) a hs, ⟨vs, dd⟩, ?_⟩)
  refine PyProof.Rows.args_nil ?_
  obtain ⟨ep, hat⟩ := dd.dictAt
  have hv : (s1.heap.push { cls := .type "dict_keys", data := .fields #[.ref a] }).get? s1.heap.objs.size = some { cls := .type "dict_keys", data := .fields #[.ref a] } := Heap.get?_push_size _ rfl
  have hnn : ns.length = vs.length := by
    have := congrArg List.length en
    simp only [List.length_map] at this
    rw [← this, hl]
  refine sorted_of (s := { s1 with heap := s1.heap.push { cls := .type "dict_keys", data := .fields #[.ref a] } }) (ns := ns) (by rw [hnn, ← hl]; exact z) (fun E' R hR => ?_) (fun s' p' out c ms k g o hp hgp hi pm pw => ?_)
  · refine PySem.W.kdu_collect (PySem.W.kdl_keys (prog := X.prog) (w := X.w) (r := s1.heap.objs.size) (d := a) (knd := mixKind X.prog X.w) (kvs := vs) (ep := ep)) (I1.ok.hd hc) ⟨⟨_, hv, rfl, rfl⟩, hat.push _⟩ (by rw [← hl]; exact z) fun h' tk acc hk ho => ?_
    have hlt := Heap.lt_size (hk _ _ hv)
    exact hR _ acc.toList ns hk (by show (s1.heap.push _).objs.size ≤ h'.objs.size; rw [size_push']; exact hlt) rfl rfl (ints_items rel en ho) (List.Perm.refl _)
  · exact laid_sorted (s := { s1 with heap := s1.heap.push { cls := .type "dict_keys", data := .fields #[.ref a] } }) I1 (fun b o e => Heap.get?_push_of_some _ e) (by show s1.heap.objs.size ≤ (s1.heap.push _).objs.size; rw [size_push']; exact Nat.le_succ _) rfl rfl k g o hp hgp hi (by rw [pm.length_eq, hnn, ← hl]; exact z) (q ms p' pm pw)
end
end Q
set_option Elab.async false
set_option maxRecDepth 100000
set_option linter.all false
set_option maxHeartbeats 3200000
/-! set(list of whole numbers): sorted, and how many. -/
namespace Q
open PySem PySem.Spec PySem.Calls PyProof.Rows L2
section
variable {P : Program} {w : World} {A : Around} {E : Value → Shared → Prop} {s : Shared}
theorem call_setI {l : Addr} {items : Array Value} (ns : List Int) {Q : Value → Shared → Prop} (hh : A.handled = none) (hl : s.heap.IsList l items) (hit : IntsAre items.toList ns) (hb : ns.length + 1 < scanBound)
    (h : ∀ (h' : Heap) (tk c : Nat), SetR w h' s.heap.objs.size (fun j => decide (j ∈ ns)) c → c ≤ ns.length → (∀ b o, s.heap.get? b = some o → h'.get? b = some o) → Q (.ref s.heap.objs.size) { s with heap := h', toks := tk }) :
    wpAny (model P w) A (call (.type "set") [.ref l]) Q E s := by
  have hisz : items.size = ns.length := by
    have q := IntsAre.length hit
    rw [Array.length_toList] at q
    exact q
  obtain ⟨c, tl, hmro⟩ := F.called_set.mro
  have hmade := F.called_set.made
  have hsub := F.called_set.sub
  refine wpAny_call (codeAny_of_tree ?_)
  show wpAny _ _ (callAny (.type "set") _) _ _ _
  refine wpAny_pure ⟨Code.quiet_builtin _ (by decide +kernel), codeAny_builtin F.entry_type_call ?_⟩
  rw [Around.under_plain (weight_type_call_type "set" [.ref l] []) rfl]
  have h1 := F.called_set.notType
  have h2 := F.called_set.canCreate
  have hct := F.typeCall_set_1 (.ref l)
  repeat (any_goals (first | assumption | wp_step))
  refine codeAny_mono (code_set_led1 (.ref l) (E := E) (Q₁ := fun obj s₁ => obj = .ref s.heap.objs.size ∧ s₁ = { s with heap := s.heap.push { cls := .type "set", dict := none, data := .set #[] 0 (.fresh 0 0 (!w.params.followText "set-order")) } }) ⟨rfl, rfl⟩) fun r s₁ hr => ?_
  cases r with
  | error e => exact hr
  | ok fl =>
    cases fl with
    | ret obj =>
      obtain ⟨rfl, rfl⟩ := hr
      generalize hN : ({ cls := .type "set", dict := none, data := .set #[] 0 (.fresh 0 0 (!w.params.followText "set-order")) } : Obj) = N
      have hfr : N.isFreed = false := by rw [← hN]; rfl
      have hS : (s.heap.push N).get? s.heap.objs.size = some N := Heap.get?_push_size _ hfr
      have hT : Shared.TypeIs { s with heap := s.heap.push N } (.ref s.heap.objs.size) "set" := ⟨_, hS, by rw [← hN]⟩
      have hli := F.called_set.init.lookup
      have hbi := F.called_set.init.bind (.ref s.heap.objs.size)
      repeat (any_goals (first | assumption | wp_step))
      refine codeAny_mono (codeAny_call_builtin (R := wants (fun r s₂ => r = .none ∧ ∃ h' tk c, s₂ = { s with heap := h', toks := tk } ∧ SetR w h' s.heap.objs.size (fun j => decide (j ∈ ns)) c ∧ c ≤ ns.length ∧
          (∀ b o, s.heap.get? b = some o → h'.get? b = some o)) E) F.called_set.init.plain F.entry_set_init (check_set_init_1 hT ?_)) fun r₂ s₂ hr₂ => ?_
      · obtain ⟨ol, hol, hcl, nl, hdl⟩ := hl
        obtain ⟨ocls, odict, odata, oslots⟩ := ol
        simp only at hcl hdl
        subst hcl; subst hdl
        have hol' : (s.heap.push N).get? l = some { cls := .type "list", dict := odict, data := .seq items nl, slots := oslots } := Heap.get?_push_of_some _ hol
        have hsls := F.sub_list_set
        have hslf := F.sub_list_frozenset
        have hne : (Value.type "list" == Value.type "dict") = false := by decide
        have hl1 : (s.heap.push N).IsList l items := ⟨_, hol', rfl, nl, rfl⟩
        subst hN
        unfold Builtin.«set.__init__» noKeywords Builtin.Frozenset.updateFrom
        generalize hPI : pyIter = PI
        wp_walk
        subst hPI
        refine wpAny_pyIter_list hl1 ?_
        refine wpAny_bind (wpAny_runValue ?_)
        have hlS : l < s.heap.objs.size := Heap.lt_size hol
        have hh3 : A.in1.in1.in1.handled = none := by simp [hh]
        have hneI : l ≠ (s.heap.push { cls := .type "set", dict := none, data := .set #[] 0 (.fresh 0 0 (!w.params.followText "set-order")) }).objs.size := by
          rw [Heap.size_push]; exact Nat.ne_of_lt (Nat.lt_succ_of_lt hlS)
        have hSf : s.heap.objs.size ∉ [(s.heap.push { cls := .type "set", dict := none, data := .set #[] 0 (.fresh 0 0 (!w.params.followText "set-order")) }).objs.size, l] := by
          rw [Heap.size_push]; simp only [List.mem_cons, List.mem_singleton, List.not_mem_nil, or_false, not_or]
          exact ⟨Nat.ne_of_lt (Nat.lt_succ_self _), Nat.ne_of_gt hlS⟩
        have hval : ∀ (i : Nat) (v : Value), items[i]? = some v → ∃ k t, ns[i]? = some k ∧ v = .int k t := fun i v hv => by
          have hi : i < ns.length := by rw [← hisz]; exact (Array.getElem?_eq_some_iff.mp hv).1
          obtain ⟨t, e⟩ := PyProof.Rows.IntsAre.int_at hit i v (by rw [Array.getElem?_toList]; exact hv)
          refine ⟨ns[i], t, List.getElem?_eq_getElem hi, ?_⟩
          rw [e, List.getD_eq_getElem?_getD, List.getElem?_eq_getElem hi] <;> rfl
        refine set_update_ints ((Walks.list hh3 _ l hneI items).toS) s.heap.objs.size
          hSf ns hisz hb hval (items.size - 0) 0 _ (by omega) (Nat.zero_le _)
          ⟨⟨_, Heap.get?_push_size _ rfl, rfl, rfl⟩, (hl1.push _)⟩ ?hS0 ?hR
        case hS0 =>
          have hget : ((s.heap.push { cls := .type "set", dict := none, data := .set #[] 0 (.fresh 0 0 (!w.params.followText "set-order")) }).push { cls := .type "list_iterator", data := .fields #[.ref l, .int 0 0] }).get? s.heap.objs.size = some { cls := .type "set", dict := none, data := .set #[] 0 (.fresh 0 0 (!w.params.followText "set-order")) } := Heap.get?_push_of_some _ hS
          exact ⟨0, Nat.le_refl 0, setR_new_at hget⟩
        case hR =>
          intro s' c' hm hc' hS'
          obtain ⟨h', g2, d', tk', os'⟩ := s'
          have eg : g2 = s.gens := hm.gens
          have ed : d' = s.drawn := hm.drawn
          have eo : os' = s.os := hm.os
          subst eg; subst ed; subst eo
          show wpAny _ _ _ _ _ _
          refine wpAny_pure ?_
          show wpAny _ _ (ret Value.none) _ _ _
          rw [hisz] at hc'
          refine wpAny_pure ⟨rfl, h', tk', c', rfl, hS', hc', fun b o e => ?_⟩
          have hb0 : b < s.heap.objs.size := Heap.lt_size e
          have hb1 : b ≠ s.heap.objs.size := Nat.ne_of_lt hb0
          have hb2 : b ≠ (s.heap.push { cls := .type "set", dict := none, data := .set #[] 0 (.fresh 0 0 (!w.params.followText "set-order")) }).objs.size := by
            rw [Heap.size_push]; exact Nat.ne_of_lt (Nat.lt_succ_of_lt hb0)
          exact hm.heap b o (by simp only [List.mem_cons, List.mem_singleton, List.not_mem_nil, or_false, not_or]; exact ⟨hb1, hb2⟩) (Heap.get?_push_of_some _ (Heap.get?_push_of_some _ e))
      · cases r₂ with
        | error e => exact hr₂
        | ok fl₂ =>
          cases fl₂ with
          | ret r =>
            obtain ⟨rfl, h', tk, c', rfl, hS', hc', hk'⟩ := hr₂
            repeat (any_goals (first | assumption | wp_step))
            exact h _ _ _ hS' hc' hk'
          | _ => exact hr₂.elim
    | _ => exact hr.elim
end
section
variable {X : Cx} {e : Expr} {td : TE} {p p2 q apos cpos pos : Pos}
def tSS (K : PySem.W.Frag) (td : TE) : TE := fun σ H Q => td σ H fun x H1 => ∃ (l : Addr) (ns : List Int), x = .ref l ∧ SqL K H1 l (ns.map V.int) ∧ ns.length ≤ 4000 ∧
  ∀ (ms : List Int) (p : Addr), ms.Pairwise (· < ·) → (∀ k, k ∈ ms ↔ k ∈ ns) → H1 p = none → Q (.ref p) (upd H1 p (.lst (ms.map V.int)))
theorem pe_ss (hc : X.calm = true) (hg : Gl X "sorted") (hm : X.mg "sorted" = none) (hg2 : Gl X "set") (hm2 : X.mg "set" = none) (he : PE X e td) (na : starEach [e] X.env = (false, eval e X.env) :: starEach [] X.env) :
    PE X (.Call (.Name "sorted" p) [.Call (.Name "set" p2) [e] [] q] [] pos) (tSS X.K td) := by
  refine ⟨fun pins s σ H Q I h => ?_⟩
  refine Call_ (ld_blt I hg hm boot_sorted ?_)
  refine PyProof.Rows.callWith_builtin1 (PyProof.Rows.args_cons ?_ rfl) rfl rfl
  refine Call_ (ld_blt I hg2 hm2 boot_set ?_)
  refine PyProof.Rows.callWith_type1 (PyProof.Rows.args_cons (thn (he.run pins s σ H _ I h) fun v s1 ⟨x, H1, I1, r1, q1⟩ => PyProof.Rows.args_nil ?_) na) na rfl
  obtain ⟨l, ns, rfl, hq, hl, q1⟩ := q1
  cases r1
  obtain ⟨its, r, pl, hz⟩ := I1.list hq
  have hi : IntsAre its.toArray.toList ns := by simpa using RZ.intsAre_vals r
  refine call_setI ns (I1.ok.hd hc) pl.isList hi (by unfold scanBound; omega) fun h' tk c R1 hcn k => PyProof.Rows.args_nil ?_
  obtain ⟨o, es, ep, t, ho, hex, hdt, g, nd, hm3, hb, hf, hn, hr, hl2⟩ := R1
  refine sorted_of (s := { s1 with heap := h', toks := tk }) (ns := es.toList.map keyOf) (by rw [List.length_map, Array.length_toList, hn, sizeLine_eq]; omega) (fun E' R hR => ?_) (fun s' p' out c' ms k2 g2 o2 hp hgp hi2 pm pw => ?_)
  · refine collect_set (A := X.A.in1) (s := { s1 with heap := h', toks := tk }) (I1.ok.hd hc) ⟨o, ho, hex.1, hdt⟩ hf hb hr hl2 fun s2 out k2 z2 g2 o2 pm => ?_
    refine hR s2 out (out.map Builtin.Re.reRawOf) k2 z2 g2 o2 (ints_of out fun v hv => ?_) ?_
    · obtain ⟨e, he, q⟩ := List.mem_map.mp (pm.mem_iff.mp hv)
      obtain ⟨kk, tt, h1, _⟩ := g e he
      exact ⟨kk, tt, by rw [← q]; exact h1⟩
    · have q := pm.map Builtin.Re.reRawOf
      rw [List.map_map] at q
      exact q
  · have nd2 : ms.Nodup := pm.nodup_iff.mpr nd
    have hms : ms.length ≤ sizeLine := by rw [pm.length_eq, List.length_map, Array.length_toList, hn, sizeLine_eq]; omega
    exact laid_sorted (s := { s1 with heap := h', toks := tk }) I1 k (Nat.le_of_lt (Heap.lt_size ho)) rfl rfl k2 g2 o2 hp hgp hi2 hms
      (q1 ms p' (lt_of_le_nodup ms pw nd2) fun j => by rw [pm.mem_iff, ← hm3 j, decide_eq_true_eq])
/-- how many a set has -/
def tLS (K : PySem.W.Frag) (td : TE) : TE := fun σ H Q => td σ H fun x H1 => ∃ (l : Addr) (ns : List Int), x = .ref l ∧ SqL K H1 l (ns.map V.int) ∧ ns.length ≤ 4000 ∧
  ∀ (ms : List Int), ms.Nodup → (∀ k, k ∈ ms ↔ k ∈ ns) → Q (.int (ms.length : Nat)) H1
theorem pe_ls (hc : X.calm = true) (hg : Gl X "len") (hm : X.mg "len" = none) (hg2 : Gl X "set") (hm2 : X.mg "set" = none) (he : PE X e td) (na : starEach [e] X.env = (false, eval e X.env) :: starEach [] X.env) :
    PE X (.Call (.Name "len" p) [.Call (.Name "set" p2) [e] [] q] [] pos) (tLS X.K td) := by
  refine ⟨fun pins s σ H Q I h => ?_⟩
  refine Call_ (ld_blt I hg hm boot_len ?_)
  refine PyProof.Rows.callWith_builtin1 (PyProof.Rows.args_cons ?_ rfl) rfl rfl
  refine Call_ (ld_blt I hg2 hm2 boot_set ?_)
  refine PyProof.Rows.callWith_type1 (PyProof.Rows.args_cons (thn (he.run pins s σ H _ I h) fun v s1 ⟨x, H1, I1, r1, q1⟩ => PyProof.Rows.args_nil ?_) na) na rfl
  obtain ⟨l, ns, rfl, hq, hl, q1⟩ := q1
  cases r1
  obtain ⟨its, r, pl, hz⟩ := I1.list hq
  have hi : IntsAre its.toArray.toList ns := by simpa using RZ.intsAre_vals r
  refine call_setI ns (I1.ok.hd hc) pl.isList hi (by unfold scanBound; omega) fun h' tk c R1 hcn k => PyProof.Rows.args_nil ?_
  obtain ⟨o, es, ep, t, ho, hex, hdt, g, nd, hm3, hb, hf, hn, hr, hl2⟩ := R1
  have I2 : Inv X pins σ H1 { s1 with heap := h', toks := tk } := I1.kept k
  refine call_len_set ho hex hdt hf (by rw [hn] <;> omega) ⟨.int es.size, H1, I2.tok _, ⟨_, rfl⟩, ?_⟩
  have := q1 (es.toList.map keyOf) nd fun j => by rw [← hm3 j, decide_eq_true_eq]
  simpa using this
end
end Q
set_option Elab.async false
set_option maxRecDepth 100000
set_option linter.all false
set_option maxHeartbeats 3200000
/-! enumerate over a tuple. -/
namespace Q
open PySem PySem.Spec PySem.Calls PyProof.Rows L2
theorem meets_enum_tup (l : Addr) (items : Array Value) :
    Meets (Builtin.«enumerate.__new__» ⟨[.type "enumerate", .ref l], []⟩) (fun _ R s => s.heap.IsTuple l items ∧
      R (.ok (.ret (.ref (s.heap.push { cls := .type "tuple_iterator", data := .fields #[.ref l, .int 0 0] }).objs.size)))
        { s with heap := (s.heap.push { cls := .type "tuple_iterator", data := .fields #[.ref l, .int 0 0] }).push { cls := .type "enumerate", data := .fields #[.none, .bool false, .ref s.heap.objs.size, rawInt 0, .none, .none] } }) :=
  .of_wp fun prog w A R s h => by
    obtain ⟨hp, g, d, tk, os⟩ := s; obtain ⟨h1, h⟩ := h
    have hsub := sub_enumerate
    have q1 : ∀ {A' : Around} {E : Value → Shared → Prop} {Q : Value → Shared → Prop}, Q (.ref hp.objs.size) ⟨hp.push { cls := .type "tuple_iterator", data := .fields #[.ref l, .int 0 0] }, g, d, tk, os⟩ → wpAny (model prog w) A' (pyIter (.ref l)) Q E ⟨hp, g, d, tk, os⟩ :=
      fun q => wpAny_pyIter_tuple (s := ⟨hp, g, d, tk, os⟩) h1 q
    wp_walk using q1
    refine wpAny_stack_any fun st => wpAny_pure ?_
    split
    · rename_i c _ _ _ _ _
      cases (c == Value.type "enumerate")
      · wp_walk using q1
        exact ⟨_, rfl, h⟩
      · wp_walk using q1
        exact ⟨_, rfl, h⟩
    · wp_walk using q1
      exact ⟨_, rfl, h⟩
section
variable {prog : Program} {w : World} {A : Around} {E : Value → Shared → Prop} {s : Shared}
theorem call_enum_tup {l : Addr} {items : Array Value} {Q : Value → Shared → Prop} (hL : s.heap.IsTuple l items)
    (h : ∀ h', IsEnum h' (s.heap.objs.size + 1) s.heap.objs.size 0 .none → h'.IsTupleIter s.heap.objs.size l 0 → h'.objs.size = s.heap.objs.size + 2 →
      (∀ b o, s.heap.get? b = some o → h'.get? b = some o) → Q (.ref (s.heap.objs.size + 1)) { s with heap := h' }) :
    wpAny (model prog w) A (call (.type "enumerate") [.ref l]) Q E s := by
  refine callType_new F.called_enumerate (by decide) (F.typeCall_enumerate_1 _) (F.newCall_enumerate_1 _) (fun obj => F.args_object_init_2 obj _) F.entry_enumerate_new
    (meets_enum_tup l items) ⟨hL, ?_⟩
  have hz : (s.heap.push { cls := .type "tuple_iterator", data := .fields #[.ref l, .int 0 0] }).objs.size = s.heap.objs.size + 1 := Heap.size_push ..
  show _ ∧ _
  rw [hz]
  have he : IsEnum ((s.heap.push { cls := .type "tuple_iterator", data := .fields #[.ref l, .int 0 0] }).push
      { cls := .type "enumerate", data := .fields #[.none, .bool false, .ref s.heap.objs.size, rawInt 0, .none, .none] }) (s.heap.objs.size + 1) s.heap.objs.size 0 .none := by
    have := Heap.get?_push_size (s.heap.push { cls := .type "tuple_iterator", data := .fields #[.ref l, .int 0 0] })
      (o := { cls := .type "enumerate", data := .fields #[.none, .bool false, .ref s.heap.objs.size, rawInt 0, .none, .none] }) rfl
    rw [hz] at this; exact this
  refine ⟨⟨_, he, rfl⟩, h _ he ⟨_, Heap.get?_push_of_some _ (Heap.get?_push_size _ rfl), rfl, rfl⟩ (by rw [Heap.size_push, hz]) fun b o x => Heap.get?_push_of_some _ (Heap.get?_push_of_some _ x)⟩
end
section
variable {prog : Program} {w : World} {A : Around} {E : Value → Shared → Prop} {s : Shared}
theorem enum_endT {e it l : Addr} {i : Nat} {items : Array Value} {old : Value} {Q : Option Value → Shared → Prop} (hh : A.handled = none)
    (he : IsEnum s.heap e it ((i : Nat) : Int) old) (hit : s.heap.IsTupleIter it l i) (hl : s.heap.IsTuple l items) (hx : items[i]? = none)
    (hQ : ∀ h', Heap.ExtBut it s.heap h' → Q none { s with heap := h' }) : wpAny (model prog w) A (pyNext (.ref e)) Q E s := by
  have hT : s.TypeIs (.ref e) "enumerate" := ⟨_, he, rfl⟩
  unfold pyNext
  refine wpAny_bind (wpAny_attempt (wpAny_callSpecial?_slot (name := Str.ofString "__next__") hT F.slot_enumerate_next
    (wpAny_call_entry F.slot_enumerate_next hT F.entry_enumerate_next ?_ (F.args_enumerate_next_1 _))))
  show wpAny _ _ (field (.ref e) 2 >>= _) _ _ _
  refine wpAny_bind (wpAny_field he rfl (x := .ref it) rfl ?_)
  refine wpAny_bind (wpAny_nextOf_tuple_end hh hit hl hx fun h' x he' hx' => ?_)
  obtain ⟨o, ho, hc⟩ := hx'
  refine wpAny_bind (wpAny_isInstance (T := "StopIteration") (b := true) ⟨o, ho, hc⟩ isSubtype_stop ?_)
  exact wpAny_pure (hQ _ he')
end
/-- the tuple at a, its items in new pairs -/
def IteT (K : PySem.W.Frag) (a : PySem.Addr) : L2.It :=
  ⟨fun i H => ∃ (xs : List V) (x : V), SqT K H a xs ∧ xs[i]? = some x, fun i H v H' => ∃ T x, v = .ref T ∧ H T = none ∧ H' = upd H T (.tup [.int (i : Nat), x]) ∧ ∀ xs, SqT K H a xs → xs[i]? = some x, fun i H => ∃ xs : List V, SqT K H a xs ∧ xs.length ≤ i⟩
theorem turn_enumT {P : Program} {w : World} {K : PySem.W.Frag} {elts : List Expr} {kk : Nat} {tpos : Pos} (a e it : Addr) :
    Turn P w K (.Tuple elts kk tpos) (IteT K a) [e, it] e (fun i h => (∃ old, IsEnum h e it ((i : Nat) : Int) old) ∧ h.IsTupleIter it a i ∧ e ≠ it ∧ e ≠ a ∧ a ≠ it) where
  mem := by simp
  obj := fun i h st b hb => by
    obtain ⟨⟨old, he⟩, ⟨o, ho, hc, hd⟩, _⟩ := st
    have e' : b = e ∨ b = it := by simpa using hb
    rcases e' with z | z
    · rw [z]; exact ⟨_, he, fun v q => nomatch q⟩
    · rw [z]; exact ⟨o, ho, fun v q => by rw [hd] at q; cases q⟩
  keep := fun i h h' st k => let ⟨⟨old, he⟩, hi, hne⟩ := st; ⟨⟨old, k e (by simp) _ he⟩, hi.at fun o q => k it (by simp) o q, hne⟩
  item := by
    intro X hP hw hK hc i pins s σ H E I hf st hg
    subst hP hw hK
    obtain ⟨⟨old, he⟩, hit, hne, hea, hai⟩ := st
    obtain ⟨xs, x, hq, hx⟩ := hg
    obtain ⟨its, rv, p, hz⟩ := I.tuple hq
    obtain ⟨u, hu, ru⟩ := rv.get hx
    have hel : e < s.heap.objs.size := Heap.lt_size he
    have hil : it < s.heap.objs.size := by obtain ⟨_, q, _⟩ := hit; exact Heap.lt_size q
    have hil2 : i < its.toArray.size := by
      have := (List.getElem?_eq_some_iff.mp hu).1
      simpa using this
    refine wpAny_pyNext_enum_itemD (Draws.tuple (prog := X.prog) (w := X.w) (A := X.A.in1) (I.ok.hd hc) it a hai its.toArray) he ⟨hit, p⟩ hil2 hne (by simp [hne, hea]) fun x' h' tk hPx ho hst' hT hsz hk => ?_
    have hxu : x' = u := by
      have : its[i]? = some x' := by simpa using hPx
      rw [hu] at this
      exact (Option.some.inj this).symm
    subst hxu
    obtain ⟨hit', p'⟩ := hst'
    refine ⟨_, rfl, wpAny_letOwnedTupleGo_enum (s := { s with heap := h', toks := tk + 1 }) ho fun h'' he' sb => ?_⟩
    have hT2 : h''.get? s.heap.objs.size = some { cls := .type "tuple", data := .seq #[.int i tk, x'] } := (sb.2 _ (Nat.ne_of_gt hel)).trans hT
    have new : ObjOk X.prog X.w (upd H s.heap.objs.size (.tup [.int (i : Nat), x])) h'' s.heap.objs.size (.tup [.int (i : Nat), x]) :=
      ⟨by show 2 ≤ sizeLine; decide, [.int i tk, x'], .cons ⟨_, rfl⟩ (.cons ru .nil), ⟨_, hT2, rfl, _, rfl⟩⟩
    have I1 : Inv X pins σ (upd H s.heap.objs.size (.tup [.int (i : Nat), x])) { s with heap := h'', toks := tk + 1 } :=
      I.turnedNew (ch := [e, it]) (fun b ob hb q => (sb.2 b (fun z => hb (by simp [z]))).trans (hk b ob (fun z => hb (by simp [z])) (fun z => hb (by simp [z])) q)) hf (Nat.le_refl _) new
    refine ⟨.ref s.heap.objs.size, _, I1, rfl, ⟨_, x, rfl, I.hok.fresh (Nat.le_refl _), rfl, fun ys hy => by rw [I.tuple_inj hy hq]; exact hx⟩, ⟨⟨x', ?_⟩, hit'.at fun o q => (sb.2 it (Ne.symm hne)).trans q, hne, hea, hai⟩, fun b hb => ?_⟩
    · have e1 : ((i + 1 : Nat) : Int) = (i : Int) + 1 := by omega
      rw [e1]; exact he'
    · have hb' : b < s.heap.objs.size := by
        have e' : b = e ∨ b = it := by simpa using hb
        rcases e' with z | z
        · rw [z]; exact hel
        · rw [z]; exact hil
      rw [upd_ne (Nat.ne_of_lt hb')]
      exact (hf b hb).1
  done := by
    intro X hP hw hK hc i pins s σ H E I hf st hg
    subst hP hw hK
    obtain ⟨⟨old, he⟩, hit, hne, hea, hai⟩ := st
    obtain ⟨xs, hq, hx⟩ := hg
    obtain ⟨its, rv, p, hz⟩ := I.tuple hq
    obtain ⟨f0, f1, f2, f3, f4, f5⟩ := hf it (by simp)
    have hl := rv.length
    exact enum_endT (I.ok.hd hc) he hit p (by simp; omega) fun h' eb => ⟨rfl, I.turned (t' := s.toks) (fun b o hb q => eb b o hb q) f0 f1 f3 f4 f5⟩
  self := fun A i s Q E st h => let ⟨⟨_, he⟩, _⟩ := st; wpAny_pyIter_enum he h
/-- enumerate over a list or a tuple -/
def iEn (K : PySem.W.Frag) (ta : TA) : TI := fun σ H R => ta σ H fun vs H1 => ∃ a, vs = [.ref a] ∧ ((∃ xs, SqL K H1 a xs ∧ R (Ite K a) H1) ∨ ∃ xs, SqT K H1 a xs ∧ R (IteT K a) H1)
theorem pi_en {X : Cx} {e : Expr} {ta : TA} {p pos tpos : Pos} {elts : List Expr} {kk : Nat} (hg : Gl X "enumerate") (hm : X.mg "enumerate" = none) (ha : PA X [e] ta) (hs : starEach [e] X.env = [(false, eval e X.env)]) :
    PI X (.Tuple elts kk tpos) (.Call (.Name "enumerate" p) [e] [] pos) (iEn X.K ta) := by
  refine ⟨fun pins s σ H R I h => ?_⟩
  refine Call_ (ld_blt I hg hm boot_enumerate (PyProof.Rows.callWith_type1 (thn (ha.run pos pins s σ H _ I h) fun us s1 ⟨vs, H1, I1, r1, q1⟩ => ?_) hs rfl))
  obtain ⟨a, ex, q⟩ := q1
  subst ex
  cases r1 with
  | cons r rr =>
    cases rr
    cases r
    rcases q with ⟨xs, hq, q⟩ | ⟨xs, hq, q⟩
    · obtain ⟨its, rv, p', hz⟩ := I1.list hq
      refine call_enumerate_list p'.isList fun h' he hit hsz hk => wpAny_pyIter_enum he ?_
      have I2 : Inv X pins σ H1 { s1 with heap := h' } := I1.kept (t' := s1.toks) hk
      refine ⟨s1.heap.objs.size + 1, [s1.heap.objs.size + 1, s1.heap.objs.size], _, _, H1, rfl, I2, turn_enum a (s1.heap.objs.size + 1) s1.heap.objs.size, ⟨⟨.none, he⟩, hit, Nat.succ_ne_self _⟩, fun b hb => ?_, q⟩
      have e' : b = s1.heap.objs.size + 1 ∨ b = s1.heap.objs.size := by simpa using hb
      have hle : s1.heap.objs.size ≤ b := by
        rcases e' with z | z
        · rw [z]; exact Nat.le_add_right _ _
        · rw [z]; exact Nat.le_refl _
      exact I1.fpOk hle (I1.hok.fresh hle)
    · obtain ⟨its, rv, p', hz⟩ := I1.tuple hq
      have hla : a < s1.heap.objs.size := by obtain ⟨_, ho, _⟩ := id p'; exact Heap.lt_size ho
      refine call_enum_tup p' fun h' he hit hsz hk => wpAny_pyIter_enum he ?_
      have I2 : Inv X pins σ H1 { s1 with heap := h' } := I1.kept (t' := s1.toks) hk
      refine ⟨s1.heap.objs.size + 1, [s1.heap.objs.size + 1, s1.heap.objs.size], _, _, H1, rfl, I2, turn_enumT a (s1.heap.objs.size + 1) s1.heap.objs.size, ⟨⟨.none, he⟩, hit, Nat.succ_ne_self _, fun z => Nat.lt_irrefl _ (Nat.lt_of_lt_of_le (z ▸ hla) (Nat.le_succ _)), Nat.ne_of_lt hla⟩, fun b hb => ?_, q⟩
      have e' : b = s1.heap.objs.size + 1 ∨ b = s1.heap.objs.size := by simpa using hb
      have hle : s1.heap.objs.size ≤ b := by
        rcases e' with z | z
        · rw [z]; exact Nat.le_add_right _ _
        · rw [z]; exact Nat.le_refl _
      exact I1.fpOk hle (I1.hok.fresh hle)
end Q
set_option Elab.async false
set_option maxRecDepth 100000
set_option linter.all false
set_option maxHeartbeats 3200000
/-! Rules that the kit lacks: sorted of the keys of an empty dict by tuples, of the items of an empty dict. -/
namespace Q
open PySem PySem.Spec PyProof.Rows L2
section
variable {X : Cx} {e : Expr} {td : TE} {p p2 q apos cpos pos : Pos}
theorem dt_empty {P : Program} {w : World} {h : Heap} {a : Addr} (d : h.DictOfH (tupleKind (mixKind P w)) a []) : h.DictOf (mixKind P w) a [] := by
  obtain ⟨o, es, ep, h1, h2, h3, h4, h5, h6⟩ := d
  have e0 : es = #[] := by
    apply Array.ext'
    simpa using h4
  subst e0
  exact ⟨o, #[], ep, h1, h2, h3, fun i hi => (by simp at hi), .nil, List.nodup_nil⟩
def tSK0 (td : TE) : TE := fun σ H Q => td σ H fun x H1 => ∃ a : Addr, x = .ref a ∧ Rd H1 a (.dT []) ∧ ∀ p : Addr, H1 p = none → Q (.ref p) (upd H1 p (.lst []))
theorem pe_sk0 (hc : X.calm = true) (hg : Gl X "sorted") (hm : X.mg "sorted" = none) (he : PE X e td) (hbase : attributeBase e "keys" X.env (eval e X.env) = eval e X.env) (hline : (apos.endLine == cpos.line) = true) :
    PE X (.Call (.Name "sorted" p) [.Call (.Attribute e "keys" apos) [] [] cpos] [] pos) (tSK0 td) := by
  refine ⟨fun pins s σ H Q I h => ?_⟩
  refine Call_ (ld_blt I hg hm boot_sorted ?_)
  refine PyProof.Rows.callWith_builtin1 (PyProof.Rows.args_cons ?_ rfl) rfl rfl
  refine wpAny_Call_method (T := "dict") (id := "dict.keys") hbase rfl hline F.plainAttrs_dict F.slot_dict_keys F.type_dict_keys (thn (he.run pins s σ H _ I h) fun u s1 ⟨x, H1, I1, rx, a, ex, rd, q⟩ => ?_)
  subst ex
  obtain rfl : u = Value.ref a := rx
  obtain ⟨z, hs, xs, rel, dd0⟩ := dt_rd I1.hok rd
  cases rel
  have dd := dt_empty dd0
  refine ⟨dd.typeIs, dd.mapOf.noDict, ?_⟩
  show wpAny _ _ (callWith cpos (.builtin "dict.keys") [.ref a] [] []) _ X.xe s1
  refine method_meetsIn F.slot_dict_keys F.entry_dict_keys rfl (PySem.evalArgs_none ⟨rfl, dd.typeIs, F.args_dict_keys_1 _, _, PySem.W.kdl_meets_keys (mixKind X.prog X.w) a hs, ⟨_, dd⟩, ?_⟩)
  refine PyProof.Rows.args_nil ?_
  obtain ⟨ep, hat⟩ := dd.dictAt
  have hv : (s1.heap.push { cls := .type "dict_keys", data := .fields #[.ref a] }).get? s1.heap.objs.size = some { cls := .type "dict_keys", data := .fields #[.ref a] } := Heap.get?_push_size _ rfl
  refine sorted_of (s := { s1 with heap := s1.heap.push { cls := .type "dict_keys", data := .fields #[.ref a] } }) (ns := []) (Nat.zero_le _) (fun E' R hR => ?_) (fun s' p' out c ms k g o hp hgp hi pm pw => ?_)
  · refine PySem.W.kdu_collect (PySem.W.kdl_keys (prog := X.prog) (w := X.w) (r := s1.heap.objs.size) (d := a) (knd := mixKind X.prog X.w) (kvs := []) (ep := ep)) (I1.ok.hd hc) ⟨⟨_, hv, rfl, rfl⟩, hat.push _⟩ (Nat.zero_le _) fun h' tk acc hk ho => ?_
    have hlt := Heap.lt_size (hk _ _ hv)
    have e0 : acc.toList = [] := List.length_eq_zero_iff.mp (by rw [Array.length_toList]; exact ho.1)
    rw [e0]
    exact hR _ [] [] hk (by show (s1.heap.push _).objs.size ≤ h'.objs.size; rw [size_push']; exact hlt) rfl rfl .nil (List.Perm.refl _)
  · cases List.Perm.eq_nil pm
    exact laid_sorted (s := { s1 with heap := s1.heap.push { cls := .type "dict_keys", data := .fields #[.ref a] } }) I1 (fun b o e => Heap.get?_push_of_some _ e) (by show s1.heap.objs.size ≤ (s1.heap.push _).objs.size; rw [size_push']; exact Nat.le_succ _) rfl rfl k g o hp hgp hi (Nat.zero_le _) (q p')
def tSI0 (td : TE) : TE := fun σ H Q => td σ H fun x H1 => ∃ a : Addr, x = .ref a ∧ Rd H1 a (.dK []) ∧ ∀ p : Addr, H1 p = none → Q (.ref p) (upd H1 p (.lst []))
theorem pe_si0 (hc : X.calm = true) (hg : Gl X "sorted") (hm : X.mg "sorted" = none) (he : PE X e td) (hbase : attributeBase e "items" X.env (eval e X.env) = eval e X.env) (hline : (apos.endLine == cpos.line) = true) :
    PE X (.Call (.Name "sorted" p) [.Call (.Attribute e "items" apos) [] [] cpos] [] pos) (tSI0 td) := by
  refine ⟨fun pins s σ H Q I h => ?_⟩
  refine Call_ (ld_blt I hg hm boot_sorted ?_)
  refine PyProof.Rows.callWith_builtin1 (PyProof.Rows.args_cons ?_ rfl) rfl rfl
  refine wpAny_Call_method (T := "dict") (id := "dict.items") hbase rfl hline F.plainAttrs_dict F.slot_dict_items F.type_dict_items (thn (he.run pins s σ H _ I h) fun u s1 ⟨x, H1, I1, rx, a, ex, rd, q⟩ => ?_)
  subst ex
  obtain rfl : u = Value.ref a := rx
  obtain ⟨z, hs, vs, rel, dd⟩ := dk_rd I1.hok rd
  cases rel
  refine ⟨dd.typeIs, dd.mapOf.noDict, ?_⟩
  show wpAny _ _ (callWith cpos (.builtin "dict.items") [.ref a] [] []) _ X.xe s1
  refine method_meetsIn F.slot_dict_items F.entry_dict_items rfl (PySem.evalArgs_none ⟨rfl, dd.typeIs, F.args_dict_items_1 _, _, meets_dict_items (mixKind X.prog X.w) a hs, ⟨_, dd⟩, ?_⟩)
  refine PyProof.Rows.args_nil ?_
  obtain ⟨ep, hat⟩ := dd.dictAt
  have hv : (s1.heap.push { cls := .type "dict_items", data := .fields #[.ref a] }).get? s1.heap.objs.size = some { cls := .type "dict_items", data := .fields #[.ref a] } := Heap.get?_push_size _ rfl
  refine sorted_of (s := { s1 with heap := s1.heap.push { cls := .type "dict_items", data := .fields #[.ref a] } }) (ns := []) (Nat.zero_le _) (fun E' R hR => ?_) (fun s' p' out c ms k g o hp hgp hi pm pw => ?_)
  · refine PySem.W.kdx_collect (prog := X.prog) (w := X.w) (r := s1.heap.objs.size) (d := a) (knd := mixKind X.prog X.w) (kvs := []) (ep := ep) (I1.ok.hd hc) ⟨_, hv, rfl, rfl⟩ (hat.push _) (Nat.zero_le _) fun h' tk as hk hl hG => ?_
    have hlt := Heap.lt_size (hk _ _ hv)
    have e0 : as = [] := List.length_eq_zero_iff.mp hl
    subst e0
    exact hR _ [] [] hk (by show (s1.heap.push _).objs.size ≤ h'.objs.size; rw [size_push']; exact hlt) rfl rfl .nil (List.Perm.refl _)
  · cases List.Perm.eq_nil pm
    exact laid_sorted (s := { s1 with heap := s1.heap.push { cls := .type "dict_items", data := .fields #[.ref a] } }) I1 (fun b o e => Heap.get?_push_of_some _ e) (by show s1.heap.objs.size ≤ (s1.heap.push _).objs.size; rw [size_push']; exact Nat.le_succ _) rfl rfl k g o hp hgp hi (Nat.zero_le _) (q p')
end
end Q
set_option Elab.async false
set_option maxRecDepth 100000
set_option linter.all false
set_option maxHeartbeats 3200000
/-! enumerate with one name as target; list(enumerate(xs)). -/
namespace Q
open PySem PySem.Spec PySem.Calls PyProof.Rows L2
section
variable {prog : Program} {w : World} {A : Around} {E : Value → Shared → Prop} {s : Shared}
theorem alive_none {a : Addr} {Q : Option Obj → Shared → Prop} (ho : s.heap.get? a = none) (h : Q none s) : wpAny (model prog w) A (loadIfAlive a) Q E s := by
  have h' : Q (s.heap.get? a) s := by rw [ho]; exact h
  exact fun _ _ _ => h'
/-- an enumerate, its own tuple out or not -/
def EnSt (h : Heap) (e it : Addr) (i : Int) : Prop := (∃ old, IsEnum h e it i old) ∨ ∃ old T f, IsEnumHeld h e it i old T f
theorem EnSt.obj {h : Heap} {e it : Addr} {i : Int} (x : EnSt h e it i) : ∃ vs, h.get? e = some { cls := .type "enumerate", dict := none, data := .fields vs, slots := #[] } := by
  rcases x with ⟨old, x⟩ | ⟨old, T, f, x⟩
  · exact ⟨_, x⟩
  · exact ⟨_, x⟩
theorem EnSt.keep {h h' : Heap} {e it : Addr} {i : Int} (x : EnSt h e it i) (k : ∀ o, h.get? e = some o → h'.get? e = some o) : EnSt h' e it i := by
  rcases x with ⟨old, x⟩ | ⟨old, T, f, x⟩
  · exact .inl ⟨old, k _ x⟩
  · exact .inr ⟨old, T, f, k _ x⟩
theorem enum_item_out {e it l T : Addr} {i : Nat} {items : Array Value} {x old : Value} {f : Bool} {Q : Value → Shared → Prop}
    (he : IsEnumHeld s.heap e it i old T f) (hit : s.heap.IsListIter it l i) (hl : s.heap.IsList l items) (hx : items[i]? = some x) (hne : e ≠ it)
    (hQ : ∀ h', EnSt h' e it ((i : Int) + 1) → h'.IsListIter it l (i + 1) →
      h'.get? s.heap.objs.size = some { cls := .type "tuple", data := .seq #[.int i s.toks, x] } → h'.objs.size = s.heap.objs.size + 1 →
      (∀ b o, b ≠ e → b ≠ it → s.heap.get? b = some o → h'.get? b = some o) → Q (.ref s.heap.objs.size) { s with heap := h', toks := s.toks + 1 }) :
    wpAny (model prog w) A (Builtin.«enumerate.__next__» ⟨[.ref e], []⟩) (fun fin s' => ∃ v, fin = .done (.ret v) ∧ Q v s') E s := by
  obtain ⟨hp, g, d, tk, os⟩ := s
  show wpAny _ _ (field (.ref e) 2 >>= _) _ _ _
  refine wpAny_bind (wpAny_field he rfl (x := .ref it) rfl ?_)
  refine wpAny_bind (wpAny_nextOf_list_item hit hl hx fun h₁ hit₁ hs₁ => ?_)
  replace hs₁ : Heap.SameBut it hp h₁ := hs₁
  have he₁ : IsEnumHeld h₁ e it i old T f := (hs₁.2 e hne).trans he
  show wpAny _ _ (field (.ref e) 3 >>= _) _ _ ⟨h₁, g, d, tk, os⟩
  refine wpAny_bind (wpAny_field he₁ rfl (x := rawInt i) rfl ?_)
  show wpAny _ _ (field (.ref e) 4 >>= _) _ _ ⟨h₁, g, d, tk, os⟩
  refine wpAny_bind (wpAny_field he₁ rfl (x := .none) rfl ?_)
  show wpAny _ _ (mkInt i >>= _) _ _ ⟨h₁, g, d, tk, os⟩
  refine wpAny_bind (wpAny_mkInt ?_)
  show wpAny _ _ (setField (.ref e) 3 (rawInt ((i : Int) + 1)) >>= _) _ _ ⟨h₁, g, d, tk + 1, os⟩
  refine wpAny_bind (wpAny_setField_rec he₁ (by simp) fun h₂ he₂ hs₂ => ?_)
  replace hs₂ : Heap.SameBut e h₁ h₂ := hs₂
  replace he₂ : IsEnumHeld h₂ e it ((i : Int) + 1) old T f := he₂
  show wpAny _ _ (setField (.ref e) 4 .none >>= _) _ _ ⟨h₂, g, d, tk + 1, os⟩
  refine wpAny_bind (wpAny_setField_rec he₂ (by simp) fun h₃ he₃ hs₃ => ?_)
  replace hs₃ : Heap.SameBut e h₂ h₃ := hs₃
  replace he₃ : IsEnumHeld h₃ e it ((i : Int) + 1) old T f := he₃
  show wpAny _ _ (newTuple [.int i tk, x] >>= _) _ _ ⟨h₃, g, d, tk + 1, os⟩
  refine wpAny_bind (wpAny_newTuple ?_)
  have he₄ : IsEnumHeld (h₃.push { cls := .type "tuple", data := .seq #[.int i tk, x] }) e it ((i : Int) + 1) old T f := Heap.get?_push_of_some _ he₃
  generalize hh₄ : h₃.push { cls := .type "tuple", data := .seq #[.int i tk, x] } = h₄ at he₄
  have hsz : h₃.objs.size = hp.objs.size := by rw [hs₃.1, hs₂.1, hs₁.1]
  have hel : e < hp.objs.size := Heap.lt_size he
  have ht₄ : h₄.get? hp.objs.size = some { cls := .type "tuple", data := .seq #[.int i tk, x] } := by rw [← hh₄, ← hsz]; exact Heap.get?_push_size _ rfl
  have hz₄ : h₄.objs.size = hp.objs.size + 1 := by rw [← hh₄, Heap.size_push, hsz]
  have hk₄ : ∀ b o, b ≠ e → b ≠ it → hp.get? b = some o → h₄.get? b = some o := fun b o hbe hbi hb => by
    rw [← hh₄]; exact Heap.get?_push_of_some _ (hs₃.extBut b o hbe (hs₂.extBut b o hbe (hs₁.extBut b o hbi hb)))
  have hit₄ : h₄.IsListIter it l (i + 1) := by
    rw [← hh₄]; obtain ⟨o, ho, r⟩ := (hit₁.extBut hs₂.extBut (Ne.symm hne)).extBut hs₃.extBut (Ne.symm hne); exact ⟨o, Heap.get?_push_of_some _ ho, r⟩
  show wpAny _ _ (Builtin.SmallTypes.ownedTupleIsFree (.ref e) >>= _) _ _ ⟨h₄, g, d, tk + 1, os⟩
  rw [hsz]
  clear hh₄ he₃ hs₃ he₂ hs₂ he₁ hs₁ hit₁ hsz h₃ h₂ h₁
  cases hT : h₄.get? T with
  | some oT =>
    refine wpAny_bind (wpAny_tupleHeld_enum (s := ⟨h₄, g, d, tk + 1, os⟩) he₄ hT fun h₅ he₅ hs₅ => ?_)
    replace hs₅ : Heap.SameBut e h₄ h₅ := hs₅
    simp only [Bool.false_eq_true, if_false]
    refine wpAny_pure ⟨_, rfl, hQ h₅ (.inr ⟨_, _, _, he₅⟩) (hit₄.extBut hs₅.extBut (Ne.symm hne)) (hs₅.extBut _ _ (Nat.ne_of_gt hel) ht₄) ?_ fun b o hbe hbi hb => hs₅.extBut b o hbe (hk₄ b o hbe hbi hb)⟩
    show h₅.objs.size = hp.objs.size + 1
    rw [hs₅.1, hz₄]
  | none =>
    refine wpAny_bind ?_
    unfold Builtin.SmallTypes.ownedTupleIsFree
    refine wpAny_bind (wpAny_field he₄ rfl (x := rawInt T) rfl ?_)
    show wpAny _ _ (loadIfAlive ((T : Int).toNat) >>= _) _ _ _
    rw [Int.toNat_natCast]
    refine wpAny_bind (alive_none hT ?_)
    simp only [Option.isNone_none, if_true]
    refine wpAny_pure ?_
    simp only [if_true]
    refine wpAny_bind (wpAny_rule ?_)
    refine wpAny_bind (wpAny_field he₄ rfl (x := old) rfl ?_)
    refine wpAny_bind (wpAny_setField_rec he₄ (by simp) fun h₅ he₅ hs₅ => ?_)
    replace hs₅ : Heap.SameBut e h₄ h₅ := hs₅
    replace he₅ : IsEnumHeld h₅ e it ((i : Int) + 1) x T f := he₅
    show wpAny _ _ (Builtin.SmallTypes.ownedTupleHandOut (.ref e) (.ref hp.objs.size) >>= _) _ _ ⟨h₅, g, d, tk + 1, os⟩
    refine wpAny_bind ?_
    unfold Builtin.SmallTypes.ownedTupleHandOut
    refine wpAny_bind (wpAny_setField_rec he₅ (by simp) fun h₆ he₆ hs₆ => ?_)
    replace hs₆ : Heap.SameBut e h₅ h₆ := hs₆
    replace he₆ : IsEnumHeld h₆ e it ((i : Int) + 1) x hp.objs.size f := he₆
    refine wpAny_setField_rec he₆ (by simp) fun h₇ he₇ hs₇ => ?_
    replace hs₇ : Heap.SameBut e h₆ h₇ := hs₇
    replace he₇ : IsEnumHeld h₇ e it ((i : Int) + 1) x hp.objs.size false := he₇
    refine wpAny_bind (wpAny_letGo (wpAny_pure ⟨_, rfl, hQ h₇ (.inr ⟨_, _, _, he₇⟩) ?_ ?_ ?_ ?_⟩))
    · exact ((hit₄.extBut hs₅.extBut (Ne.symm hne)).extBut hs₆.extBut (Ne.symm hne)).extBut hs₇.extBut (Ne.symm hne)
    · exact hs₇.extBut _ _ (Nat.ne_of_gt hel) (hs₆.extBut _ _ (Nat.ne_of_gt hel) (hs₅.extBut _ _ (Nat.ne_of_gt hel) ht₄))
    · rw [hs₇.1, hs₆.1, hs₅.1, hz₄]
    · exact fun b o hbe hbi hb => hs₇.extBut b o hbe (hs₆.extBut b o hbe (hs₅.extBut b o hbe (hk₄ b o hbe hbi hb)))
theorem enum_next {e it l : Addr} {i : Nat} {items : Array Value} {x : Value} {Q : Option Value → Shared → Prop}
    (he : EnSt s.heap e it i) (hit : s.heap.IsListIter it l i) (hl : s.heap.IsList l items) (hx : items[i]? = some x) (hne : e ≠ it)
    (hQ : ∀ h', EnSt h' e it ((i : Int) + 1) → h'.IsListIter it l (i + 1) →
      h'.get? s.heap.objs.size = some { cls := .type "tuple", data := .seq #[.int i s.toks, x] } → h'.objs.size = s.heap.objs.size + 1 →
      (∀ b o, b ≠ e → b ≠ it → s.heap.get? b = some o → h'.get? b = some o) → Q (some (.ref s.heap.objs.size)) { s with heap := h', toks := s.toks + 1 }) :
    wpAny (model prog w) A (pyNext (.ref e)) Q E s := by
  rcases he with ⟨old, he⟩ | ⟨old, T, f, he⟩
  · exact wpAny_pyNext_enum_item he hit hl hx hne fun h' a => hQ h' (.inr ⟨_, _, _, a⟩)
  · have hT : s.TypeIs (.ref e) "enumerate" := ⟨_, he, rfl⟩
    unfold pyNext
    exact wpAny_bind (wpAny_attempt (wpAny_callSpecial?_slot (name := Str.ofString "__next__") hT F.slot_enumerate_next
      (wpAny_call_entry F.slot_enumerate_next hT F.entry_enumerate_next
        (enum_item_out he hit hl hx hne fun h' a b c d k => wpAny_pure (hQ h' a b c d k)) (F.args_enumerate_next_1 _))))
theorem enum_stop {e it l : Addr} {i : Nat} {items : Array Value} {Q : Option Value → Shared → Prop} (hh : A.handled = none)
    (he : EnSt s.heap e it i) (hit : s.heap.IsListIter it l i) (hl : s.heap.IsList l items) (hx : items[i]? = none)
    (hQ : ∀ h', Heap.ExtBut it s.heap h' → Q none { s with heap := h' }) : wpAny (model prog w) A (pyNext (.ref e)) Q E s := by
  rcases he with ⟨old, he⟩ | ⟨old, T, f, he⟩
  · exact wpAny_pyNext_enum_end hh he hit hl hx hQ
  · exact wpAny_pyNext_enum_end_held hh he hit hl hx hQ
theorem enum_self {e it : Addr} {i : Int} {Q : Value → Shared → Prop} (he : EnSt s.heap e it i) (h : Q (.ref e) s) : wpAny (model prog w) A (pyIter (.ref e)) Q E s := by
  obtain ⟨vs, ho⟩ := he.obj
  have hT : s.TypeIs (.ref e) "enumerate" := ⟨_, ho, rfl⟩
  refine wpAny_pyIter_slot hT F.slot_enumerate_iter (wpAny_call_entry F.slot_enumerate_iter hT F.entry_enumerate_iter ?_ (F.args_enumerate_iter_1 _))
  show wpAny _ _ (ret (.ref e)) _ _ s
  exact wpAny_pure ⟨_, rfl, "enumerate", _, hT, F.slot_enumerate_next.lookup, h⟩
end
/-! ### one name as target -/
theorem turn_enumN {P : Program} {w : World} {K : PySem.W.Frag} {x : Str} {tpos : Pos} (a e it : Addr) :
    Turn P w K (.Name x tpos) (Ite K a) [e, it] e (fun i h => EnSt h e it ((i : Nat) : Int) ∧ h.IsListIter it a i ∧ e ≠ it) where
  mem := by simp
  obj := fun i h st b hb => by
    obtain ⟨he, ⟨o, ho, hc, hd⟩, _⟩ := st
    obtain ⟨vs, he⟩ := he.obj
    have e' : b = e ∨ b = it := by simpa using hb
    rcases e' with z | z
    · rw [z]; exact ⟨_, he, fun v q => nomatch q⟩
    · rw [z]; exact ⟨o, ho, fun v q => by rw [hd] at q; cases q⟩
  keep := fun i h h' st k => let ⟨he, hi, hne⟩ := st; ⟨he.keep (k e (by simp)), hi.at fun o q => k it (by simp) o q, hne⟩
  item := by
    intro X hP hw hK hc i pins s σ H E I hf st hg
    subst hP hw hK
    obtain ⟨he, hit, hne⟩ := st
    obtain ⟨xs, x, hq, hx⟩ := hg
    obtain ⟨its, rv, p, hz⟩ := I.list hq
    obtain ⟨u, hu, ru⟩ := rv.get hx
    have hel : e < s.heap.objs.size := by obtain ⟨vs, q⟩ := he.obj; exact Heap.lt_size q
    have hil : it < s.heap.objs.size := by obtain ⟨_, q, _⟩ := hit; exact Heap.lt_size q
    refine enum_next he hit p.isList (x := u) (by simpa using hu) hne fun h' ho hit' hT hsz hk => ?_
    have new : ObjOk X.prog X.w (upd H s.heap.objs.size (.tup [.int (i : Nat), x])) h' s.heap.objs.size (.tup [.int (i : Nat), x]) :=
      ⟨by show 2 ≤ sizeLine; decide, [.int i s.toks, u], .cons ⟨_, rfl⟩ (.cons ru .nil), ⟨_, hT, rfl, _, rfl⟩⟩
    have I1 : Inv X pins σ (upd H s.heap.objs.size (.tup [.int (i : Nat), x])) { s with heap := h', toks := s.toks + 1 } :=
      I.turnedNew (ch := [e, it]) (fun b ob hb q => hk b ob (fun z => hb (by simp [z])) (fun z => hb (by simp [z])) q) hf (Nat.le_refl _) new
    refine ⟨_, rfl, wpAny_pure ⟨.ref s.heap.objs.size, _, I1, rfl, ⟨_, x, rfl, I.hok.fresh (Nat.le_refl _), rfl, fun ys hy => by rw [I.list_inj hy hq]; exact hx⟩, ⟨?_, hit', hne⟩, fun b hb => ?_⟩⟩
    · have e1 : ((i + 1 : Nat) : Int) = (i : Int) + 1 := by omega
      rw [e1]; exact ho
    · have hb' : b < s.heap.objs.size := by
        have e' : b = e ∨ b = it := by simpa using hb
        rcases e' with z | z
        · rw [z]; exact hel
        · rw [z]; exact hil
      rw [upd_ne (Nat.ne_of_lt hb')]
      exact (hf b hb).1
  done := by
    intro X hP hw hK hc i pins s σ H E I hf st hg
    subst hP hw hK
    obtain ⟨he, hit, hne⟩ := st
    obtain ⟨xs, hq, hx⟩ := hg
    obtain ⟨its, rv, p, hz⟩ := I.list hq
    obtain ⟨f0, f1, f2, f3, f4, f5⟩ := hf it (by simp)
    have hl := rv.length
    exact enum_stop (I.ok.hd hc) he hit p.isList (by simp; omega) fun h' eb => ⟨rfl, I.turned (t' := s.toks) (fun b o hb q => eb b o hb q) f0 f1 f3 f4 f5⟩
  self := fun A i s Q E st h => enum_self st.1 h
def iEnN (K : PySem.W.Frag) (ta : TA) : TI := fun σ H R => ta σ H fun vs H1 => ∃ a, vs = [.ref a] ∧ ∃ xs, SqL K H1 a xs ∧ R (Ite K a) H1
theorem pi_enN {X : Cx} {e : Expr} {ta : TA} {x : Str} {p pos tpos : Pos} (hg : Gl X "enumerate") (hm : X.mg "enumerate" = none) (ha : PA X [e] ta) (hs : starEach [e] X.env = [(false, eval e X.env)]) :
    PI X (.Name x tpos) (.Call (.Name "enumerate" p) [e] [] pos) (iEnN X.K ta) := by
  refine ⟨fun pins s σ H R I h => ?_⟩
  refine Call_ (ld_blt I hg hm boot_enumerate (PyProof.Rows.callWith_type1 (thn (ha.run pos pins s σ H _ I h) fun us s1 ⟨vs, H1, I1, r1, q1⟩ => ?_) hs rfl))
  obtain ⟨a, ex, xs, hq, q⟩ := q1
  subst ex
  cases r1 with
  | cons r rr =>
    cases rr
    cases r
    obtain ⟨its, rv, p', hz⟩ := I1.list hq
    refine call_enumerate_list p'.isList fun h' he hit hsz hk => wpAny_pyIter_enum he ?_
    have I2 : Inv X pins σ H1 { s1 with heap := h' } := I1.kept (t' := s1.toks) hk
    refine ⟨s1.heap.objs.size + 1, [s1.heap.objs.size + 1, s1.heap.objs.size], _, _, H1, rfl, I2, turn_enumN a (s1.heap.objs.size + 1) s1.heap.objs.size, ⟨.inl ⟨.none, he⟩, hit, Nat.succ_ne_self _⟩, fun b hb => ?_, q⟩
    have e' : b = s1.heap.objs.size + 1 ∨ b = s1.heap.objs.size := by simpa using hb
    have hle : s1.heap.objs.size ≤ b := by
      rcases e' with z | z
      · rw [z]; exact Nat.le_add_right _ _
      · rw [z]; exact Nat.le_refl _
    exact I1.fpOk hle (I1.hok.fresh hle)
end Q
set_option Elab.async false
set_option maxRecDepth 100000
set_option linter.all false
set_option maxHeartbeats 3200000
/-! list(enumerate(xs)). -/
namespace Q
open PySem PySem.Spec PySem.Calls PyProof.Rows L2
theorem enum_no_len : typeLookup (.type "enumerate") "__len__" = pure none := by rw [typeLookup_type, builtinLookup_eq_fast]; kernel_rfl
theorem enum_no_hint : typeLookup (.type "enumerate") "__length_hint__" = pure none := by rw [typeLookup_type, builtinLookup_eq_fast]; kernel_rfl
/-- what was put in so far -/
structure EnGot (h0 : Heap) (e it S : Addr) (items : Array Value) (acc : Array Value) (h : Heap) : Prop where
  lst : ∃ c, h.get? S = some { cls := .type "list", dict := none, data := .seq acc c, slots := #[] }
  got : ∀ (j : Nat) (v : Value), acc[j]? = some v → ∃ (T : Addr) (t : Tok) (x : Value), v = .ref T ∧ items[j]? = some x ∧ h.get? T = some { cls := .type "tuple", data := .seq #[.int j t, x] } ∧ h0.objs.size ≤ T ∧ T ≠ S ∧ T ≠ e ∧ T ≠ it
  keep : ∀ b o, b ≠ S → b ≠ e → b ≠ it → h0.get? b = some o → h.get? b = some o
section
variable {prog : Program} {w : World} {A : Around} {R : Result → Shared → Prop} {h0 : Heap} {e it l S : Addr} {items : Array Value}
theorem enum_loop (hh : A.handled = none) (hne : e ≠ it) (hSe : S ≠ e) (hSi : S ≠ it) (hle : l ≠ e) (hli : l ≠ it) (hlS : l ≠ S) (hl0 : h0.IsList l items) (hn : items.size ≤ sizeLine) (res : Value) :
    ∀ (k i : Nat) (s : Shared) (acc : Array Value), items.size - i = k → i ≤ items.size → EnSt s.heap e it ((i : Nat) : Int) → s.heap.IsListIter it l i → acc.size = i → EnGot h0 e it S items acc s.heap → h0.objs.size ≤ s.heap.objs.size →
    (∀ h' tk acc', acc'.size = items.size → EnGot h0 e it S items acc' h' → R (.ok (.ret res)) { s with heap := h', toks := tk }) →
    codeAny (model prog w) A (.builtin "list.extend.loop" ⟨[.ref S, .ref e, res], []⟩) R s := by
  intro k
  induction k with
  | zero =>
    intro i s acc hk hi he hit hacc g gl hR
    have hin : i = items.size := by omega
    refine codeAny_builtin F.entry_extend_loop ?_
    rw [Around.under_plainId F.plain_extend_loop _]
    show wpAny _ A.in1 (pyNext (.ref e) >>= _) _ _ s
    have hl : s.heap.IsList l items := hl0.at fun o q => g.keep l o hlS hle hli q
    refine wpAny_bind (enum_stop (A := A.in1) hh he hit hl (by rw [hin]; simp) fun h' hx => ?_)
    refine wpAny_pure (hR h' s.toks acc (by rw [hacc, hin]) ⟨?_, fun j v hj => ?_, fun b o h1 h2 h3 q => hx b o h3 (g.keep b o h1 h2 h3 q)⟩)
    · obtain ⟨c, q⟩ := g.lst; exact ⟨c, hx _ _ hSi q⟩
    · obtain ⟨T, t, x, h1, h2, h3, h4, h5, h6, h7⟩ := g.got j v hj
      exact ⟨T, t, x, h1, h2, hx _ _ h7 h3, h4, h5, h6, h7⟩
  | succ k ih =>
    intro i s acc hk hi he hit hacc g gl hR
    have hlt : i < items.size := by omega
    refine codeAny_builtin F.entry_extend_loop ?_
    rw [Around.under_plainId F.plain_extend_loop _]
    show wpAny _ A.in1 (pyNext (.ref e) >>= _) _ _ s
    have hl : s.heap.IsList l items := hl0.at fun o q => g.keep l o hlS hle hli q
    have hx : items[i]? = some items[i] := Array.getElem?_eq_getElem hlt
    refine wpAny_bind (enum_next (A := A.in1) he hit hl hx hne fun h' he' hit' hT hsz hk' => ?_)
    obtain ⟨c, hS⟩ := g.lst
    have hSs : S < s.heap.objs.size := Heap.lt_size hS
    have hes : e < s.heap.objs.size := by obtain ⟨vs, q⟩ := he.obj; exact Heap.lt_size q
    have his : it < s.heap.objs.size := by obtain ⟨_, q, _⟩ := hit; exact Heap.lt_size q
    have hS' := hk' S _ hSe hSi hS
    show wpAny _ A.in1 (updateSeq S (·.push (.ref s.heap.objs.size)) >>= _) _ _ _
    refine wpAny_bind ?_
    have oth : ∀ b o, b ≠ S → h'.get? b = some o → (h'.update S (Obj.mapSeq (·.push (.ref s.heap.objs.size)))).get? b = some o := fun b o hb q => (Heap.get?_update_other _ _ (Ne.symm hb)).trans q
    refine wpAny_updateSeq (s := { s with heap := h', toks := s.toks + 1 }) hS' rfl (wpAny_pure ⟨plainId_quiet F.plain_extend_loop _, ih (i + 1) _ (acc.push (.ref s.heap.objs.size)) (by omega) hlt (he'.keep fun o q => oth e o (Ne.symm hSe) q) (hit'.at fun o q => oth it o (Ne.symm hSi) q) (by rw [Array.size_push, hacc]) ⟨⟨_, Heap.get?_update_self _ hS' rfl⟩, fun j v hj => ?_, fun b o h1 h2 h3 q => oth b o h1 (hk' b o h2 h3 (g.keep b o h1 h2 h3 q))⟩ ?_ hR⟩)
      (by rw [hacc]; omega) (by show (acc.push _).size ≤ sizeLine + 1; rw [Array.size_push, hacc]; omega)
    · rw [Array.getElem?_push] at hj
      split at hj
      · rename_i ej
        cases hj
        rw [hacc] at ej
        subst ej
        exact ⟨s.heap.objs.size, s.toks, items[j], rfl, hx, oth _ _ (Nat.ne_of_gt hSs) hT, gl, Nat.ne_of_gt hSs, Nat.ne_of_gt hes, Nat.ne_of_gt his⟩
      · obtain ⟨T, t, x, h1, h2, h3, h4, h5, h6, h7⟩ := g.got j v hj
        exact ⟨T, t, x, h1, h2, oth _ _ h5 (hk' _ _ h6 h7 h3), h4, h5, h6, h7⟩
    · show h0.objs.size ≤ (h'.update S _).objs.size
      rw [Heap.size_update, hsz]
      exact Nat.le_succ_of_le gl
theorem enum_extend (hh : A.handled = none) (hne : e ≠ it) (hSe : S ≠ e) (hSi : S ≠ it) (hle : l ≠ e) (hli : l ≠ it) (hlS : l ≠ S) (hl0 : h0.IsList l items) (hn : items.size ≤ sizeLine) (res : Value) (c₀ : Nat) {s : Shared}
    (he : EnSt s.heap e it 0) (hit : s.heap.IsListIter it l 0) (hS : s.heap.get? S = some { cls := .type "list", data := .seq #[] c₀ })
    (hk : ∀ b o, b ≠ S → b ≠ e → b ≠ it → h0.get? b = some o → s.heap.get? b = some o) (gl : h0.objs.size ≤ s.heap.objs.size)
    (hR : ∀ h' tk acc', acc'.size = items.size → EnGot h0 e it S items acc' h' → R (.ok (.ret res)) { s with heap := h', toks := tk }) :
    wpAny (model prog w) A.in1 (Builtin.List.listExtendWith (.ref S) (.ref e) res)
      (fun fin s' => match fin with | .done f => R (.ok f) s' | .again c' => c'.quiet = true ∧ codeAny (model prog w) A c' R s') (fun e s' => R (.error e) s') s := by
  obtain ⟨vs, ho⟩ := he.obj
  have hT : s.TypeIs (.ref e) "enumerate" := ⟨_, ho, rfl⟩
  unfold Builtin.List.listExtendWith
  refine wpAny_bind (wpAny_typeOf hT ?_)
  have h1 : Builtin.List.listSameRef (.ref S) (.ref e) = false := by simp [Builtin.List.listSameRef, hSe]
  have h2 : (Value.type "enumerate" == Value.type "list") = false := by decide
  have h3 : (Value.type "enumerate" == Value.type "tuple") = false := by decide
  simp only [h1, h2, h3, Bool.or_false, Bool.false_eq_true, if_false]
  refine wpAny_bind (enum_self he ?_)
  refine wpAny_bind (wpAny_holding ?_)
  unfold Builtin.List.listLengthHint
  refine wpAny_bind (wpAny_specialOf hT enum_no_len ?_)
  show wpAny _ A.in1 (specialOf (Value.ref e) (Str.ofString "__length_hint__") >>= _) _ _ _
  refine wpAny_bind (wpAny_specialOf hT enum_no_hint ?_)
  refine wpAny_pure ?_
  show wpAny _ A.in1 (rule "list.extend.makes-room" >>= fun _ => Builtin.List.listTouch (.ref S) >>= fun _ =>
    again (.builtin "list.extend.loop" ⟨[.ref S, .ref e, res], []⟩)) _ _ _
  refine wpAny_bind (wpAny_rule ?_)
  refine wpAny_bind ?_
  show wpAny _ A.in1 (updateSeq S (·.push .none) >>= fun _ => updateSeq S (·.pop)) _ _ _
  refine wpAny_bind (wpAny_updateSeq hS rfl ?_)
  have hS₂ := Heap.get?_update_self (Obj.mapSeq (·.push Value.none)) hS rfl
  refine wpAny_updateSeq (hz := by seq_fits) hS₂ rfl ?_
  have hS₃ := Heap.get?_update_self (Obj.mapSeq (·.pop)) hS₂ rfl
  have oth : ∀ b o, b ≠ S → s.heap.get? b = some o → ((s.heap.update S (Obj.mapSeq (·.push Value.none))).update S (Obj.mapSeq (·.pop))).get? b = some o :=
    fun b o hb q => (Heap.get?_update_other _ _ (Ne.symm hb)).trans ((Heap.get?_update_other _ _ (Ne.symm hb)).trans q)
  refine wpAny_pure ⟨plainId_quiet F.plain_extend_loop _, enum_loop (A := A) hh hne hSe hSi hle hli hlS hl0 hn res items.size 0 _ #[] (by omega) (Nat.zero_le _) (he.keep fun o q => oth e o (Ne.symm hSe) q) (hit.at fun o q => oth it o (Ne.symm hSi) q) rfl
    ⟨⟨_, hS₃⟩, fun j v hj => by simp at hj, fun b o b1 b2 b3 q => oth b o b1 (hk b o b1 b2 b3 q)⟩ (by show _ ≤ ((s.heap.update S _).update S _).objs.size; rw [Heap.size_update, Heap.size_update]; exact gl) hR⟩
theorem enum_init (hh : A.handled = none) (hne : e ≠ it) (hSe : S ≠ e) (hSi : S ≠ it) (hle : l ≠ e) (hli : l ≠ it) (hlS : l ≠ S) (hl0 : h0.IsList l items) (hn : items.size ≤ sizeLine) {s : Shared}
    (he : EnSt s.heap e it 0) (hit : s.heap.IsListIter it l 0) (hS : s.heap.get? S = some { cls := .type "list", data := .seq #[] })
    (hk : ∀ b o, b ≠ S → b ≠ e → b ≠ it → h0.get? b = some o → s.heap.get? b = some o) (gl : h0.objs.size ≤ s.heap.objs.size)
    (hR : ∀ h' tk acc', acc'.size = items.size → EnGot h0 e it S items acc' h' → R (.ok (.ret .none)) { s with heap := h', toks := tk }) :
    wpAny (model prog w) A.in1 (Builtin.«list.__init__» ⟨[.ref S, .ref e], []⟩)
      (fun fin s' => match fin with | .done f => R (.ok f) s' | .again c' => c'.quiet = true ∧ codeAny (model prog w) A c' R s') (fun e s' => R (.error e) s') s := by
  show wpAny _ A.in1 (do let old ← Builtin.List.listItems (.ref S); Builtin.List.listUpdate (.ref S) (fun _ => #[]); letGo old.toList.reverse; Builtin.List.listExtendWith (.ref S) (.ref e) .none) _ _ s
  refine wpAny_bind ?_
  unfold Builtin.List.listItems
  refine wpAny_bind (wpAny_seqItems hS rfl (wpAny_pure ?_))
  show wpAny _ A.in1 (updateSeq S (fun _ => #[]) >>= fun _ => letGo (#[] : Array Value).toList.reverse >>= fun _ => Builtin.List.listExtendWith (.ref S) (.ref e) .none) _ _ s
  refine wpAny_bind (wpAny_updateSeq hS rfl ?_)
  have hS₂ := Heap.get?_update_self (Obj.mapSeq (fun _ => (#[] : Array Value))) hS rfl
  have oth : ∀ b o, b ≠ S → s.heap.get? b = some o → (s.heap.update S (Obj.mapSeq (fun _ => (#[] : Array Value)))).get? b = some o :=
    fun b o hb q => (Heap.get?_update_other _ _ (Ne.symm hb)).trans q
  refine wpAny_bind (wpAny_letGo ?_)
  exact enum_extend (A := A) hh hne hSe hSi hle hli hlS hl0 hn .none _ (he.keep fun o q => oth e o (Ne.symm hSe) q) (hit.at fun o q => oth it o (Ne.symm hSi) q) hS₂
    (fun b o b1 b2 b3 q => oth b o b1 (hk b o b1 b2 b3 q)) (by show _ ≤ (s.heap.update S _).objs.size; rw [Heap.size_update]; exact gl) hR
end
section
variable {prog : Program} {w : World} {A : Around} {E : Value → Shared → Prop} {s : Shared} {e it l : Addr} {items : Array Value}
theorem call_list_enum {Q : Value → Shared → Prop} (hh : A.handled = none) (hne : e ≠ it) (hle : l ≠ e) (hli : l ≠ it) (hl : s.heap.IsList l items) (hn : items.size ≤ sizeLine) (he : EnSt s.heap e it 0) (hit : s.heap.IsListIter it l 0)
    (hQ : ∀ h' tk acc', acc'.size = items.size → EnGot s.heap e it s.heap.objs.size items acc' h' → Q (.ref s.heap.objs.size) { s with heap := h', toks := tk }) :
    wpAny (model prog w) A (call (.type "list") [.ref e]) Q E s := by
  have hes : e < s.heap.objs.size := by obtain ⟨vs, q⟩ := he.obj; exact Heap.lt_size q
  have his : it < s.heap.objs.size := by obtain ⟨_, q, _⟩ := hit; exact Heap.lt_size q
  have hls : l < s.heap.objs.size := by obtain ⟨_, q, _⟩ := hl; exact Heap.lt_size q
  refine callType_codes (Q₁ := fun obj s₁ => obj = .ref s.heap.objs.size ∧ s₁ = { s with heap := s.heap.push { cls := .type "list", data := .seq #[] } }) F.called_list (F.typeCall_list_1 _) F.entry_list_init
    (code_list_new _ ⟨rfl, rfl⟩) fun obj s₁ h₁ => ?_
  obtain ⟨rfl, rfl⟩ := h₁
  have hS : (s.heap.push { cls := .type "list", data := .seq #[] }).get? s.heap.objs.size = some { cls := .type "list", data := .seq #[] } := Heap.get?_push_size _ rfl
  refine ⟨⟨_, hS, rfl⟩, F.args_list_init_2 _ _, enum_init (A := A.in1) (h0 := s.heap) hh hne (Nat.ne_of_gt hes) (Nat.ne_of_gt his) hle hli (Nat.ne_of_lt hls) hl hn (he.keep fun o q => Heap.get?_push_of_some _ q)
    (hit.at fun o q => Heap.get?_push_of_some _ q) hS (fun b o _ _ _ q => Heap.get?_push_of_some _ q) (by rw [Heap.size_push]; exact Nat.le_succ _) fun h' tk acc' hz g => ⟨rfl, hQ h' tk acc' hz g⟩⟩
end
/-! ### many things laid at once -/
def updL (H : Hp) : List (Addr × HO) → Hp
  | [] => H
  | p :: r => updL (upd H p.1 p.2) r
theorem updL_get : ∀ {l : List (Addr × HO)} {H : Hp}, (l.map (·.1)).Nodup → ∀ p ∈ l, updL H l p.1 = some p.2
  | [], _, _, _, h => by cases h
  | q :: r, H, nd, p, h => by
    rw [List.map_cons, List.nodup_cons] at nd
    rcases List.mem_cons.mp h with e | h
    · subst e
      have keep : ∀ (r : List (Addr × HO)) (H : Hp) (a : Addr), a ∉ r.map (·.1) → updL H r a = H a := by
        intro r
        induction r with
        | nil => intro H a _; rfl
        | cons x r ih =>
          intro H a ha
          rw [List.map_cons, List.mem_cons, not_or] at ha
          show updL (upd H x.1 x.2) r a = H a
          rw [ih _ _ ha.2, upd_ne ha.1]
      show updL (upd H p.1 p.2) r p.1 = _
      rw [keep r _ _ nd.1, upd_same]
    · exact updL_get nd.2 p h
theorem inv_laidL {X : Cx} {pins : List (Addr × Obj)} {σ : L2.St} {h' : Heap} {t' : Nat} : ∀ (l : List (Addr × HO)) {H : Hp} {s : Shared}, Inv X pins σ H s → (l.map (·.1)).Nodup → (∀ p ∈ l, s.heap.get? p.1 = none ∧ H p.1 = none) → (∀ b u, s.heap.get? b = some u → h'.get? b = some u) →
    (∀ p ∈ l, (∃ o, h'.get? p.1 = some o) ∧ ∀ (H' : Hp) (G : Heap), (∀ o, h'.get? p.1 = some o → G.get? p.1 = some o) → ObjOk X.prog X.w H' G p.1 p.2) → Inv X pins σ (updL H l) { s with heap := h', toks := t' }
  | [], H, s, I, _, _, k, _ => I.kept k
  | p :: r, H, s, I, nd, hn, k, ok => by
    rw [List.map_cons, List.nodup_cons] at nd
    obtain ⟨G, g1, g2⟩ := restrict h' fun b => decide ((s.heap.get? b).isSome = true ∨ b = p.1)
    have kG : ∀ b u, s.heap.get? b = some u → G.get? b = some u := fun b u q => by
      rw [g1 b (decide_eq_true (.inl (by rw [q]; rfl)))]
      exact k b u q
    have pG : ∀ o, h'.get? p.1 = some o → G.get? p.1 = some o := fun o q => by
      rw [g1 p.1 (decide_eq_true (.inr rfl))]
      exact q
    have I1 : Inv X pins σ (upd H p.1 p.2) { s with heap := G, toks := s.toks } := I.laidN (t' := s.toks) kG (hn p List.mem_cons_self).1 (hn p List.mem_cons_self).2 ((ok p List.mem_cons_self).2 _ G pG)
    refine inv_laidL (s := { s with heap := G, toks := s.toks }) r I1 nd.2 (fun q hq => ?_) (fun b u q => ?_) fun q hq => ok q (List.mem_cons_of_mem _ hq)
    · have hne : q.1 ≠ p.1 := fun z => nd.1 (z ▸ List.mem_map_of_mem hq)
      have hq2 := hn q (List.mem_cons_of_mem _ hq)
      refine ⟨g2 q.1 (decide_eq_false ?_), by rw [upd_ne hne]; exact hq2.2⟩
      rintro (z | z)
      · rw [hq2.1] at z; cases z
      · exact hne z
    · show h'.get? b = some u
      by_cases hb : (s.heap.get? b).isSome = true ∨ b = p.1
      · rw [← g1 b (decide_eq_true hb)]; exact q
      · have z := g2 b (decide_eq_false hb)
        have q' : G.get? b = some u := q
        rw [z] at q'; cases q'
/-- the pairs of an enumerate -/
def enL : Nat → List Addr → List V → List (Addr × HO)
  | k, T :: Ts, x :: xs => (T, .tup [.int (k : Nat), x]) :: enL (k + 1) Ts xs
  | _, _, _ => []
theorem enL_fst : ∀ (k : Nat) (Ts : List Addr) (xs : List V), Ts.length = xs.length → (enL k Ts xs).map (·.1) = Ts
  | _, [], [], _ => rfl
  | k, T :: Ts, x :: xs, h => by
    show T :: (enL (k + 1) Ts xs).map (·.1) = _
    rw [enL_fst (k + 1) Ts xs (by simpa using h)]
  | _, [], _ :: _, h => by simp at h
  | _, _ :: _, [], h => by simp at h
theorem enL_mem : ∀ (k : Nat) (Ts : List Addr) (xs : List V) (p : Addr × HO), p ∈ enL k Ts xs → ∃ j T x, Ts[j]? = some T ∧ xs[j]? = some x ∧ p = (T, .tup [.int ((k + j : Nat) : Int), x])
  | k, T :: Ts, x :: xs, p, h => by
    rcases List.mem_cons.mp h with e | h
    · exact ⟨0, T, x, rfl, rfl, e⟩
    · obtain ⟨j, T', x', h1, h2, h3⟩ := enL_mem (k + 1) Ts xs p h
      exact ⟨j + 1, T', x', h1, h2, by rw [h3, Nat.add_assoc, Nat.add_comm 1 j]⟩
  | _, [], _, p, h => by cases h
  | _, _ :: _, [], p, h => by cases h
theorem updL_append : ∀ (l l2 : List (Addr × HO)) (H : Hp), updL H (l ++ l2) = updL (updL H l) l2
  | [], _, _ => rfl
  | p :: r, l2, H => updL_append r l2 (upd H p.1 p.2)
theorem updL_none : ∀ (l : List (Addr × HO)) (H : Hp) (a : Addr), a ∉ l.map (·.1) → updL H l a = H a
  | [], _, _, _ => rfl
  | p :: r, H, a, h => by
    rw [List.map_cons, List.mem_cons, not_or] at h
    show updL (upd H p.1 p.2) r a = _
    rw [updL_none r _ a h.2, upd_ne h.1]
section
variable {X : Cx} {e : Expr} {td : TE} {p p2 q apos cpos pos : Pos}
def tLE (K : PySem.W.Frag) (td : TE) : TE := fun σ H Q => td σ H fun x H1 => ∃ (l : Addr) (xs : List V), x = .ref l ∧ SqL K H1 l xs ∧
  ∀ (Ts : List Addr) (S : Addr), Ts.length = xs.length → Ts.Nodup → S ∉ Ts → (∀ a ∈ Ts, H1 a = none) → H1 S = none → Q (.ref S) (updL H1 (enL 0 Ts xs ++ [(S, .lst (Ts.map V.ref))]))
theorem pe_le (hc : X.calm = true) (hg : Gl X "list") (hm : X.mg "list" = none) (hg2 : Gl X "enumerate") (hm2 : X.mg "enumerate" = none) (he : PE X e td) (na : starEach [e] X.env = (false, eval e X.env) :: starEach [] X.env) :
    PE X (.Call (.Name "list" p) [.Call (.Name "enumerate" p2) [e] [] q] [] pos) (tLE X.K td) := by
  refine ⟨fun pins s σ H Q I h => ?_⟩
  refine Call_ (ld_blt I hg hm boot_list ?_)
  refine PyProof.Rows.callWith_type1 (PyProof.Rows.args_cons ?_ rfl) rfl rfl
  refine Call_ (ld_blt I hg2 hm2 boot_enumerate ?_)
  refine PyProof.Rows.callWith_type1 (PyProof.Rows.args_cons (thn (he.run pins s σ H _ I h) fun v s1 ⟨x, H1, I1, r1, q1⟩ => PyProof.Rows.args_nil ?_) na) na rfl
  obtain ⟨l, xs, rfl, hq, q1⟩ := q1
  cases r1
  obtain ⟨its, r, pl, hz⟩ := I1.list hq
  refine call_enumerate_list pl.isList fun h2 hen hit hsz hk => PyProof.Rows.args_nil ?_
  have hls : l < s1.heap.objs.size := by obtain ⟨_, ho, _⟩ := id pl.isList; exact Heap.lt_size ho
  have hll := r.length
  refine call_list_enum (s := { s1 with heap := h2 }) (items := its.toArray) (I1.ok.hd hc) (Nat.succ_ne_self _) (Nat.ne_of_lt (Nat.lt_succ_of_lt hls)) (Nat.ne_of_lt hls) (pl.isList.at fun o z => hk l o z) (by rw [List.size_toArray]; omega)
    (.inl ⟨.none, hen⟩) hit fun h' tk acc hacc g => ?_
  have hacc2 : acc.size = its.length := by rw [hacc, List.size_toArray]
  have hz2 : h2.objs.size = s1.heap.objs.size + 2 := hsz
  have hget : ∀ j, j < acc.size → ∃ T, acc[j]? = some (Value.ref T) := fun j hj => by
    obtain ⟨T, t, y, e1, _⟩ := g.got j _ (Array.getElem?_eq_getElem hj)
    exact ⟨T, by rw [Array.getElem?_eq_getElem hj, e1]⟩
  obtain ⟨Ts, hTs⟩ : ∃ Ts : List Addr, acc.toList = Ts.map Value.ref := by
    have gen : ∀ vs : List Value, (∀ v ∈ vs, ∃ T, v = Value.ref T) → ∃ Ts : List Addr, vs = Ts.map Value.ref := by
      intro vs
      induction vs with
      | nil => exact fun _ => ⟨[], rfl⟩
      | cons v vs ih =>
        intro hv
        obtain ⟨T, rfl⟩ := hv v List.mem_cons_self
        obtain ⟨Ts, rfl⟩ := ih fun u hu => hv u (List.mem_cons_of_mem _ hu)
        exact ⟨T :: Ts, rfl⟩
    refine gen _ fun v hv => ?_
    obtain ⟨j, hj, e1⟩ := List.mem_iff_getElem.mp hv
    obtain ⟨T, e2⟩ := hget j (by simpa using hj)
    rw [Array.getElem?_eq_getElem (by simpa using hj)] at e2
    exact ⟨T, by rw [← e1, Array.getElem_toList]; exact Option.some.inj e2⟩
  have hlen : Ts.length = xs.length := by
    have e1 := congrArg List.length hTs
    rw [List.length_map, Array.length_toList, hacc2] at e1
    omega
  have hT : ∀ (j : Nat) (T : Addr), Ts[j]? = some T → ∃ (t : Tok) (y : Value), its[j]? = some y ∧ h'.get? T = some { cls := .type "tuple", data := .seq #[.int j t, y] } ∧ h2.objs.size ≤ T ∧ T ≠ h2.objs.size := fun j T e1 => by
    have e2 : acc[j]? = some (Value.ref T) := by
      rw [← Array.getElem?_toList, hTs, List.getElem?_map, e1]; rfl
    obtain ⟨T', t, y, e3, e4, e5, e6, e7, _⟩ := g.got j _ e2
    cases e3
    exact ⟨t, y, by simpa using e4, e5, e6, e7⟩
  have nd : Ts.Nodup := by
    refine List.pairwise_iff_getElem.mpr fun i j hi hj hij e1 => ?_
    obtain ⟨t1, y1, _, e3, _⟩ := hT i _ (List.getElem?_eq_getElem hi)
    obtain ⟨t2, y2, _, e5, _⟩ := hT j _ (List.getElem?_eq_getElem hj)
    rw [e1, e5] at e3
    simp only [Option.some.injEq, Obj.mk.injEq, Data.seq.injEq] at e3
    have e6 := e3.2.2.1.1
    have e7 := congrArg (fun a : Array Value => a[0]?) e6
    simp at e7
    omega
  have hS : s1.heap.objs.size ≤ h2.objs.size := by omega
  have hmem : ∀ T ∈ Ts, s1.heap.objs.size ≤ T ∧ T ≠ h2.objs.size := fun T hm => by
    obtain ⟨j, e1⟩ := List.getElem?_of_mem hm
    obtain ⟨_, _, _, _, e2, e3⟩ := hT j T e1
    exact ⟨Nat.le_trans hS e2, e3⟩
  have nn : ∀ a, s1.heap.objs.size ≤ a → s1.heap.get? a = none ∧ H1 a = none := fun a ha => ⟨by
    cases z : s1.heap.get? a with
    | none => rfl
    | some o => exact absurd (Nat.lt_of_lt_of_le (Heap.lt_size z) ha) (Nat.lt_irrefl _), I1.hok.fresh ha⟩
  have SnT : h2.objs.size ∉ Ts := fun z => (hmem _ z).2 rfl
  obtain ⟨c, hL⟩ := g.lst
  refine ⟨.ref h2.objs.size, updL H1 (enL 0 Ts xs ++ [(h2.objs.size, .lst (Ts.map V.ref))]), ?_, rfl, q1 Ts _ hlen nd SnT (fun a ha => (nn a (hmem a ha).1).2) (nn _ hS).2⟩
  refine inv_laidL (s := s1) (t' := tk) _ I1 ?_ (fun p hp => ?_) (fun b u z => ?_) fun p hp => ?_
  · rw [List.map_append, enL_fst 0 Ts xs hlen]
    refine List.nodup_append.mpr ⟨nd, by simp, fun a ha b hb => ?_⟩
    have hb' : b = h2.objs.size := by simpa using hb
    rw [hb']
    exact (hmem a ha).2
  · rcases List.mem_append.mp hp with hp | hp
    · obtain ⟨j, T, x, e1, _, rfl⟩ := enL_mem 0 Ts xs p hp
      exact nn T (hmem T (List.mem_of_getElem? e1)).1
    · have e1 : p = (h2.objs.size, .lst (Ts.map V.ref)) := by simpa using hp
      rw [e1]
      exact nn _ hS
  · have hb := Heap.lt_size z
    exact g.keep b u (Nat.ne_of_lt (Nat.lt_of_lt_of_le hb hS)) (Nat.ne_of_lt (Nat.lt_succ_of_lt hb)) (Nat.ne_of_lt hb) (hk b u z)
  · rcases List.mem_append.mp hp with hp | hp
    · obtain ⟨j, T, x, e1, e2, rfl⟩ := enL_mem 0 Ts xs p hp
      obtain ⟨t, y, e3, e4, _⟩ := hT j T e1
      obtain ⟨y', e5, ry⟩ := r.get e2
      rw [e3] at e5
      cases e5
      refine ⟨⟨_, e4⟩, fun H' G kG => ⟨by show 2 ≤ sizeLine; decide, [.int j t, y], .cons ⟨t, by rw [Nat.zero_add]⟩ (.cons ry .nil), ⟨_, kG _ e4, rfl, _, rfl⟩⟩⟩
    · have e1 : p = (h2.objs.size, .lst (Ts.map V.ref)) := by simpa using hp
      rw [e1]
      have vr : Vals (Ts.map V.ref) acc.toList := by
        rw [hTs]
        have gen : ∀ l : List Addr, Vals (l.map V.ref) (l.map Value.ref) := by
          intro l
          induction l with
          | nil => exact .nil
          | cons a l ih => exact .cons rfl ih
        exact gen Ts
      exact ⟨⟨_, hL⟩, fun H' G kG => ⟨by show (Ts.map V.ref).length ≤ sizeLine; rw [List.length_map, hlen]; omega, acc.toList, c, vr, kG _ hL⟩⟩
end
end Q
set_option Elab.async false
set_option maxRecDepth 100000
set_option linter.all false
set_option maxHeartbeats 1000000
/-! What is walked; comprehensions. -/
namespace Q
open PySem PySem.Spec PyProof.Rows L2
section
variable {K : PySem.W.Frag} {mg : Str → Option Value} {F : Hp}
theorem ylds_list {a : Addr} {xs : List D} {ys : List V} (h : SqL K F a ys) (r : RepDs K mg F xs ys) : Ylds K mg F xs (Itl K a) := by
  intro i F1 H s1 s2
  have h1 := s2.seq (s1.seq h)
  refine ⟨fun d e => ?_, fun hl => ⟨ys, h1, by rw [← r.length]; exact hl⟩⟩
  obtain ⟨v, e1, r1⟩ := r.get e
  refine ⟨⟨ys, v, h1, e1⟩, fun x H' y => ?_⟩
  obtain ⟨rfl, y⟩ := y
  have := y ys h1
  rw [e1] at this; cases this
  exact ⟨F1, .refl s2, r1.mono s1⟩
theorem ylds_tup {a : Addr} {xs : List D} {ys : List V} (h : SqT K F a ys) (r : RepDs K mg F xs ys) : Ylds K mg F xs (Itt K a) := by
  intro i F1 H s1 s2
  have h1 := Same.seqT s2 (Same.seqT s1 h)
  refine ⟨fun d e => ?_, fun hl => ⟨ys, h1, by rw [← r.length]; exact hl⟩⟩
  obtain ⟨v, e1, r1⟩ := r.get e
  refine ⟨⟨ys, v, h1, e1⟩, fun x H' y => ?_⟩
  obtain ⟨rfl, y⟩ := y
  have := y ys h1
  rw [e1] at this; cases this
  exact ⟨F1, .refl s2, r1.mono s1⟩
theorem rngL_get {lo : Int} {n i : Nat} {d : D} (e : (rngL lo n)[i]? = some d) : i < n ∧ d = .int (lo + i) := by
  unfold rngL at e
  rw [List.getElem?_map] at e
  by_cases h : i < n
  · rw [List.getElem?_range h] at e
    cases e
    exact ⟨h, rfl⟩
  · rw [List.getElem?_eq_none (by simpa using h)] at e
    cases e
theorem ylds_rng {lo : Int} {n : Nat} : Ylds K mg F (rngL lo n) (Itr lo n) := by
  intro i F1 H s1 s2
  refine ⟨fun d e => ?_, fun hl => ?_⟩
  · obtain ⟨h1, rfl⟩ := rngL_get e
    refine ⟨h1, fun x H' y => ?_⟩
    obtain ⟨rfl, rfl⟩ := y
    exact ⟨F1, .refl s2, .int _⟩
  · simp [rngL] at hl
    exact hl
theorem enumL_len : ∀ (k : Nat) (xs : List D), (enumL k xs).length = xs.length
  | _, [] => rfl
  | k, x :: xs => by simp [enumL, enumL_len]
theorem enumL_get : ∀ {k : Nat} {xs : List D} {i : Nat} {d : D}, (enumL k xs)[i]? = some d → ∃ x, xs[i]? = some x ∧ d = .tup [.int ((k + i : Nat) : Int), x]
  | _, [], _, _, e => by simp [enumL] at e
  | k, x :: xs, 0, d, e => by simp [enumL] at e; subst e; exact ⟨x, rfl, rfl⟩
  | k, x :: xs, i + 1, d, e => by
    simp only [enumL, List.getElem?_cons_succ] at e
    obtain ⟨y, h1, rfl⟩ := enumL_get e
    exact ⟨y, by simpa using h1, by rw [Nat.add_assoc, Nat.add_comm 1 i]⟩
theorem ylds_enum {a : Addr} {xs : List D} {ys : List V} (h : F a = some (.lst ys)) (r : RepDs K mg F xs ys) : Ylds K mg F (enumL 0 xs) (Ite K a) := by
  intro i F1 H s1 s2
  have h1 : SqL K H a ys := .of (s2 _ _ (s1 _ _ h))
  refine ⟨fun d e => ?_, fun hl => ⟨ys, h1, by rw [← r.length]; rw [enumL_len] at hl; exact hl⟩⟩
  obtain ⟨x, e0, rfl⟩ := enumL_get e
  obtain ⟨v, e1, r1⟩ := r.get e0
  refine ⟨⟨ys, v, h1, e1⟩, fun x' H' y => ?_⟩
  obtain ⟨T, x2, rfl, hT, rfl, y⟩ := y
  have := y ys h1
  rw [e1] at this; cases this
  have g := Grow.new s2 (o := .tup [.int (i : Nat), v]) hT
  refine ⟨_, g, .tup (.of upd_same) (.cons ?_ (.cons ((r1.mono s1).mono (g.same s2)) .nil))⟩
  rw [Nat.zero_add]
  exact .int _
theorem ylds_enumT {a : Addr} {xs : List D} {ys : List V} (h : SqT K F a ys) (r : RepDs K mg F xs ys) : Ylds K mg F (enumL 0 xs) (IteT K a) := by
  intro i F1 H s1 s2
  have h1 := Same.seqT s2 (Same.seqT s1 h)
  refine ⟨fun d e => ?_, fun hl => ⟨ys, h1, by rw [← r.length]; rw [enumL_len] at hl; exact hl⟩⟩
  obtain ⟨x, e0, rfl⟩ := enumL_get e
  obtain ⟨v, e1, r1⟩ := r.get e0
  refine ⟨⟨ys, v, h1, e1⟩, fun x' H' y => ?_⟩
  obtain ⟨T, x2, rfl, hT, rfl, y⟩ := y
  have := y ys h1
  rw [e1] at this; cases this
  have g := Grow.new s2 (o := .tup [.int (i : Nat), v]) hT
  refine ⟨_, g, .tup (.of upd_same) (.cons ?_ (.cons ((r1.mono s1).mono (g.same s2)) .nil))⟩
  rw [Nat.zero_add]
  exact .int _
theorem zipL_get : ∀ {xs ys : List D} {i : Nat} {d : D}, (zipL xs ys)[i]? = some d → ∃ x y, xs[i]? = some x ∧ ys[i]? = some y ∧ d = .tup [x, y]
  | [], _, _, _, e => by simp [zipL] at e
  | _ :: _, [], _, _, e => by simp [zipL] at e
  | x :: xs, y :: ys, 0, d, e => by simp [zipL] at e; subst e; exact ⟨x, y, rfl, rfl, rfl⟩
  | x :: xs, y :: ys, i + 1, d, e => by
    simp only [zipL, List.getElem?_cons_succ] at e
    obtain ⟨a, b, h1, h2, rfl⟩ := zipL_get e
    exact ⟨a, b, by simpa using h1, by simpa using h2, rfl⟩
theorem zipL_len : ∀ (xs ys : List D), (zipL xs ys).length = min xs.length ys.length
  | [], _ => by simp [zipL]
  | _ :: _, [] => by simp [zipL]
  | x :: xs, y :: ys => by simp [zipL, zipL_len xs ys]
theorem ylds_zip {a b : Addr} {xs zs : List D} {ys ws : List V} (h : F a = some (.lst ys)) (r : RepDs K mg F xs ys) (h' : F b = some (.lst ws)) (r' : RepDs K mg F zs ws) : Ylds K mg F (zipL xs zs) (Itz K a b) := by
  intro i F1 H s1 s2
  have h1 : SqL K H a ys := .of (s2 _ _ (s1 _ _ h))
  have h2 : SqL K H b ws := .of (s2 _ _ (s1 _ _ h'))
  refine ⟨fun d e => ?_, fun hl => ⟨ys, ws, h1, h2, by rw [← r.length, ← r'.length]; rw [zipL_len] at hl; omega⟩⟩
  obtain ⟨x, z, e0, e0', rfl⟩ := zipL_get e
  obtain ⟨v, e1, r1⟩ := r.get e0
  obtain ⟨u, e2, r2⟩ := r'.get e0'
  refine ⟨⟨ys, ws, v, u, h1, h2, e1, e2⟩, fun x' H' y => ?_⟩
  obtain ⟨T, v2, u2, rfl, hT, rfl, y1, y2⟩ := y
  have := y1 ys h1
  rw [e1] at this; cases this
  have := y2 ws h2
  rw [e2] at this; cases this
  have g := Grow.new s2 (o := .tup [v, u]) hT
  exact ⟨_, g, .tup (.of upd_same) (.cons ((r1.mono s1).mono (g.same s2)) (.cons ((r2.mono s1).mono (g.same s2)) .nil))⟩
end
theorem L2PI.or {X : Cx} {tg e : Expr} {t t' : TI} (h : PI X tg e t) (h' : PI X tg e t') : PI X tg e (fun σ H Q => t σ H Q ∨ t' σ H Q) := ⟨fun p s σ H Q I q => q.elim (h.run p s σ H Q I) (h'.run p s σ H Q I)⟩
section
variable {X : Cx} {cl : Nat → Addr} {Wx : WX}
variable {pa pb pc : Expr} {fa fb fc : Env → Store → R W} {ta tb : Env → Store → R Bool} {pos : Pos}
abbrev SI (X : Cx) (cl : Nat → Addr) (Wx : WX) (tg pe : Expr) (f : Env → Store → R (List D)) : Prop := PI X tg pe (rdI X.K X.mg cl Wx f)
theorem si_seq {tg : Expr} (ha : SE X cl Wx pa fa) : SI X cl Wx tg pa (fun ρ S => (fa ρ S).bind fun x S1 => itSeq x S1) := by
  refine L2PI.weaken (L2PI.or (pi_list ha) (pi_tup ha)) ?_
  rintro σ H Q ⟨ω, ρ, S, hr, sl, h⟩
  dsimp only at h
  cases e : fa ρ S with
  | stuck => rw [e] at h; exact h.elim
  | exc c S1 => rw [e] at h; exact .inl ⟨ω, ρ, S, hr, sl, by rw [e]; exact h⟩
  | ok w S1 =>
    rw [e] at h
    cases w with
    | loc k => exact h.elim
    | at_ k => exact h.elim
    | tupW k => exact h.elim
    | d x =>
      cases x with
      | non => exact h.elim
      | bl _ => exact h.elim
      | int _ => exact h.elim
      | str _ => exact h.elim
      | fn _ => exact h.elim
      | dct _ => exact h.elim
      | lst xs =>
        refine .inl ⟨ω, ρ, S, hr, sl, ?_⟩
        rw [e]
        intro ω1 H1 l1 hr1 vx rx
        cases rx.of_d with
        | @lst a _ ys q1 q2 => exact ⟨a, rfl, ⟨ys, .of (hr1.fz _ _ q1)⟩, h ω1 H1 l1 hr1 _ (ylds_list (.of q1) q2)⟩
      | scr ns =>
        refine .inl ⟨ω, ρ, S, hr, sl, ?_⟩
        rw [e]
        intro ω1 H1 l1 hr1 vx rx
        cases rx.of_d with
        | @scr a _ q1 => exact ⟨a, rfl, ⟨_, hr1.fz.seq q1⟩, h ω1 H1 l1 hr1 _ (ylds_list q1 RepDs.ints)⟩
      | tup xs =>
        refine .inr ⟨ω, ρ, S, hr, sl, ?_⟩
        rw [e]
        intro ω1 H1 l1 hr1 vx rx
        cases rx.of_d with
        | @tup a _ ys q1 q2 => exact ⟨a, rfl, ⟨ys, Same.seqT hr1.fz q1⟩, h ω1 H1 l1 hr1 _ (ylds_tup q1 q2)⟩
theorem fits_of {i : Int} (h : fits i = true) : -(2 ^ 62) ≤ i ∧ i < 2 ^ 62 := by
  unfold fits at h
  simp only [Bool.and_eq_true, decide_eq_true_eq] at h
  exact h
theorem si_r1 {tg : Expr} {p : Pos} (hg : Gl X "range") (hm : X.mg "range" = none) (hp : plainE pa = true) (ha : SE X cl Wx pa fa) : SI X cl Wx tg (.Call (.Name "range" p) [pa] [] pos) (fun ρ S => (fa ρ S).bind fun x S1 => itR1 x S1) := by
  refine L2PI.weaken (pi_range1 hg hm (pa_cons ha pa_nil (star_cons hp)) (star_cons hp)) ?_
  rintro σ H Q ⟨ω, ρ, S, hr, sl, h⟩
  refine ⟨ω, ρ, S, hr, sl, h.bind.mono fun ω1 S1 H1 x l1 hr1 h1 vx rx => ?_⟩
  unfold itR1 at h1
  split at h1
  · split at h1
    · rename_i j hf
      cases rx.of_d.of_int
      exact ⟨j, rfl, (fits_of hf).1, (fits_of hf).2, h1.now hr1 _ ylds_rng⟩
    · exact h1.elim
  · exact h1.elim
theorem si_r2 {tg : Expr} {p : Pos} (hg : Gl X "range") (hm : X.mg "range" = none) (hp : plainE pa = true) (hq : plainE pb = true) (ha : SE X cl Wx pa fa) (hb : SE X cl Wx pb fb) :
    SI X cl Wx tg (.Call (.Name "range" p) [pa, pb] [] pos) (fun ρ S => (fa ρ S).bind fun x S1 => (fb ρ S1).bind fun y S2 => itR2 x y S2) := by
  refine L2PI.weaken (pi_range2 hg hm (pa_cons ha (pa_cons hb pa_nil (star_cons hq)) (star_cons hp)) (by rw [star_cons hp, star_cons hq]; rfl) (star_cons hq)) ?_
  rintro σ H Q ⟨ω, ρ, S, hr, sl, h⟩
  refine ⟨ω, ρ, S, hr, sl, h.bind.mono fun ω1 S1 H1 x l1 hr1 h1 vx rx => ⟨ω1, ρ, S1, hr1, sl.mono l1, h1.bind.mono fun ω2 S2 H2 y l2 hr2 h2 vy ry => ?_⟩⟩
  unfold itR2 at h2
  split at h2
  · split at h2
    · rename_i i j hf
      simp only [Bool.and_eq_true] at hf
      cases rx.of_d.of_int
      cases ry.of_d.of_int
      exact ⟨i, j, rfl, ⟨(fits_of hf.1).1, (fits_of hf.1).2, (fits_of hf.2).1, (fits_of hf.2).2⟩, h2.now hr2 _ ylds_rng⟩
    · exact h2.elim
  · exact h2.elim
theorem si_enum {elts : List Expr} {kk : Nat} {tpos p : Pos} (hg : Gl X "enumerate") (hm : X.mg "enumerate" = none) (hp : plainE pa = true) (ha : SE X cl Wx pa fa) :
    SI X cl Wx (.Tuple elts kk tpos) (.Call (.Name "enumerate" p) [pa] [] pos) (fun ρ S => (fa ρ S).bind fun x S1 => itEnum x S1) := by
  refine L2PI.weaken (pi_en hg hm (pa_cons ha pa_nil (star_cons hp)) (star_cons hp)) ?_
  rintro σ H Q ⟨ω, ρ, S, hr, sl, h⟩
  refine ⟨ω, ρ, S, hr, sl, h.bind.mono fun ω1 S1 H1 x l1 hr1 h1 vx rx => ?_⟩
  unfold itEnum at h1
  split at h1
  · cases rx.of_d with
    | @lst a _ ys q1 q2 => exact ⟨a, rfl, .inl ⟨ys, .of (hr1.fz _ _ q1), h1.now hr1 _ (ylds_enum q1 q2)⟩⟩
  · cases rx.of_d with
    | @tup a _ ys q1 q2 => exact ⟨a, rfl, .inr ⟨ys, Same.seqT hr1.fz q1, h1.now hr1 _ (ylds_enumT q1 q2)⟩⟩
  · exact h1.elim
theorem si_enumN {x : Str} {tpos p : Pos} (hg : Gl X "enumerate") (hm : X.mg "enumerate" = none) (hp : plainE pa = true) (ha : SE X cl Wx pa fa) :
    SI X cl Wx (.Name x tpos) (.Call (.Name "enumerate" p) [pa] [] pos) (fun ρ S => (fa ρ S).bind fun x S1 => itEnumN x S1) := by
  refine L2PI.weaken (pi_enN hg hm (pa_cons ha pa_nil (star_cons hp)) (star_cons hp)) ?_
  rintro σ H Q ⟨ω, ρ, S, hr, sl, h⟩
  refine ⟨ω, ρ, S, hr, sl, h.bind.mono fun ω1 S1 H1 x l1 hr1 h1 vx rx => ?_⟩
  unfold itEnumN at h1
  split at h1
  · cases rx.of_d with
    | @lst a _ ys q1 q2 => exact ⟨a, rfl, ys, .of (hr1.fz _ _ q1), h1.now hr1 _ (ylds_enum q1 q2)⟩
  · exact h1.elim
theorem si_zip {elts : List Expr} {kk : Nat} {tpos p : Pos} (hg : Gl X "zip") (hm : X.mg "zip" = none) (hp : plainE pa = true) (hq : plainE pb = true) (ha : SE X cl Wx pa fa) (hb : SE X cl Wx pb fb) :
    SI X cl Wx (.Tuple elts kk tpos) (.Call (.Name "zip" p) [pa, pb] [] pos) (fun ρ S => (fa ρ S).bind fun x S1 => (fb ρ S1).bind fun y S2 => itZip x y S2) := by
  refine L2PI.weaken (pi_zip hg hm (pa_cons ha (pa_cons hb pa_nil (star_cons hq)) (star_cons hp)) (star_cons hp) (star_any (by simp [hq]))) ?_
  rintro σ H Q ⟨ω, ρ, S, hr, sl, h⟩
  refine ⟨ω, ρ, S, hr, sl, h.bind.mono fun ω1 S1 H1 x l1 hr1 h1 vx rx => ⟨ω1, ρ, S1, hr1, sl.mono l1, h1.bind.mono fun ω2 S2 H2 y l2 hr2 h2 vy ry => ?_⟩⟩
  unfold itZip at h2
  split at h2
  · cases (rx.mono l2).of_d with
    | @lst a _ ys q1 q2 =>
    cases ry.of_d with
    | @lst b _ ws w1 w2 => exact ⟨a, b, ys, ws, rfl, .of (hr2.fz _ _ q1), .of (hr2.fz _ _ w1), h2.now hr2 _ (ylds_zip q1 q2 w1 w2)⟩
  · exact h2.elim
/-! ### comprehensions -/
abbrev WF : WX := fun _ _ _ _ => False
theorem post_ok {α : Type} {K : PySem.W.Frag} {mg : Str → Option Value} {σ : L2.St} {ω : Wd} {r : R α} {v : α} {S' : Store} {P : Wd → Store → Hp → α → Prop} (e : r = .ok v S')
    (h : ∀ (ω' : Wd) (H' : Hp), ω.le ω' → HRep K mg ω' S' H' → P ω' S' H' v) : Post K mg cl WF σ ω r P := by
  rw [e]; exact h
def compF (tg : Tg) (vs : List Nat) (fi : Env → Store → R (List D)) (fc : Env → Store → R Bool) (fe : Env → Store → R W) : Env → Store → R W :=
  fun ρ S => (fi ρ S).bind fun items S1 => if items.length ≤ sizeLine then (compL tg vs fc fe ρ items S1).bind fun ys S2 => .ok (.d (.lst ys)) S2 else .stuck
theorem comp_read {own : List (Str × Nat)} {tg : Tg} {fi : Env → Store → R (List D)} {fc : Env → Store → R Bool} {fe : Env → Store → R W} (hin : tgIn tg (own.map (·.2)) = true) :
    ∀ (σ : L2.St) (H : Hp) (Q : VK), rdE X.K X.mg cl Wx (compF tg (own.map (·.2)) fi fc fe) σ H Q → tLc (rdI X.K X.mg cl Wx fi) (rdG X.K X.mg tg) (rdT X.K X.mg cl WF fc) (rdE X.K X.mg cl WF fe) (own.map (·.2)) σ H Q := by
  rintro σ H Q ⟨ω, ρ, S, hr, sl, h⟩
  refine ⟨ω, ρ, S, hr, sl, h.bind.mono fun ω1 S1 H1 items l1 hr1 h1 J yl D0 hD => ?_⟩
  split at h1
  case isFalse => exact h1.elim
  rename_i hline
  have sl1 := sl.mono l1
  have fzD : ω1.fz D0 = none := by
    cases q : ω1.fz D0 with
    | none => rfl
    | some v => rw [hr1.fz _ _ q] at hD; cases hD
  have frD : ω1.fr D0 = none := by
    cases q : ω1.fr D0 with
    | none => rfl
    | some v => rw [hr1.fr _ _ q] at hD; cases hD
  have muD : ∀ (k : Nat), ω1.mu[k]? ≠ some D0 := fun k q => by
    have hk : k < S1.length := by rw [← hr1.len]; exact (List.getElem?_eq_some_iff.mp q).1
    obtain ⟨v, z⟩ := (hr1.obj k S1[k] D0 (by simp [hk]) q).there
    rw [z] at hD; cases hD
  -- the word between two turns
  let Wd1 : Nat → Nat → Hp → Prop := fun i m H => m = items.length - i ∧ i ≤ items.length ∧ ∃ (ω' : Wd) (S' : Store) (acc : List V) (ds : List D),
    HRep X.K X.mg ω' S' H ∧ ω'.fr = upd ω1.fr D0 (.lst acc) ∧ ω1.lo ω' ∧ RepDs X.K X.mg ω'.fz ds acc ∧ acc.length ≤ i ∧
    Post X.K X.mg cl Wx σ { ω' with fr := ω1.fr } ((compL tg (own.map (·.2)) fc fe ρ (items.drop i) S').bind fun ys S2 => .ok (.d (.lst (ds ++ ys))) S2) fun ω' _ H' w => ∀ x, RepW X.K X.mg ω' w x → Q x H'
  have start : HRep X.K X.mg { ω1 with fr := upd ω1.fr D0 (.lst []) } S1 (upd H1 D0 (.lst [])) := hr1.other fzD muD
  refine ⟨Wd1, ⟨items.length, by simp, Nat.zero_le _, { ω1 with fr := upd ω1.fr D0 (.lst []) }, S1, [], [], start, rfl, ⟨Same.refl _, ⟨[], by simp⟩, rfl⟩, .nil, Nat.le_refl _, by simpa using h1⟩, ?_⟩
  rintro i m H2 ⟨rfl, hi2, ω2, S2, acc, ds, hr2, fr2, lo2, rd2, al, h2⟩
  have hD2 : H2 D0 = some (.lst acc) := hr2.fr _ _ (by rw [fr2, upd_same])
  have yi := yl i ω2.fz H2 lo2.s hr2.fz
  have hsz : items.length ≤ i → i = items.length := fun z => Nat.le_antisymm hi2 z
  by_cases hlt : i < items.length
  · -- a turn
    obtain ⟨hgo, hy⟩ := yi.1 items[i] (by simp [hlt])
    refine .inr ⟨hgo, Wd1 (i + 1) (items.length - (i + 1)), fun H' w' => ⟨items.length - (i + 1), by omega, w'⟩, fun x H3 hx => ?_⟩
    obtain ⟨F3, g3, rx⟩ := hy x H3 hx
    have hr3 := hr2.grow g3
    have dr : items.drop i = items[i] :: items.drop (i + 1) := List.drop_eq_getElem_cons hlt
    rw [dr] at h2
    simp only [compL] at h2
    split at h2
    · exact h2.elim
    · rename_i ρ1 et
      have lo3 : ω1.lo { ω2 with fz := F3 } := ⟨lo2.s.trans (g3.same hr2.fz), lo2.m, lo2.h⟩
      have slw : Sl X.K X.mg { ω2 with fz := F3 } (wipeE ρ (own.map (·.2))) (L2.wipe σ (own.map (·.2))) := (⟨sl1.len, fun i w e => by
        obtain ⟨x, e1, e2⟩ := sl1.at_ i w e
        exact ⟨x, e1, e2.mono0 lo3⟩⟩ : Sl X.K X.mg { ω2 with fz := F3 } ρ σ).wipe _
      refine ⟨{ ω2 with fz := F3 }, _, S2, items[i], ρ1, hr3, slw, rx, et, fun σ4 sl4 w4 => ⟨(w4 _ hin).trans (wipe_wipe _ _ fun _ z => z), ?_⟩⟩
      split at h2
      · -- it is kept
        rename_i S3 ec
        refine ⟨_, ρ1, S2, hr3, sl4, post_ok ec fun ω4 H4 l4 hr4 => ?_⟩
        show (if true = true then _ else _)
        rw [if_pos rfl]
        split at h2
        · rename_i y S4 ee
          refine ⟨ω4, ρ1, S3, hr4, sl4.mono l4, post_ok ee fun ω5 H5 l5 hr5 vy ry => ?_⟩
          have fr5 : ω5.fr = upd ω1.fr D0 (.lst acc) := by rw [l5.f, l4.f]; exact fr2
          have hD5 : H5 D0 = some (.lst acc) := hr5.fr _ _ (by rw [fr5, upd_same])
          refine ⟨acc, hD5, ?_, ?_⟩
          · omega
          · have fz5 : ω5.fz D0 = none := hr5.nff _ _ (by rw [fr5, upd_same])
            have mu5 : ∀ k : Nat, ω5.mu[k]? ≠ some D0 := fun k q => by
              have := hr5.nfr k D0 q
              rw [fr5, upd_same] at this; cases this
            have lo5 : ω1.lo ω5 := by
              refine ⟨(lo3.s.trans l4.s).trans l5.s, ?_, l5.h.trans (l4.h.trans lo2.h)⟩
              obtain ⟨t1, m1⟩ := lo2.m
              obtain ⟨t2, m2⟩ := l4.m
              obtain ⟨t3, m3⟩ := l5.m
              have m2' : ω4.mu = ω2.mu ++ t2 := m2
              exact ⟨t1 ++ t2 ++ t3, by rw [m3, m2', m1]; simp⟩
            refine ⟨rfl, hlt, { ω5 with fr := upd ω5.fr D0 (.lst (acc ++ [vy])) }, S4, acc ++ [vy], ds ++ [y], hr5.other fz5 mu5, ?_, ⟨lo5.s, lo5.m, lo5.h⟩, ?_, ?_, ?_⟩
            · show upd ω5.fr D0 _ = _
              rw [fr5, upd_upd]
            · exact (rd2.mono ((g3.same hr2.fz).trans (l4.s.trans l5.s))).append (.cons ry.of_d .nil)
            · rw [List.length_append, List.length_singleton]; omega
            · have q := Post.le (ω1 := { ω5 with fr := ω1.fr }) h2 ⟨(g3.same hr2.fz).trans (l4.s.trans l5.s), ?_, l5.h.trans l4.h, rfl⟩
              · cases ecl : compL tg (own.map (·.2)) fc fe ρ (items.drop (i + 1)) S4 with
                | ok ys S5 => rw [ecl] at q; simpa using q
                | exc c S5 => rw [ecl] at q; exact q
                | stuck => rw [ecl] at q; exact q
              · obtain ⟨t2, m2⟩ := l4.m
                obtain ⟨t3, m3⟩ := l5.m
                have m2' : ω4.mu = ω2.mu ++ t2 := m2
                exact ⟨t2 ++ t3, by show ω5.mu = ω2.mu ++ _; rw [m3, m2']; simp⟩
        · exact h2.elim
      · -- it is not
        rename_i S3 ec
        refine ⟨_, ρ1, S2, hr3, sl4, post_ok ec fun ω4 H4 l4 hr4 => ?_⟩
        show (if false = true then _ else _)
        rw [if_neg (by decide)]
        have fr4 : ω4.fr = upd ω1.fr D0 (.lst acc) := by rw [l4.f]; exact fr2
        have mm : ∃ t, ω4.mu = ω2.mu ++ t := l4.m
        refine ⟨rfl, hlt, ω4, S3, acc, ds, hr4, fr4, ⟨lo3.s.trans l4.s, ?_, l4.h.trans lo2.h⟩, rd2.mono ((g3.same hr2.fz).trans l4.s), by omega, ?_⟩
        · obtain ⟨t1, m1⟩ := lo2.m
          obtain ⟨t2, m2⟩ := mm
          exact ⟨t1 ++ t2, by rw [m2, m1]; simp⟩
        · exact Post.le (ω1 := { ω4 with fr := ω1.fr }) h2 ⟨(g3.same hr2.fz).trans l4.s, mm, l4.h, rfl⟩
      · exact h2.elim
  · -- the end
    have hi3 : i = items.length := by omega
    refine .inl ⟨yi.2 (by omega), ?_⟩
    rw [hi3, List.drop_length] at h2
    have h3 : Post X.K X.mg cl Wx σ { ω2 with fr := ω1.fr } (.ok (.d (.lst (ds ++ []))) S2) fun ω' _ H' w => ∀ x, RepW X.K X.mg ω' w x → Q x H' := h2
    rw [List.append_nil] at h3
    have fz2 : ω2.fz D0 = none := hr2.nff _ _ (by rw [fr2, upd_same])
    have sm : Same ω2.fz (upd ω2.fz D0 (.lst acc)) := fun b v q => by rw [upd_ne (ne_of_none q fz2)]; exact q
    exact h3 { ω2 with fr := ω1.fr, fz := upd ω2.fz D0 (.lst acc) } H2 ⟨sm, ⟨[], by simp⟩, rfl, rfl⟩ (hr2.close fr2 frD) _ (.d (.lst upd_same (rd2.mono sm)))
theorem se_comp {tgE iter elt : Expr} {ifs : List Expr} {scope : Scope} {own : List (Str × Nat)} {tg : Tg} {fi : Env → Store → R (List D)} {fc : Env → Store → R Bool} {fe : Env → Store → R W}
    (hc : X.calm = true) (hN : X.N.Nodup) (hi : SI X cl Wx tgE iter fi) (ok : BlkOk X.N X.env.scope scope own) (hin : tgIn tg (own.map (·.2)) = true)
    (hg : ∀ (s : Shared) (H : Hp) (C : Addr) (cells : List (Str × Addr)) (fp : List Addr), PG (X.blk s H scope (compEnvC scope cells C X.env) fp) tgE (rdG X.K X.mg tg))
    (ht : ∀ (s : Shared) (H : Hp) (C : Addr) (cells : List (Str × Addr)) (fp : List Addr), PTs (X.blk s H scope (compEnvC scope cells C X.env) fp) ifs (rdT X.K X.mg cl WF fc))
    (he : ∀ (s : Shared) (H : Hp) (C : Addr) (cells : List (Str × Addr)) (fp : List Addr), PE (X.blk s H scope (compEnvC scope cells C X.env) fp) elt (rdE X.K X.mg cl WF fe))
    (hs : noSet iter = true) : SE X cl Wx (.ListComp elt [⟨tgE, iter, ifs, 0⟩] scope pos) (compF tg (own.map (·.2)) fi fc fe) :=
  L2PE.weaken (pe_lc hc hN hi ok hg ht he (folded_of hs)) (comp_read hin)
/-! ### list(range(..)) -/
theorem lrg_size {i j c : Int} (hc : 1 ≤ c) : Builtin.Range.rangeSize i j c = (rgN i j c : Nat) := by
  unfold Builtin.Range.rangeSize rgN
  rw [if_pos (show c > 0 by omega)]
  by_cases h : i < j
  · rw [if_pos h, if_pos h]
    have := Int.ediv_nonneg (show 0 ≤ j - i - 1 by omega) (show 0 ≤ c by omega)
    omega
  · rw [if_neg h, if_neg h]; rfl
theorem lrg_small {i j c : Int} (hi : fits i = true) (hj : fits j = true) (hc : 1 ≤ c) (hc2 : c ≤ 1000000) (hn : rgN i j c ≤ sizeLine) : Builtin.Range.small i j c = true := by
  have a := fits_of hi
  have b := fits_of hj
  have e := sizeLine_eq
  unfold Builtin.Range.small
  rw [lrg_size hc]
  simp only [Builtin.Range.rangeFitsLong, Bool.and_eq_true, Bool.or_eq_true, decide_eq_true_eq, beq_iff_eq, show c > 0 by omega, if_true]
  omega
theorem lrg_reads {H : Hp} {S : Store} {ω : Wd} {x y z : W} {vx vy vz : V} {σ : L2.St} {Q : VK} (hr : HRep X.K X.mg ω S H) (rx : RepW X.K X.mg ω x vx) (ry : RepW X.K X.mg ω y vy) (rz : RepW X.K X.mg ω z vz)
    (h : Post X.K X.mg cl Wx σ ω (lrgW x y z S) fun ω' _ H' w => ∀ x, RepW X.K X.mg ω' w x → Q x H') :
    ∃ i j c, vx = .int i ∧ vy = .int j ∧ vz = .int c ∧ 1 ≤ c ∧ c ≤ 1000000 ∧ Builtin.Range.small i j c = true ∧ rgN i j c ≤ sizeLine ∧ fits i = true ∧ fits j = true ∧
      ∀ q, H q = none → Q (.ref q) (upd H q (.lst ((List.range (rgN i j c)).map fun (k : Nat) => V.int (i + (k : Int) * c)))) := by
  unfold lrgW at h
  split at h
  · split at h
    · rename_i i j c hh
      simp only [Bool.and_eq_true, decide_eq_true_eq] at hh
      obtain ⟨⟨⟨⟨h1, h2⟩, h3⟩, h4⟩, h5⟩ := hh
      cases rx.of_d.of_int
      cases ry.of_d.of_int
      cases rz.of_d.of_int
      refine ⟨i, j, c, rfl, rfl, rfl, h3, h4, lrg_small h1 h2 h3 h4 h5, h5, h1, h2, fun q hq => post_grow hr h _ _ _ (.new hr.fz hq) (.lst upd_same ?_)⟩
      have go : ∀ l : List Nat, RepDs X.K X.mg (upd ω.fz q (.lst ((List.range (rgN i j c)).map fun (k : Nat) => V.int (i + (k : Int) * c)))) (l.map fun (k : Nat) => D.int (i + (k : Int) * c)) (l.map fun (k : Nat) => V.int (i + (k : Int) * c)) := by
        intro l
        induction l with
        | nil => exact .nil
        | cons k l ih => exact .cons (.int _) ih
      exact go _
    · exact h.elim
  · exact h.elim
/-- list of a range that stands at r -/
theorem list_of_range {s : Shared} {σ : L2.St} {H : Hp} {pins : List (Addr × Obj)} {Q : VK} {r : Addr} {i j c : Int} {t u v : Tok} (hc : X.calm = true) (I : Inv X pins σ H s) (hr : IsRange s.heap r i j c t u v) (h1 : 1 ≤ c)
    (hs : Builtin.Range.small i j c = true) (hn : rgN i j c ≤ sizeLine)
    (q : ∀ q, H q = none → Q (.ref q) (upd H q (.lst ((List.range (rgN i j c)).map fun (k : Nat) => V.int (i + (k : Int) * c))))) :
    wpAny (model X.prog X.w) X.A (PySem.call (.type "list") [.ref r]) (EP X pins σ Q) X.xe s := by
  refine call_list_range (n := rgN i j c) (I.ok.hd hc) hr hs (lrg_size h1) (by rw [sizeLine_eq] at hn; exact hn) fun h' tk acc c' hk e' hi => ?_
  have lay := I.laid (o := .lst ((List.range (rgN i j c)).map fun (k : Nat) => V.int (i + (k : Int) * c))) (t' := tk) hk (Nat.le_refl _) (show ObjOk X.prog X.w _ _ _ (.lst _) from ⟨?_, acc.toList, c', ?_, ?_⟩)
  · exact ⟨.ref s.heap.objs.size, _, lay, rfl, q _ (I.hok.fresh (Nat.le_refl _))⟩
  · rw [List.length_map, List.length_range]; exact hn
  · have e : acc.toList.length = rgN i j c := by rw [Array.length_toList]; exact hi.1
    rw [← e]
    refine vals_of_get acc.toList _ fun k u hk => ?_
    obtain ⟨t, rfl⟩ := hi.2 k u (by rw [← hk, Array.getElem?_toList])
    exact ⟨t, rfl⟩
  · rw [Array.toArray_toList]; exact e'
theorem se_lrg1 {p p2 pos2 : Pos} (hc : X.calm = true) (hg : Gl X "list") (hm : X.mg "list" = none) (hg2 : Gl X "range") (hm2 : X.mg "range" = none) (hp : plainE pa = true) (ha : SE X cl Wx pa fa) :
    SE X cl Wx (.Call (.Name "list" p) [.Call (.Name "range" p2) [pa] [] pos2] [] pos) (fun ρ S => (fa ρ S).bind fun x S1 => lrgW (.d (.int 0)) x (.d (.int 1)) S1) := by
  refine ⟨fun pins s σ H Q I h => ?_⟩
  obtain ⟨ω, ρ, S, hr, sl, h⟩ := h
  refine Call_ (ld_blt I hg hm boot_list (PyProof.Rows.callWith_type1 (args_cons (thn (prg_1 (ta := rdE X.K X.mg cl Wx fa) hg2 hm2 ha (star_cons hp) pins s σ H (fun i j H1 => i = 0 ∧ rgN 0 j 1 ≤ sizeLine ∧ fits j = true ∧ ∀ q, H1 q = none → Q (.ref q) (upd H1 q (.lst ((List.range (rgN 0 j 1)).map fun (k : Nat) => V.int (0 + (k : Int) * 1))))) I
    ⟨ω, ρ, S, hr, sl, h.bind.mono fun ω1 S1 H1 x l1 hr1 h1 vx rx => ?_⟩) fun x s1 ⟨r, a, b, t, u, v, H1, ex, hrg, I1, ok⟩ => args_nil ?_) rfl) rfl))
  · obtain ⟨i, j, c, e1, rfl, e3, k1, k2, k3, k4, k5, k6, k7⟩ := lrg_reads hr1 (.d (.int 0)) rx (.d (.int 1)) h1
    cases e1; cases e3
    exact ⟨j, rfl, rfl, k4, k6, k7⟩
  · subst ex
    obtain ⟨rfl, k4, k6, k7⟩ := ok
    exact list_of_range hc I1 hrg (by decide) (lrg_small (by decide) k6 (by decide) (by decide) k4) k4 k7
theorem se_lrg2 {p p2 pos2 : Pos} (hc : X.calm = true) (hg : Gl X "list") (hm : X.mg "list" = none) (hg2 : Gl X "range") (hm2 : X.mg "range" = none) (hp : plainE pa = true) (hq : plainE pb = true) (ha : SE X cl Wx pa fa) (hb : SE X cl Wx pb fb) :
    SE X cl Wx (.Call (.Name "list" p) [.Call (.Name "range" p2) [pa, pb] [] pos2] [] pos) (fun ρ S => (fa ρ S).bind fun x S1 => (fb ρ S1).bind fun y S2 => lrgW x y (.d (.int 1)) S2) := by
  refine ⟨fun pins s σ H Q I h => ?_⟩
  obtain ⟨ω, ρ, S, hr, sl, h⟩ := h
  refine Call_ (ld_blt I hg hm boot_list (PyProof.Rows.callWith_type1 (args_cons (thn (prg_2 (ta := rdE X.K X.mg cl Wx fa) (tb := rdE X.K X.mg cl Wx fb) hg2 hm2 ha hb (star_cons hp) (star_cons hq) (star_any (by simp [hq])) pins s σ H (fun i j H1 => rgN i j 1 ≤ sizeLine ∧ fits i = true ∧ fits j = true ∧ ∀ q, H1 q = none → Q (.ref q) (upd H1 q (.lst ((List.range (rgN i j 1)).map fun (k : Nat) => V.int (i + (k : Int) * 1))))) I
    ⟨ω, ρ, S, hr, sl, h.bind.mono fun ω1 S1 H1 x l1 hr1 h1 vx rx => ⟨ω1, ρ, S1, hr1, sl.mono l1, h1.bind.mono fun ω2 S2 H2 y l2 hr2 h2 vy ry => ?_⟩⟩) fun x s1 ⟨r, a, b, t, u, v, H1, ex, hrg, I1, ok⟩ => args_nil ?_) rfl) rfl))
  · obtain ⟨i, j, c, rfl, rfl, e3, k1, k2, k3, k4, k5, k6, k7⟩ := lrg_reads hr2 (rx.mono l2) ry (.d (.int 1)) h2
    cases e3
    exact ⟨i, j, rfl, rfl, k4, k5, k6, k7⟩
  · subst ex
    obtain ⟨k4, k5, k6, k7⟩ := ok
    exact list_of_range hc I1 hrg (by decide) (lrg_small k5 k6 (by decide) (by decide) k4) k4 k7
theorem se_lrg3 {p p2 pos2 : Pos} (hc : X.calm = true) (hg : Gl X "list") (hm : X.mg "list" = none) (hg2 : Gl X "range") (hm2 : X.mg "range" = none) (hp : plainE pa = true) (hq : plainE pb = true) (hw : plainE pc = true) (ha : SE X cl Wx pa fa) (hb : SE X cl Wx pb fb) (hd : SE X cl Wx pc fc) :
    SE X cl Wx (.Call (.Name "list" p) [.Call (.Name "range" p2) [pa, pb, pc] [] pos2] [] pos) (fun ρ S => (fa ρ S).bind fun x S1 => (fb ρ S1).bind fun y S2 => (fc ρ S2).bind fun z S3 => lrgW x y z S3) := by
  refine ⟨fun pins s σ H Q I h => ?_⟩
  obtain ⟨ω, ρ, S, hr, sl, h⟩ := h
  have three := (pa_cons ha (pa_cons hb (pa_cons hd pa_nil (star_cons hw)) (star_cons hq)) (star_cons hp)).run pos2 pins s σ H (fun vs H1 => ∃ i j c, vs = [.int i, .int j, .int c] ∧ 1 ≤ c ∧ c ≤ 1000000 ∧ Builtin.Range.small i j c = true ∧ rgN i j c ≤ sizeLine ∧ fits i = true ∧ fits j = true ∧
      ∀ q, H1 q = none → Q (.ref q) (upd H1 q (.lst ((List.range (rgN i j c)).map fun (k : Nat) => V.int (i + (k : Int) * c))))) I
    ⟨ω, ρ, S, hr, sl, h.bind.mono fun ω1 S1 H1 x l1 hr1 h1 vx rx => ⟨ω1, ρ, S1, hr1, sl.mono l1, h1.bind.mono fun ω2 S2 H2 y l2 hr2 h2 vy ry => ⟨ω2, ρ, S2, hr2, (sl.mono l1).mono l2, h2.bind.mono fun ω3 S3 H3 z l3 hr3 h3 vz rz => by
      obtain ⟨i, j, c, rfl, rfl, rfl, k⟩ := lrg_reads hr3 ((rx.mono l2).mono l3) (ry.mono l3) rz h3
      exact ⟨i, j, c, rfl, k⟩⟩⟩⟩
  refine Call_ (ld_blt I hg hm boot_list (PyProof.Rows.callWith_type1 (args_cons (Call_ (ld_blt I hg2 hm2 boot_range (PyProof.Rows.callWith_type1 (thn three fun us s1 ⟨vs, H1, I1, r1, q1⟩ => ?_) (star_cons hp) (star_any (by simp [hq, hw]))))) rfl) rfl))
  obtain ⟨i, j, c, rfl, k1, k2, k3, k4, k5, k6, k7⟩ := q1
  cases r1 with
  | cons r rr =>
    cases rr with
    | cons r' rr =>
      cases rr with
      | cons r'' rr =>
        cases rr
        obtain ⟨t, rfl⟩ := r
        obtain ⟨t', rfl⟩ := r'
        obtain ⟨t'', rfl⟩ := r''
        refine call_range_3 (by omega) ?_ (.inl (PyProof.noPylong_small (by omega)))
        refine args_nil ?_
        exact list_of_range hc (I1.kept (t' := s1.toks) fun b o e => Heap.get?_push_of_some _ e) (IsRange.new ..) k1 k3 k4 k7
/-! ### each second one -/
theorem RepDs.sel {K : PySem.W.Frag} {mg : Str → Option Value} {F : Hp} {xs : List D} {ys : List V} (r : RepDs K mg F xs ys) : ∀ is : List Nat, RepDs K mg F (is.filterMap (xs[·]?)) (is.filterMap (ys[·]?))
  | [] => .nil
  | i :: is => by
    rw [List.filterMap_cons, List.filterMap_cons]
    cases e : xs[i]? with
    | none =>
      have : ys[i]? = none := by
        rw [List.getElem?_eq_none_iff, ← r.length]
        exact List.getElem?_eq_none_iff.mp e
      rw [this]
      exact RepDs.sel r is
    | some d =>
      obtain ⟨v, e2, h⟩ := r.get e
      rw [e2]
      exact .cons h (RepDs.sel r is)
theorem vals_sel : ∀ {ys : List V} {us : List Value}, Vals ys us → ∀ is : List Nat, Vals (is.filterMap (ys[·]?)) (is.filterMap (us[·]?))
  | ys, us, r, [] => .nil
  | ys, us, r, i :: is => by
    rw [List.filterMap_cons, List.filterMap_cons]
    cases e : ys[i]? with
    | none =>
      have : us[i]? = none := by
        rw [List.getElem?_eq_none_iff, ← r.length]
        exact List.getElem?_eq_none_iff.mp e
      rw [this]
      exact vals_sel r is
    | some d =>
      obtain ⟨v, e2, h⟩ := r.get e
      rw [e2]
      exact .cons h (vals_sel r is)
theorem pick2 (its : List Value) : slicePick its.toArray none none (some 2) = (((List.range ((its.length + 1) / 2)).map fun k => 2 * k).filterMap (its[·]?)).toArray := by
  unfold slicePick
  have e : sliceRange (sliceBounds none none (some 2) its.toArray.size).1 (sliceBounds none none (some 2) its.toArray.size).2.1 (sliceBounds none none (some 2) its.toArray.size).2.2 = (List.range ((its.length + 1) / 2)).map fun k => 2 * k := by
    show sliceRange 0 (its.toArray.size : Nat) 2 = _
    rw [List.size_toArray]
    unfold sliceRange
    rw [if_pos (show (2 : Int) > 0 by decide)]
    by_cases h : (0 : Int) < its.length
    · rw [if_pos h, show (((its.length : Nat) : Int) - 0 + 2 - 1) / 2 = (((its.length + 1) / 2 : Nat) : Int) by omega]
      dsimp only
      rw [Int.toNat_natCast]
      apply List.map_congr_left
      intro k _
      omega
    · rw [if_neg h, show (its.length + 1) / 2 = 0 by omega]
      rfl
  have g : (fun i : Nat => its.toArray[i]?) = fun i => its[i]? := funext fun i => by simp
  rw [e, g]
theorem se_sl2 {k : Nat} {p1 p3 : Pos} (ha : SE X cl Wx pa fa) : SE X cl Wx (.Subscript pa (.Slice none none (some (.Constant (.int 2) k p1)) p3) pos) (fun ρ S => (fa ρ S).bind fun x S1 => sl2W x S1) := by
  refine ⟨fun pins s σ H Q I h => ?_⟩
  obtain ⟨ω, ρ, S, hr, sl, h⟩ := h
  refine Subscript_ (thn (ha.run pins s σ H (fun x H1 => ∃ a ys, x = .ref a ∧ H1 a = some (.lst ys) ∧ ∀ p, H1 p = none → Q (.ref p) (upd H1 p (.lst (ev2 ys)))) I ⟨ω, ρ, S, hr, sl, h.bind.mono fun ω1 S1 H1 x l1 hr1 h1 vx rx => ?_⟩) fun v s1 ⟨x, H1, I1, r1, q1⟩ => ?_)
  · unfold sl2W at h1
    split at h1
    · rename_i xs e
      obtain ⟨a, ys, rfl, q1, q2⟩ := (view_rd hr1 rx e).list hr1.fz
      refine ⟨a, ys, rfl, q1, fun p hp => post_grow hr1 h1 _ _ _ (.new hr1.fz hp) (.lst upd_same ?_)⟩
      have := (q2.mono (Grow.same hr1.fz (Grow.new hr1.fz (o := .lst (ev2 ys)) hp))).sel ((List.range ((xs.length + 1) / 2)).map fun k => 2 * k)
      unfold ev2
      rw [← q2.length]
      unfold ev2 at this
      rw [← q2.length] at this
      exact this
    · exact h1.elim
  · obtain ⟨a, ys, rfl, hx, q⟩ := q1
    cases r1
    refine wpAny_Slice (thn (po_none.run pins s1 σ H1 (fun o H2 => o = none ∧ H2 = H1) I1 ⟨rfl, rfl⟩) fun vl s2 ⟨l, H2, I2, pl, el, e2⟩ => ?_)
    subst el e2
    refine thn (po_none.run pins s2 σ H2 (fun o H3 => o = none ∧ H3 = H2) I2 ⟨rfl, rfl⟩) fun vu s3 ⟨u, H3, I3, pu, eu, e3⟩ => ?_
    subst eu e3
    have two : PO X (some (.Constant (.int 2) k p1)) (tPart (tC (.int 2))) := po_some pe_int
    refine thn (two.run pins s3 σ H3 (fun o H4 => o = some 2 ∧ H4 = H3) I3 ⟨2, rfl, rfl, rfl⟩) fun vs s4 ⟨o, H4, I4, ps, eo, e4⟩ => ?_
    subst eo e4
    have I5 : Inv X pins σ H4 { s4 with heap := s4.heap.push { cls := .type "slice", data := .fields #[vl, vu, vs] } } := I4.kept (t' := s4.toks) fun b ob z => Heap.get?_push_of_some _ z
    obtain ⟨its, r, ht, hz⟩ := I5.list (.of hx)
    have hlen := r.length
    show wpAny (model X.prog X.w) X.A (subscriptTail pa (.Slice none none (some (.Constant (.int 2) k p1)) p3) (.ref a) (.ref s4.heap.objs.size)) (EP X pins σ Q) X.xe { s4 with heap := s4.heap.push { cls := .type "slice", data := .fields #[vl, vu, vs] } }
    refine tail_any (ops := [.ref a, .ref s4.heap.objs.size]) ht.isList.typeIs (PySem.slot_list_getitem.lookup) ?_ (by with_unfolding_all rfl)
    refine wpAny_getItem_list_slice ht.isList (Heap.IsSliceOf.new _ vl vu vs) pl pu ps (by decide) ?_ (by rw [List.size_toArray]; omega)
    rw [pick2]
    have rs := vals_sel r ((List.range ((its.length + 1) / 2)).map fun k => 2 * k)
    have e5 : ev2 ys = ((List.range ((its.length + 1) / 2)).map fun k => 2 * k).filterMap (ys[·]?) := by unfold ev2; rw [hlen]
    rw [← e5] at rs
    refine ⟨.ref _, _, I5.laid (t' := s4.toks) (o := .lst (ev2 ys)) (fun b ob z => Heap.get?_push_of_some _ z) (Nat.le_refl _) ?_, rfl, q _ (I5.hok.fresh (Nat.le_refl _))⟩
    refine ⟨?_, _, 0, rs, Heap.get?_push_size _ rfl⟩
    refine Nat.le_trans (List.length_filterMap_le _ _) ?_
    rw [List.length_map, List.length_range]
    omega
end
end Q
set_option Elab.async false
set_option maxRecDepth 100000
set_option linter.all false
set_option maxHeartbeats 1000000
/-! Halls, dicts, new lists. -/
namespace Q
open PySem PySem.Spec PyProof.Rows L2
section
variable {X : Cx} {cl : Nat → Addr} {Wx : WX}
variable {pa pb pc : Expr} {fa fb fc : Env → Store → R W} {ta tb : Env → Store → R Bool} {pos : Pos}
theorem baseW_of {e : Expr} {m : Str} {env : PySem.Env} {wh : Sem Value} (h : nmW e = true) : attributeBase e m env wh = wh := by
  cases e with
  | Call f as ks p =>
    cases as with
    | nil => cases h
    | cons a as => cases f <;> first | rfl | (cases ks <;> rfl)
  | _ => first | rfl | cases h
/-! ### attributes, methods -/
theorem se_fld {x : Str} (hn : nmW pa = true) (hk : HallOk X.prog X.w X.K X.mg X.base cl k (.fld x)) (ha : SE X cl Wx pa fa) : SE X cl Wx (.Attribute pa x pos) (fun ρ S => (fa ρ S).bind fun w S1 => fldW w x S1) := by
  obtain ⟨C, h1, h2, h3⟩ := hk
  refine L2PE.weaken (pe_fld ha (baseW_of hn)) ?_
  rintro σ H Q ⟨ω, ρ, S, hr, sl, h⟩
  refine ⟨ω, ρ, S, hr, sl, h.bind.mono fun ω1 S1 H1 w l1 hr1 h1' vx rx => ?_⟩
  unfold fldW at h1'
  split at h1'
  · rename_i k
    split at h1'
    · rename_i fs e
      cases rx with
      | @loc _ a ek =>
      cases hr1.obj k _ a e ek with
      | @ins _ C' dx _ vs q1 q2 q3 =>
      rw [h1] at q1; cases q1
      rcases q3.look x with ⟨z, _⟩ | ⟨w, v, z1, z2, z3⟩
      · rw [z] at h1'; exact h1'.elim
      · rw [z1] at h1'
        exact ⟨a, C, dx, vs, v, rfl, q2, h2, h3, z2, h1'.now hr1 v z3⟩
    · exact h1'.elim
  · exact h1'.elim
theorem few_es {es : List Expr} {env : PySem.Env} {pos : Pos} (h : es.all plainE = true) : (backTo pos (starEach es env)).all (fun x => !x.1) = true := by
  have := star_any (pos := pos) (env := env) h
  rw [List.all_eq_true]
  intro x hx
  rw [List.any_eq_false] at this
  simpa using this x hx
theorem meth_eval {o : Expr} {m : Str} {es : List Expr} {apos pos : Pos} {env : PySem.Env} (hn : nmW o = true) (hl : (apos.endLine == pos.line) = true) (hp : es.all plainE = true) (h29 : es.length < 29) :
    eval (.Call (.Attribute o m apos) es [] pos) env = (do
      let ov ← eval o env
      standAt apos.atName
      let (f, first) ← holding [ov] (getMethod ov m (do return (← importBound o env).getD true))
      callWith pos f first (backTo pos (starEach es env)) (backToKw pos (keywordEach [] env))) := by
  show (do
      let ov ← attributeBase o m env (eval o env)
      standAt apos.atName
      methodCall o m apos pos env ov (es.length + ([] : List Keyword).length) (backTo pos (starEach es env)) (backToKw pos (keywordEach [] env))) = _
  rw [baseW_of hn]
  have few : methodCallForm (es.length + ([] : List Keyword).length) (backTo pos (starEach es env)) (backToKw pos (keywordEach [] env)) = true := by
    unfold methodCallForm
    rw [few_es hp]
    have : decide (es.length + ([] : List Keyword).length + (if (backToKw pos (keywordEach [] env)).isEmpty = true then 0 else 1) < 30) = true := by
      rw [decide_eq_true_eq]
      show es.length + 0 + _ < 30
      split <;> omega
    rw [this]; rfl
  unfold methodCall calleeOf methodCallPos
  simp only [few, hl, Bool.not_true, Bool.false_or, if_true, pure_bind]
theorem pe_methS {C f : Addr} {m : Str} {fd : FuncData} {ps : List Str} {sp : Sp} {k : Nat} {E : L2.St → XK} {t : TA} {e : Expr} {es : List Expr} {tA : TE} {apos : Pos} (he : PE X pa tA) (c : Cls X.K C) (hm : Meth X.K C m f) (F : FnOk X.prog X.w X.K X.mg X.base (L2.CX X.prog X.w) k f fd ps sp) (hr : Room k X.A) (hb : Binds X.K fd ps []) (hx : ∀ σ, PassesAt (L2.CX X.prog X.w) X σ (E σ))
    (ha : PA X (e :: es) t) (hn : nmW pa = true) (hl : (apos.endLine == pos.line) = true) (hp : (e :: es).all plainE = true) (h29 : (e :: es).length < 29) :
    PE X (.Call (.Attribute pa m apos) (e :: es) [] pos) (fun σ H Q => tA σ H fun x H1 => ∃ a dx fs, x = .ref a ∧ H1 a = some (.ins C dx fs) ∧ fs.lookup m = none ∧ t σ H1 fun vs H2 => sp (x :: vs) H2 Q (E σ)) := by
  refine ⟨fun pins s σ H Q I h => ?_⟩
  have hp' := hp
  simp only [List.all_cons, Bool.and_eq_true] at hp'
  refine PySem.W.methodCall_KW (thn (he.run pins s σ H _ I h) fun u s1 ⟨x, H1, I1, rx, a, dx, fs, ex, ea, l, q⟩ => ?_) (meth_eval hn hl hp h29)
  subst ex
  obtain rfl : u = Value.ref a := rx
  refine getmeth_ok I1 ea c hm l ?_
  refine PySem.W.callWith_K (first := [.ref a]) (h₀ := X.base) I.ok.mod.kin hm.kp (thn (ha.run pos pins s1 σ H1 _ I1 q) fun us s2 ⟨vs, H2, I2, r, q2⟩ => ⟨I2.kIn, ?_⟩) (star_cons hp'.1) (star_any hp'.2)
  exact run_fnS (us := .ref a :: us) (vs := .ref a :: vs) F hr hb (hx σ) I2 (.cons rfl r) q2
theorem pe_methS0 {C f : Addr} {m : Str} {fd : FuncData} {ps : List Str} {sp : Sp} {k : Nat} {E : L2.St → XK} {tA : TE} {apos : Pos} (he : PE X pa tA) (c : Cls X.K C) (hm : Meth X.K C m f) (F : FnOk X.prog X.w X.K X.mg X.base (L2.CX X.prog X.w) k f fd ps sp) (hr : Room k X.A) (hb : Binds X.K fd ps []) (hx : ∀ σ, PassesAt (L2.CX X.prog X.w) X σ (E σ))
    (hn : nmW pa = true) (hl : (apos.endLine == pos.line) = true) :
    PE X (.Call (.Attribute pa m apos) [] [] pos) (fun σ H Q => tA σ H fun x H1 => ∃ a dx fs, x = .ref a ∧ H1 a = some (.ins C dx fs) ∧ fs.lookup m = none ∧ sp [x] H1 Q (E σ)) := by
  refine ⟨fun pins s σ H Q I h => ?_⟩
  refine PySem.W.methodCall_KW (thn (he.run pins s σ H _ I h) fun u s1 ⟨x, H1, I1, rx, a, dx, fs, ex, ea, l, q⟩ => ?_) (meth_eval hn hl rfl (by simp))
  subst ex
  obtain rfl : u = Value.ref a := rx
  refine getmeth_ok I1 ea c hm l ?_
  exact PySem.W.callWith_K0 (first := [.ref a]) I1.kIn hm.kp (run_fnS (us := [.ref a]) (vs := [.ref a]) F hr hb (hx σ) I1 (.cons rfl .nil) q)
theorem methW_ok {ω : Wd} {S : Store} {H : Hp} {σ : L2.St} {w : W} {v : V} {x : Str} {C : Addr} {P : Wd → Store → Hp → W → Prop} (hC : X.mg "Hall" = some (.ref C)) (hr : HRep X.K X.mg ω S H) (rx : RepW X.K X.mg ω w v)
    (h : Post X.K X.mg cl Wx σ ω (methW w x S) P) : ∃ a dx fs, v = .ref a ∧ H a = some (.ins C dx fs) ∧ fs.lookup x = none ∧ P ω S H w := by
  unfold methW at h
  split at h
  · rename_i k
    split at h
    · rename_i fs e
      split at h
      · rename_i hn
        cases rx with
        | @loc _ a ek =>
        cases hr.obj k _ a e ek with
        | @ins _ C' dx _ vs q1 q2 q3 =>
        rw [hC] at q1; cases q1
        rcases q3.look x with ⟨z1, z2⟩ | ⟨w, v, z1, _⟩
        · exact ⟨a, dx, vs, rfl, q2, z2, h.now hr⟩
        · rw [z1] at hn; cases hn
      · exact h.elim
    · exact h.elim
  · exact h.elim
theorem sp_of {k : Nat} {f : Fn} {n : Nat} {ω : Wd} {ws : List W} {S : Store} {H : Hp} {σ : L2.St} {vs : List V} {Q : VK} (hr : HRep X.K X.mg ω S H) (rs : RepWs X.K X.mg ω ws vs) (h5 : ∀ ws S, ws.length ≠ n → f ws S = .stuck)
    (h : Post X.K X.mg cl Wx σ ω (f ws S) fun ω' _ H' w => ∀ x, RepW X.K X.mg ω' w x → Q x H') : spF X.K X.mg cl n f vs H Q (WE Wx σ) := by
  refine ⟨?_, ω, ws, S, hr, rs, ?_⟩
  · rw [← rs.length]
    refine Classical.byContradiction fun z => ?_
    rw [h5 ws S z] at h
    exact h.elim
  · cases hf : f ws S with
    | ok w S2 => rw [hf] at h; exact h
    | exc c S2 => rw [hf] at h; exact h
    | stuck => rw [hf] at h; exact h
theorem se_meth0 {k : Nat} {x : Str} {f : Fn} {apos : Pos} (room : Room k X.A) (tk : Takes X Wx) (hk : HallOk X.prog X.w X.K X.mg X.base cl k (.meth x f)) (ha : SE X cl Wx pa fa) (hn : nmW pa = true) (hl : (apos.endLine == pos.line) = true) :
    SE X cl Wx (.Call (.Attribute pa x apos) [] [] pos) (fun ρ S => (fa ρ S).bind fun w S1 => (methW w x S1).bind fun w S2 => (R.ok [] S2).bind fun ws S3 => f (w :: ws) S3) := by
  obtain ⟨C, g, fd, ps, h1, h2, h3, h4, h5, h6⟩ := hk
  refine L2PE.weaken (pe_methS0 (E := WE Wx) ha h2 h3 h6 room h4 (fun σ => passAt tk σ) hn hl) ?_
  rintro σ H Q ⟨ω, ρ, S, hr, sl, h⟩
  refine ⟨ω, ρ, S, hr, sl, h.bind.mono fun ω1 S1 H1 w l1 hr1 h1' vx rx => ?_⟩
  obtain ⟨a, dx, fl, rfl, q1, q2, q3⟩ := methW_ok h1 hr1 rx h1'.bind
  exact ⟨a, dx, fl, rfl, q1, q2, sp_of (k := k) hr1 (.cons rx .nil) h5 q3⟩
theorem se_meth {k : Nat} {e : Expr} {es : List Expr} {fs : Env → Store → R (List W)} {x : Str} {f : Fn} {apos : Pos} (room : Room k X.A) (tk : Takes X Wx) (hk : HallOk X.prog X.w X.K X.mg X.base cl k (.meth x f)) (ha : SE X cl Wx pa fa) (hs : SA X cl Wx (e :: es) fs) (hn : nmW pa = true) (hl : (apos.endLine == pos.line) = true) (hp : (e :: es).all plainE = true) (h29 : (e :: es).length < 29) :
    SE X cl Wx (.Call (.Attribute pa x apos) (e :: es) [] pos) (fun ρ S => (fa ρ S).bind fun w S1 => (methW w x S1).bind fun w S2 => (fs ρ S2).bind fun ws S3 => f (w :: ws) S3) := by
  obtain ⟨C, g, fd, ps, h1, h2, h3, h4, h5, h6⟩ := hk
  refine L2PE.weaken (pe_methS (E := WE Wx) ha h2 h3 h6 room h4 (fun σ => passAt tk σ) hs hn hl hp h29) ?_
  rintro σ H Q ⟨ω, ρ, S, hr, sl, h⟩
  refine ⟨ω, ρ, S, hr, sl, h.bind.mono fun ω1 S1 H1 w l1 hr1 h1' vx rx => ?_⟩
  obtain ⟨a, dx, fl, rfl, q1, q2, q3⟩ := methW_ok h1 hr1 rx h1'.bind
  refine ⟨a, dx, fl, rfl, q1, q2, ω1, ρ, S1, hr1, sl.mono l1, q3.bind.mono fun ω2 S2 H2 ws l2 hr2 h2' vs rs => ?_⟩
  exact sp_of (k := k) hr2 (.cons (rx.mono l2) rs) h5 h2'
/-! ### a new thing of a class -/
theorem run_makeS {C f : Addr} {fd : FuncData} {ps : List Str} {sp : Sp} {k : Nat} {E : XK} {pins : List (Addr × Obj)} {σ : L2.St} {H : Hp} {s : Shared} {Q : VK} {us : List Value} {vs : List V} (M : Mk X.K C f) (F : FnOk X.prog X.w X.K X.mg X.base (L2.CX X.prog X.w) k f fd ps sp) (hr : Room (k + 1) X.A) (hb : Binds X.K fd ps [])
    (hx : PassesAt (L2.CX X.prog X.w) X σ E) (I : Inv X pins σ H s) (r : Vals vs us)
    (h : ∀ x dx, H x = none → H dx = none → dx ≠ x → sp (.ref x :: vs) (upd (upd H dx (.own x)) x (.ins C dx [])) (fun v H2 => v = .non ∧ Q (.ref x) H2) E) :
    wpAny (model X.prog X.w) X.A (call (.ref C) us) (EP X pins σ Q) X.xe s := by
  have hq := h (s.heap.objs.size + 1) s.heap.objs.size (I.hok.fresh (Nat.le_succ _)) (I.hok.fresh (Nat.le_refl _)) (Nat.ne_of_lt (Nat.lt_succ_self _))
  have I2 := Inv.made (C := C) I
  have r2 : Vals (V.ref (s.heap.objs.size + 1) :: vs) (Value.ref (s.heap.objs.size + 1) :: us) := .cons rfl r
  have hl : (Value.ref (s.heap.objs.size + 1) :: us).length = ps.length := by
    have e := r2.length
    rw [F.len _ _ _ _ hq] at e
    exact e.symm
  have b := hb _ (Value.ref (s.heap.objs.size + 1) :: us) I2.kIn (by rw [List.append_nil]; exact hl)
  rw [List.append_nil] at b
  refine wpAny_call (make_map (f := f) I.kIn M.makes M.init (beq_iff_eq.mp M.fn) (codeAny_mono (F.run _ X.stack _ _ ⟨Value.ref (s.heap.objs.size + 1) :: us, []⟩ (Value.ref (s.heap.objs.size + 1) :: us) _ _ E (hr.make C us [])
    (I2.env0.make C us []) b r2 hq) fun r s' hq' => ?_))
  cases r with
  | error e => exact hx pins _ _ e s' I2 hq'
  | ok fl =>
    cases fl with
    | ret u =>
      obtain ⟨v, H', I3, rv, ev, q3⟩ := I2.after hq'
      subst ev
      exact ⟨rv, ⟨V.ref (s.heap.objs.size + 1), H', I3, rfl, q3⟩⟩
    | next => exact False.elim hq'
    | brk => exact False.elim hq'
    | cont => exact False.elim hq'
theorem se_mk {k : Nat} {e : Expr} {es : List Expr} {fs : Env → Store → R (List W)} {x : Str} {f : Fn} {p : Pos} (room : Room k X.A) (tk : Takes X Wx) (hk : HallOk X.prog X.w X.K X.mg X.base cl k (.mk x f)) (hg : Gl X x) (hd : (x == ("__debug__" : Str)) = false) (hs : SA X cl Wx (e :: es) fs) (hp : (e :: es).all plainE = true) :
    SE X cl Wx (.Call (.Name x p) (e :: es) [] pos) (fun ρ S => (fs ρ S).bind fun ws S1 => mkW f ws S1) := by
  obtain ⟨rfl, C, g, fd, ps, j, hj, h1, h2, h3, h4, h5⟩ := hk
  simp only [List.all_cons, Bool.and_eq_true] at hp
  refine ⟨fun pins s σ H Q I h => ?_⟩
  refine wpAny_Call_Name_kw (ld_glob I hg h1 ?_ hd)
  obtain ⟨ω, ρ, S, hr, sl, h⟩ := h
  refine PySem.W.callWith_K (h₀ := X.base) I.ok.mod.kin h2.kp (thn (hs.run pos pins s σ H (fun vs H1 => ∀ x dx, H1 x = none → H1 dx = none → dx ≠ x → spF X.K X.mg cl ps.length f (.ref x :: vs) (upd (upd H1 dx (.own x)) x (.ins C dx [])) (fun v H2 => v = .non ∧ Q (.ref x) H2) (WE Wx σ)) I
    ⟨ω, ρ, S, hr, sl, h.bind.mono fun ω1 S1 H1 ws l1 hr1 h1' vs rs => fun x dx hx hdx ne => ?_⟩) fun us s1 ⟨vs, H1, I1, r, q⟩ => ⟨I1.kIn, ?_⟩) (star_cons hp.1) (star_any hp.2)
  · have hx' : upd H1 dx (.own x) x = none := by rw [upd_ne (Ne.symm ne)]; exact hx
    have g1 : Grow ω1.fz H1 ω1.fz (upd H1 dx (.own x)) := ⟨fun a v e => by rw [upd_ne (ne_of_none (hr1.fz a v e) hdx)]; exact hr1.fz a v e, fun a v e => ⟨by rw [upd_ne (ne_of_none e hdx)]; exact e, rfl⟩⟩
    have hr2 := hr1.grow g1
    have hr3 := hr2.push (u := .ins C dx []) (o := .ins []) hx' (.ins h1 upd_same .nil)
    have rl : ({ ω1 with mu := ω1.mu ++ [x] } : Wd).mu[S1.length]? = some x := by
      show (ω1.mu ++ [x])[S1.length]? = some x
      rw [← hr1.len, List.getElem?_append_right (Nat.le_refl _)]
      simp
    have le : ω1.le { ω1 with mu := ω1.mu ++ [x] } := ⟨Same.refl _, ⟨[x], rfl⟩, rfl, rfl⟩
    have p := Post.le h1' le
    refine sp_of (k := j) hr3 (.cons (.loc rl) (rs.mono le)) h4 ?_
    unfold mkW at p
    refine p.bind.mono fun ω2 S2 H2 w l2 hr4 p2 v rv => ?_
    split at p2
    · exact ⟨rv.of_d.of_non, p2.now hr4 _ (.loc (l2.lo.get rl))⟩
    · exact p2.elim
  · exact run_makeS h2 h5 (room.mono hj) h3 (passAt tk σ) I1 r q
/-! ### new lists, dicts -/
theorem push_list {ω : Wd} {S : Store} {H : Hp} {σ : L2.St} {xs : List D} {ys : List V} {Q : VK} (hr : HRep X.K X.mg ω S H) (r : RepDs X.K X.mg ω.fz xs ys) (h : Post X.K X.mg cl Wx σ ω (pushW xs S) fun ω' _ H' w => ∀ x, RepW X.K X.mg ω' w x → Q x H') :
    ∀ p, H p = none → Q (.ref p) (upd H p (.lst ys)) := by
  intro p hp
  have hr2 := hr.push (u := .lst ys) (o := .lst xs) hp (.lst upd_same r)
  have rl : ({ ω with mu := ω.mu ++ [p] } : Wd).mu[S.length]? = some p := by
    show (ω.mu ++ [p])[S.length]? = some p
    rw [← hr.len, List.getElem?_append_right (Nat.le_refl _)]
    simp
  exact h { ω with mu := ω.mu ++ [p] } _ ⟨Same.refl _, ⟨[p], rfl⟩, rfl, rfl⟩ hr2 _ (.loc rl)
theorem se_newr (ha : SE X cl Wx pa fa) (hb : SE X cl Wx pb fb) : SE X cl Wx (.BinOp pa .Mult pb pos) (fun ρ S => (fa ρ S).bind fun w S1 => (fb ρ S1).bind fun y S2 => opW .newr w [y] S2) := by
  refine L2PE.weaken (pe_op op_rep ha hb) ?_
  rintro σ H Q ⟨ω, ρ, S, hr, sl, h⟩
  refine ⟨ω, ρ, S, hr, sl, h.bind.mono fun ω1 S1 H1 x l1 hr1 h1 vx rx => ⟨ω1, ρ, S1, hr1, sl.mono l1, h1.bind.mono fun ω2 S2 H2 y l2 hr2 h2 vy ry => ?_⟩⟩
  have rx2 := rx.mono l2
  cases y with
  | d y =>
    cases y <;> try (exact h2.elim)
    rename_i k
    cases ry.of_d.of_int
    cases x with
    | d x =>
      cases x <;> try (exact h2.elim)
      rename_i xs
      have h3 : Post X.K X.mg cl Wx σ ω2 (if -(2 ^ 63) ≤ k ∧ k < 2 ^ 63 ∧ xs.length * k.toNat ≤ sizeLine then pushW (List.replicate k.toNat xs).flatten S2 else .stuck) (fun ω' _ H' w => ∀ x, RepW X.K X.mg ω' w x → Q x H') := h2
      split at h3
      · rename_i hs
        cases rx2.of_d with
        | @lst a _ ys w1 w2 =>
        exact ⟨a, k, ys, rfl, rfl, hr2.fz _ _ w1, hs.1, hs.2.1, by rw [← w2.length]; exact hs.2.2, push_list hr2 (w2.rep k.toNat) h3⟩
      · exact h3.elim
    | loc _ => exact h2.elim
    | at_ _ => exact h2.elim
    | tupW _ => exact h2.elim
  | loc _ => exact h2.elim
  | at_ _ => exact h2.elim
  | tupW _ => exact h2.elim
theorem se_cpy {p : Pos} (hg : Gl X "list") (hm : X.mg "list" = none) (hp : plainE pa = true) (ha : SE X cl Wx pa fa) : SE X cl Wx (.Call (.Name "list" p) [pa] [] pos) (fun ρ S => (fa ρ S).bind fun w S1 => opW .cpy w [] S1) := by
  refine L2PE.weaken (pe_callTy call_list_of hg hm boot_list (pa_cons ha pa_nil (star_cons hp)) (by decide +kernel) (by decide +kernel) (star_cons hp) (star_any (by rfl))) ?_
  rintro σ H Q ⟨ω, ρ, S, hr, sl, h⟩
  refine ⟨ω, ρ, S, hr, sl, h.bind.mono fun ω1 S1 H1 x l1 hr1 h1 vx rx => ?_⟩
  unfold opW at h1
  dsimp only at h1
  split at h1
  · rename_i xs e
    obtain ⟨a, ys, rfl, q1, q2⟩ := (view_rd hr1 rx e).list hr1.fz
    exact ⟨a, ys, rfl, .inl (.of q1), push_list hr1 q2 h1⟩
  · rename_i xs e
    obtain ⟨a, ys, rfl, q1, q2⟩ := (view_rd hr1 rx e).tup
    exact ⟨a, ys, rfl, .inr (Same.seqT hr1.fz q1), push_list hr1 q2 h1⟩
  · exact h1.elim
theorem se_newd (t : Bool) : SE X cl Wx (.Dict [] [] pos) (fun _ S => .ok (.loc S.length) (S ++ [if t = true then .dT [] else .dct []])) := by
  cases t with
  | true =>
    refine L2PE.weaken pe_dnewT ?_
    rintro σ H Q ⟨ω, ρ, S, hr, sl, h⟩ p hp
    have hr2 := hr.push (u := .dT []) (o := .dT []) hp (.dT upd_same .nil)
    have rl : ({ ω with mu := ω.mu ++ [p] } : Wd).mu[S.length]? = some p := by
      show (ω.mu ++ [p])[S.length]? = some p
      rw [← hr.len, List.getElem?_append_right (Nat.le_refl _)]
      simp
    exact h { ω with mu := ω.mu ++ [p] } _ ⟨Same.refl _, ⟨[p], rfl⟩, rfl, rfl⟩ hr2 _ (.loc rl)
  | false =>
    refine L2PE.weaken pe_dnewK ?_
    rintro σ H Q ⟨ω, ρ, S, hr, sl, h⟩ p hp
    have hr2 := hr.push (u := .dK []) (o := .dct []) hp (.dct upd_same .nil)
    have rl : ({ ω with mu := ω.mu ++ [p] } : Wd).mu[S.length]? = some p := by
      show (ω.mu ++ [p])[S.length]? = some p
      rw [← hr.len, List.getElem?_append_right (Nat.le_refl _)]
      simp
    exact h { ω with mu := ω.mu ++ [p] } _ ⟨Same.refl _, ⟨[p], rfl⟩, rfl, rfl⟩ hr2 _ (.loc rl)
theorem se_tupw {es : List Expr} {j : Nat} {fs : Env → Store → R (List W)} (hs : SA X cl Wx es fs) : SE X cl Wx (.Tuple es j pos) (fun ρ S => (fs ρ S).bind fun ws S1 => tupwW ws S1) := by
  refine L2PE.weaken (pe_tup hs) ?_
  rintro σ H Q ⟨ω, ρ, S, hr, sl, h⟩
  refine ⟨ω, ρ, S, hr, sl, h.bind.mono fun ω1 S1 H1 ws l1 hr1 h1 xs rs => ?_⟩
  unfold tupwW at h1
  split at h1
  · rename_i hl
    refine ⟨by rw [← rs.length]; exact hl, fun p hp => ?_⟩
    have g := Grow.new hr1.fz (o := .tup xs) hp
    exact h1 _ _ (g.wd hr1.fz) (hr1.grow g) _ (.tupW (.of upd_same) (rs.mono (g.wd hr1.fz)))
  · exact h1.elim
/-! ### dicts -/
theorem se_ixd (hu : X.A.units + 64 < cLine) (hs : noSlice pb = true) (ha : SE X cl Wx pa fa) (hb : SE X cl Wx pb fb) : SE X cl Wx (.Subscript pa pb pos) (fun ρ S => (fa ρ S).bind fun w S1 => (fb ρ S1).bind fun y S2 => opW .ixd w [y] S2) := by
  refine L2PE.weaken (pe_dget (by omega) ha hb (by intro o i; cases pb <;> first | rfl | cases hs)) ?_
  rintro σ H Q ⟨ω, ρ, S, hr, sl, h⟩
  refine ⟨ω, ρ, S, hr, sl, h.bind.mono fun ω1 S1 H1 x l1 hr1 h1 vx rx => ⟨ω1, ρ, S1, hr1, sl.mono l1, h1.bind.mono fun ω2 S2 H2 y l2 hr2 h2 vy ry => ?_⟩⟩
  have rx2 := rx.mono l2
  cases y with
  | d y =>
    unfold opW at h2
    dsimp only at h2
    split at h2
    · rename_i kvs j e1 e2
      obtain ⟨d, e3, h2⟩ := post_ofD h2
      obtain ⟨a, vs, rfl, q1, q2⟩ := (view_rd hr2 rx2 e1).dict hr2.fz
      have ek := keyD_rep ry.of_d e2
      subst ek
      rcases q2.val j with ⟨z, _⟩ | ⟨d', v, z1, z2, z3⟩
      · rw [z] at e3; cases e3
      · rw [z1] at e3; cases e3
        refine ⟨a, v, rfl, ?_, h2.now hr2 _ (.d z3)⟩
        rw [← z2]
        exact DGet.k q1
    · exact h2.elim
  | loc _ => exact h2.elim
  | at_ _ => exact h2.elim
  | tupW _ => exact h2.elim
theorem few2_of {pb pc : Expr} {env : PySem.Env} {cpos : Pos} (h : plainE pb = true) (h' : plainE pc = true) : ((backTo cpos (starEach [pb, pc] env)).all (fun x => !x.1) && (backToKw cpos (keywordEach [] env)).all (fun x => x.1.isSome)
      && decide ([pb, pc].length + ([] : List Keyword).length + (if ([] : List Keyword).isEmpty then 0 else 1) < 30)) = true := by
  rw [star_cons h, star_cons h']; rfl
theorem trees2_of {pb pc : Expr} {env : PySem.Env} {cpos : Pos} (h : plainE pb = true) (h' : plainE pc = true) : backTo cpos (starEach [pb, pc] env) = [(false, eval pb env), (false, eval pc env)] := by
  rw [star_cons h, star_cons h']; rfl
theorem se_get {apos : Pos} {m : Str} (hu : X.A.units + 64 < cLine) (hm : m = ("get" : Str)) (hl : (apos.endLine == pos.line) = true) (hp : plainE pb = true) (hq : plainE pc = true) (hn : nmV pa = true) (ha : SE X cl Wx pa fa) (hb : SE X cl Wx pb fb) (hc : SE X cl Wx pc fc) :
    SE X cl Wx (.Call (.Attribute pa m apos) [pb, pc] [] pos) (fun ρ S => (fa ρ S).bind fun w S1 => (preW .get w S1).bind fun w S2 => (fb ρ S2).bind fun y S3 => (fc ρ S3).bind fun z S4 => opW .get w [y, z] S4) := by
  subst hm
  refine L2PE.weaken (pe_dget2 (by omega) ha hb hc ⟨base_of hn, few2_of hp hq, hl, trees2_of hp hq⟩) ?_
  rintro σ H Q ⟨ω, ρ, S, hr, sl, h⟩
  refine ⟨ω, ρ, S, hr, sl, h.bind.mono fun ω1 S1 H1 x l1 hr1 h1 vx rx => ?_⟩
  unfold preW at h1
  dsimp only at h1
  split at h1
  · rename_i kvs0 e0
    obtain ⟨a, vs0, rfl, q0, _⟩ := (view_rd hr1 rx e0).dict hr1.fz
    have h1' : Post X.K X.mg cl Wx σ ω1 ((fb ρ S1).bind fun y S3 => (fc ρ S3).bind fun z S4 => opW .get x [y, z] S4) (fun ω' _ H' w => ∀ x, RepW X.K X.mg ω' w x → Q x H') := h1
    refine ⟨a, rfl, .inl ⟨vs0, .inl q0⟩, ω1, ρ, S1, hr1, sl.mono l1, h1'.bind.mono fun ω2 S2 H2 y l2 hr2 h2 vy ry => ⟨ω2, ρ, S2, hr2, (sl.mono l1).mono l2, h2.bind.mono fun ω3 S3 H3 z l3 hr3 h3 vz rz => ?_⟩⟩
    have rx3 := (rx.mono l2).mono l3
    have ry3 := ry.mono l3
    cases y with
    | d y =>
      cases z with
      | d z =>
        unfold opW at h3
        dsimp only at h3
        split at h3
        · rename_i kvs j e1 e2
          obtain ⟨a', vs, ea, q1, q2⟩ := (view_rd hr3 rx3 e1).dict hr3.fz
          cases ea
          have ek := keyD_rep ry3.of_d e2
          subst ek
          refine ⟨valV vs j, DGet.k q1, ?_⟩
          rcases q2.val j with ⟨z1, z2⟩ | ⟨d', v, z1, z2, z3⟩
          · rw [z1] at h3
            rw [z2]
            exact h3.now hr3 _ rz
          · rw [z1] at h3
            rw [z2]
            exact h3.now hr3 _ (.d z3)
        · exact h3.elim
      | loc _ => exact h3.elim
      | at_ _ => exact h3.elim
      | tupW _ => exact h3.elim
    | loc _ => exact h3.elim
    | at_ _ => exact h3.elim
    | tupW _ => exact h3.elim
  · exact h1.elim
/-! ### dicts by tuples -/
theorem keysD_rep {ω : Wd} : ∀ {ws : List W} {vs : List V} {ks : List Key}, RepWs X.K X.mg ω ws vs → keysD ws = some ks → vs = ks.map kV
  | [], _, ks, .nil, h => by cases h; rfl
  | .d x :: ws, _, ks, .cons r rs, h => by
    have h' : ((keyD x).bind fun k => (keysD ws).map (k :: ·)) = some ks := h
    obtain ⟨k, h1, h2⟩ := Option.bind_eq_some_iff.mp h'
    obtain ⟨ks', h3, rfl⟩ := Option.map_eq_some_iff.mp h2
    rw [keyD_rep r.of_d h1, keysD_rep rs h3]; rfl
  | .loc _ :: _, _, _, .cons _ _, h => by cases h
  | .at_ _ :: _, _, _, .cons _ _, h => by cases h
  | .tupW _ :: _, _, _, .cons _ _, h => by cases h
theorem keysD_len : ∀ {ws : List W} {ks : List Key}, keysD ws = some ks → ks.length = ws.length
  | [], ks, h => by cases h; rfl
  | .d x :: ws, ks, h => by
    have h' : ((keyD x).bind fun k => (keysD ws).map (k :: ·)) = some ks := h
    obtain ⟨k, h1, h2⟩ := Option.bind_eq_some_iff.mp h'
    obtain ⟨ks', h3, rfl⟩ := Option.map_eq_some_iff.mp h2
    rw [List.length_cons, List.length_cons, keysD_len h3]
  | .loc _ :: _, _, h => by cases h
  | .at_ _ :: _, _, h => by cases h
  | .tupW _ :: _, _, h => by cases h
/-- a key is laid: the store is as before -/
theorem key_laid {ω : Wd} {S : Store} {H : Hp} {p : Addr} {vs : List V} (hr : HRep X.K X.mg ω S H) (hp : H p = none) : ∃ ω', ω.le ω' ∧ HRep X.K X.mg ω' S (upd H p (.tup vs)) := by
  have g := Grow.new hr.fz (o := .tup vs) hp
  exact ⟨_, g.wd hr.fz, hr.grow g⟩
theorem noSl_tup {es : List Expr} {j : Nat} {p : Pos} : NoSl (.Tuple es j p) := fun _ _ => rfl
theorem key2_len {ws : List W} {ks : List Key} (h : key2 ws = some ks) : ws.length = 2 := by
  unfold key2 at h
  split at h
  · rfl
  · cases h
theorem key2_rep {ω : Wd} {ws : List W} {vs : List V} {ks : List Key} (r : RepWs X.K X.mg ω ws vs) (h : key2 ws = some ks) : vs = ks.map kV ∧ vs.length ≤ sizeLine := by
  have hl := key2_len h
  unfold key2 at h
  split at h
  · refine ⟨keysD_rep r h, ?_⟩
    rw [← r.length, hl]
    decide +kernel
  · cases h
theorem se_ixT {es : List Expr} {j : Nat} {p : Pos} {fs : Env → Store → R (List W)} (hu : X.A.units + 64 < cLine) (ha : SE X cl Wx pa fa) (hs : SA X cl Wx es fs) :
    SE X cl Wx (.Subscript pa (.Tuple es j p) pos) (fun ρ S => (fa ρ S).bind fun w S1 => (fs ρ S1).bind fun ws S2 => opW .ixT w ws S2) := by
  refine L2PE.weaken (pe_dget (by omega) ha (pe_tup hs) noSl_tup) ?_
  rintro σ H Q ⟨ω, ρ, S, hr, sl, h⟩
  refine ⟨ω, ρ, S, hr, sl, h.bind.mono fun ω1 S1 H1 x l1 hr1 h1 vx rx => ⟨ω1, ρ, S1, hr1, sl.mono l1, h1.bind.mono fun ω2 S2 H2 ws l2 hr2 h2 vs rs => ?_⟩⟩
  have rx2 := rx.mono l2
  unfold opW at h2
  dsimp only at h2
  split at h2
  · rename_i k
    split at h2
    · rename_i kvs ks e1 e2
      obtain ⟨d, e3, h2⟩ := post_ofD h2
      obtain ⟨ek, el⟩ := key2_rep rs e2
      refine ⟨el, fun p hp => ?_⟩
      subst ek
      cases rx2 with
      | @loc _ a ea =>
      cases hr2.obj k _ a e1 ea with
      | @dT _ _ vs' q1 q2 =>
      obtain ⟨ω3, l3, hr3⟩ := key_laid (vs := ks.map kV) hr2 hp
      rcases RepTs.val ks q2 with ⟨z, _⟩ | ⟨d', v, z1, z2, z3⟩
      · rw [z] at e3; cases e3
      · rw [z1] at e3; cases e3
        refine ⟨a, v, rfl, ?_, h2 ω3 _ l3 hr3 _ (.d (z3.mono l3.s))⟩
        rw [← z2]
        exact DGet.t (by rw [upd_ne (ne_of_none q1 hp)]; exact q1) upd_same
    · exact h2.elim
  · exact h2.elim
theorem Post.mono2 {K : PySem.W.Frag} {mg : Str → Option Value} {σ : L2.St} {α : Type} {ω : Wd} {r : R α} {P P' : Wd → Store → Hp → α → Prop} (h : Post K mg cl Wx σ ω r P)
    (k : ∀ (ω' : Wd) (S' : Store) (H' : Hp) (v : α), r = .ok v S' → ω.le ω' → HRep K mg ω' S' H' → P ω' S' H' v → P' ω' S' H' v) : Post K mg cl Wx σ ω r P' := by
  cases r with
  | ok v S' => exact fun ω' H' l hr => k ω' S' H' v rfl l hr (h ω' H' l hr)
  | exc c S' => exact h
  | stuck => exact h
theorem key_laid2 {ω : Wd} {S : Store} {H : Hp} {p : Addr} {vs : List V} (hr : HRep X.K X.mg ω S H) (hp : H p = none) : ∃ ω', ω.le ω' ∧ HRep X.K X.mg ω' S (upd H p (.tup vs)) ∧ ω'.fz p = some (.tup vs) := by
  have g := Grow.new hr.fz (o := .tup vs) hp
  exact ⟨_, g.wd hr.fz, hr.grow g, upd_same⟩
theorem se_getT {apos : Pos} {m : Str} {j : Nat} {p : Pos} {es : List Expr} {fs : Env → Store → R (List W)} (hu : X.A.units + 64 < cLine) (hm : m = ("get" : Str)) (hl : (apos.endLine == pos.line) = true) (hq : plainE pc = true) (hn : nmV pa = true) (ha : SE X cl Wx pa fa) (hs : SA X cl Wx es fs) (hc : SE X cl Wx pc fc)
    (hfs : ∀ ρ S ws S', fs ρ S = .ok ws S' → ws.length = 2) :
    SE X cl Wx (.Call (.Attribute pa m apos) [.Tuple es j p, pc] [] pos) (fun ρ S => (fa ρ S).bind fun w S1 => (preW .getT w S1).bind fun w S2 => (fs ρ S2).bind fun ks S3 => (fc ρ S3).bind fun z S4 => opW .getT w (ks ++ [z]) S4) := by
  subst hm
  have hp : plainE (.Tuple es j p) = true := rfl
  refine L2PE.weaken (pe_dget2 (by omega) ha (pe_tup hs) hc ⟨base_of hn, few2_of hp hq, hl, trees2_of hp hq⟩) ?_
  rintro σ H Q ⟨ω, ρ, S, hr, sl, h⟩
  refine ⟨ω, ρ, S, hr, sl, h.bind.mono fun ω1 S1 H1 x l1 hr1 h1 vx rx => ?_⟩
  unfold preW at h1
  dsimp only at h1
  split at h1
  · rename_i k
    split at h1
    · rename_i kvs0 e0
      cases rx with
      | @loc _ a ea =>
      cases hr1.obj k _ a e0 ea with
      | @dT _ _ vs0 q0 _ =>
      have h1' : Post X.K X.mg cl Wx σ ω1 ((fs ρ S1).bind fun ks S3 => (fc ρ S3).bind fun z S4 => opW .getT (.loc k) (ks ++ [z]) S4) (fun ω' _ H' w => ∀ x, RepW X.K X.mg ω' w x → Q x H') := h1
      refine ⟨a, rfl, .inr ⟨vs0, .inl q0⟩, ω1, ρ, S1, hr1, sl.mono l1, Post.mono2 h1'.bind fun ω2 S2 H2 ws eqw l2 hr2 h2 vs rs => ?_⟩
      have hw := hfs ρ S1 ws S2 eqw
      refine ⟨by rw [← rs.length, hw]; decide +kernel, fun p hp => ?_⟩
      obtain ⟨ω3, l3, hr3, fz3⟩ := key_laid2 (vs := vs) hr2 hp
      refine ⟨ω3, ρ, S2, hr3, ((sl.mono l1).mono l2).mono l3, (Post.le h2 l3).bind.mono fun ω4 S4 H4 z l4 hr4 h4 vz rz => ?_⟩
      rcases ws with _ | ⟨x1, _ | ⟨x2, _ | ⟨x3, ws⟩⟩⟩ <;> try (simp at hw; done)
      cases z with
      | d z =>
        have h5 : Post X.K X.mg cl Wx σ ω4 (match S4[k]?, key2 [x1, x2] with
          | some (.dT kvs), some ks => .ok (.d ((valD kvs ks).getD z)) S4
          | _, _ => .stuck) (fun ω' _ H' w => ∀ x, RepW X.K X.mg ω' w x → Q x H') := h4
        split at h5
        · rename_i kvs ks e1 e2
          obtain ⟨ek, _⟩ := key2_rep rs e2
          subst ek
          have ea4 : ω4.mu[k]? = some a := l4.lo.get (l3.lo.get (l2.lo.get ea))
          cases hr4.obj k _ a e1 ea4 with
          | @dT _ _ vs' q1 q2 =>
          refine ⟨valV vs' ks, DGet.t q1 (hr4.fz _ _ (l4.s _ _ fz3)), ?_⟩
          rcases RepTs.val ks q2 with ⟨z1, z2⟩ | ⟨d', v, z1, z2, z3⟩
          · rw [z1] at h5; rw [z2]; exact h5.now hr4 _ rz
          · rw [z1] at h5; rw [z2]; exact h5.now hr4 _ (.d z3)
        · exact h5.elim
      | loc _ => exact h4.elim
      | at_ _ => exact h4.elim
      | tupW _ => exact h4.elim
    · exact h1.elim
  · exact h1.elim
theorem inT_read {ω : Wd} {S : Store} {H : Hp} {σ : L2.St} {w : W} {ks : List W} {b : Addr} {vs : List V} {v : V} {P : Wd → Store → Hp → W → Prop} (hr : HRep X.K X.mg ω S H) (rx : RepW X.K X.mg ω w v) (rs : RepWs X.K X.mg ω ks vs) (hb : H b = some (.tup vs))
    (h : Post X.K X.mg cl Wx σ ω (inTW ks w S) P) : ∃ a o, v = .ref a ∧ DGet H a (.ref b) o ∧ P ω S H (.d (.bl o.isSome)) := by
  unfold inTW at h
  split at h
  · rename_i k
    split at h
    · rename_i kvs js e1 e2
      obtain ⟨ek, _⟩ := key2_rep rs e2
      subst ek
      cases rx with
      | @loc _ a ea =>
      cases hr.obj k _ a e1 ea with
      | @dT _ _ vs' q1 q2 =>
      refine ⟨a, valV vs' js, rfl, DGet.t q1 hb, ?_⟩
      rcases RepTs.val js q2 with ⟨z1, z2⟩ | ⟨d', v, z1, z2, z3⟩
      · rw [z1] at h; rw [z2]; exact h.now hr
      · rw [z1] at h; rw [z2]; exact h.now hr
    · exact h.elim
  · exact h.elim
theorem se_inT {es : List Expr} {j : Nat} {p : Pos} {fs : Env → Store → R (List W)} (hu : X.A.units + 64 < cLine) (hm : noSet pb = true) (hs : SA X cl Wx es fs) (hb : SE X cl Wx pb fb) (hfs : ∀ ρ S ws S', fs ρ S = .ok ws S' → ws.length = 2) :
    SE X cl Wx (.Compare (.Tuple es j p) [.In] [pb] pos) (fun ρ S => (fs ρ S).bind fun ks S1 => (fb ρ S1).bind fun w S2 => inTW ks w S2) := by
  refine L2PE.weaken (pe_cmp (pc_din (by omega) (pe_tup hs) hb) (marks_of hm)) ?_
  rintro σ H Q ⟨ω, ρ, S, hr, sl, h⟩
  refine ⟨ω, ρ, S, hr, sl, Post.mono2 h.bind fun ω1 S1 H1 ks eqw l1 hr1 h1 vs rs => ?_⟩
  have hw := hfs ρ S ks S1 eqw
  refine ⟨by rw [← rs.length, hw]; decide +kernel, fun p hp => ?_⟩
  obtain ⟨ω3, l3, hr3, fz3⟩ := key_laid2 (vs := vs) hr1 hp
  refine ⟨ω3, ρ, S1, hr3, (sl.mono l1).mono l3, (Post.le h1 l3).bind.mono fun ω4 S4 H4 w l4 hr4 h4 vw rw_ => ?_⟩
  obtain ⟨a, o, rfl, g, q⟩ := inT_read hr4 rw_ ((rs.mono l3).mono l4) (hr4.fz _ _ (l4.s _ _ fz3)) h4
  exact ⟨a, o, rfl, g, q _ (.d (.bl _))⟩
theorem st_inT {es : List Expr} {j : Nat} {p : Pos} {fs : Env → Store → R (List W)} (hu : X.A.units + 64 < cLine) (hm : noSet pb = true) (hs : SA X cl Wx es fs) (hb : SE X cl Wx pb fb) (hfs : ∀ ρ S ws S', fs ρ S = .ok ws S' → ws.length = 2) :
    ST X cl Wx (.Compare (.Tuple es j p) [.In] [pb] pos) (fun ρ S => ((fs ρ S).bind fun ks S1 => (fb ρ S1).bind fun w S2 => inTW ks w S2).bind fun r S3 => asB r S3) := by
  refine L2PT.weaken (pt_cmp (pc_din (by omega) (pe_tup hs) hb) (marks_of hm)) ?_
  rintro σ H Q ⟨ω, ρ, S, hr, sl, h⟩
  refine ⟨ω, ρ, S, hr, sl, Post.mono2 h.bind.bind fun ω1 S1 H1 ks eqw l1 hr1 h1 vs rs => ?_⟩
  have hw := hfs ρ S ks S1 eqw
  refine ⟨by rw [← rs.length, hw]; decide +kernel, fun p hp => ?_⟩
  obtain ⟨ω3, l3, hr3, fz3⟩ := key_laid2 (vs := vs) hr1 hp
  refine ⟨ω3, ρ, S1, hr3, (sl.mono l1).mono l3, (Post.le h1 l3).bind.mono fun ω4 S4 H4 w l4 hr4 h4 vw rw_ => ?_⟩
  obtain ⟨a, o, rfl, g, q⟩ := inT_read hr4 rw_ ((rs.mono l3).mono l4) (hr4.fz _ _ (l4.s _ _ fz3)) h4
  exact ⟨a, o, rfl, g, _, rfl, Post.now (v := o.isSome) q hr4⟩
end
end Q
set_option Elab.async false
set_option maxRecDepth 100000
set_option linter.all false
set_option maxHeartbeats 1000000
/-! Sorted keys, sets, a dict of the module by its texts. -/
namespace Q
open PySem PySem.Spec PyProof.Rows L2
section
variable {X : Cx} {cl : Nat → Addr} {Wx : WX}
variable {pa pb pc : Expr} {fa fb fc : Env → Store → R W} {ta tb : Env → Store → R Bool} {pos p p2 q apos cpos : Pos}
theorem intKeys_rep {K : PySem.W.Frag} {mg : Str → Option Value} {F : Hp} : ∀ {kvs : List (Key × D)} {vs : List (Key × V)} {ns : List Int}, RepKs K mg F kvs vs → intKeys kvs = some ns → vs.map (·.1) = ns.map Sum.inl
  | [], _, _, .nil, h => by cases h; rfl
  | (.inl i, x) :: kvs, _, ns, .cons r rs, h => by
    have h' : (intKeys kvs).map (i :: ·) = some ns := h
    obtain ⟨ms, h1, rfl⟩ := Option.map_eq_some_iff.mp h'
    rw [List.map_cons, List.map_cons, intKeys_rep rs h1]
  | (.inr i, x) :: kvs, _, ns, .cons r rs, h => by cases h
theorem lst_ints {ω : Wd} {S : Store} {H : Hp} {σ : L2.St} {ms : List Int} {a : Addr} {Q : VK} (hr : HRep X.K X.mg ω S H) (hp : H a = none) (h : Post X.K X.mg cl Wx σ ω (R.ok (W.d (.lst (ms.map D.int))) S) fun ω' _ H' w => ∀ x, RepW X.K X.mg ω' w x → Q x H') :
    Q (.ref a) (upd H a (.lst (ms.map V.int))) := by
  have g := Grow.new hr.fz (o := .lst (ms.map V.int)) hp
  exact h _ _ (g.wd hr.fz) (hr.grow g) _ (.d (.lst upd_same (RepDs.ints)))
theorem L2PE.or {X : Cx} {e : Expr} {t t' : TE} (h : PE X e t) (h' : PE X e t') : PE X e (fun σ H Q => t σ H Q ∨ t' σ H Q) := ⟨fun p s σ H Q I q => q.elim (h.run p s σ H Q I) (h'.run p s σ H Q I)⟩
theorem lst_nil {ω : Wd} {S : Store} {H : Hp} {σ : L2.St} {a : Addr} {Q : VK} (hr : HRep X.K X.mg ω S H) (hp : H a = none) (h : Post X.K X.mg cl Wx σ ω (R.ok (W.d (.lst [])) S) fun ω' _ H' w => ∀ x, RepW X.K X.mg ω' w x → Q x H') :
    Q (.ref a) (upd H a (.lst [])) := by
  have g := Grow.new hr.fz (o := .lst []) hp
  exact h _ _ (g.wd hr.fz) (hr.grow g) _ (.d (.lst upd_same .nil))
theorem se_skeys (hc : X.calm = true) (hg : Gl X "sorted") (hm : X.mg "sorted" = none) (hl : (apos.endLine == cpos.line) = true) (hn : nmV pa = true) (ha : SE X cl Wx pa fa) :
    SE X cl Wx (.Call (.Name "sorted" p) [.Call (.Attribute pa "keys" apos) [] [] cpos] [] pos) (fun ρ S => (fa ρ S).bind fun w S1 => opW .skeys w [] S1) := by
  refine L2PE.weaken (L2PE.or (pe_sk hc hg hm ha (base_of hn) hl) (pe_sk0 hc hg hm ha (base_of hn) hl)) ?_
  rintro σ H Q ⟨ω, ρ, S, hr, sl, h⟩
  dsimp only at h
  cases e : fa ρ S with
  | stuck => rw [e] at h; exact h.elim
  | exc c S1 => rw [e] at h; exact .inl ⟨ω, ρ, S, hr, sl, by rw [e]; exact h⟩
  | ok w S1 =>
    have hb := h.bind
    rw [e] at hb
    by_cases em : emptyT S1 w = true
    · refine .inr ⟨ω, ρ, S, hr, sl, ?_⟩
      rw [e]
      intro ω1 H1 l1 hr1 vx rx
      have h1 := hb ω1 H1 l1 hr1
      unfold opW at h1
      dsimp only at h1
      rw [if_pos em] at h1
      unfold emptyT at em
      split at em
      · rename_i k
        split at em
        · rename_i q
          cases rx with
          | loc hk =>
            rename_i a
            have ro := hr1.obj k _ a q hk
            cases ro with
            | dT q1 q2 =>
              cases q2
              exact ⟨a, rfl, .inl q1, fun p hp => lst_nil hr1 hp h1⟩
        · cases em
      · cases em
    · refine .inl ⟨ω, ρ, S, hr, sl, ?_⟩
      rw [e]
      intro ω1 H1 l1 hr1 vx rx
      have h1 := hb ω1 H1 l1 hr1
      unfold opW at h1
      dsimp only at h1
      rw [if_neg em] at h1
      split at h1
      · rename_i kvs e2
        obtain ⟨r, e3, h1⟩ := post_ofD h1
        obtain ⟨ns, e4, rfl⟩ := Option.map_eq_some_iff.mp e3
        obtain ⟨a, vs, rfl, q1, q2⟩ := (view_rd hr1 rx e2).dict hr1.fz
        refine ⟨a, vs, ns, rfl, .inl q1, intKeys_rep q2 e4, fun ms p pm pw hp => ?_⟩
        rw [sortI_uniq pw pm]
        exact lst_ints hr1 hp h1
      · exact h1.elim
theorem se_sitems (hc : X.calm = true) (hg : Gl X "sorted") (hm : X.mg "sorted" = none) (hl : (apos.endLine == cpos.line) = true) (hn : nmV pa = true) (ha : SE X cl Wx pa fa) :
    SE X cl Wx (.Call (.Name "sorted" p) [.Call (.Attribute pa "items" apos) [] [] cpos] [] pos) (fun ρ S => (fa ρ S).bind fun w S1 => opW .sitems w [] S1) := by
  refine L2PE.weaken (pe_si0 hc hg hm ha (base_of hn) hl) ?_
  rintro σ H Q ⟨ω, ρ, S, hr, sl, h⟩
  refine ⟨ω, ρ, S, hr, sl, h.bind.mono fun ω1 S1 H1 x l1 hr1 h1 vx rx => ?_⟩
  unfold opW at h1
  dsimp only at h1
  split at h1
  · rename_i kvs e
    split at h1
    · rename_i e0
      obtain ⟨a, vs, rfl, q1, q2⟩ := (view_rd hr1 rx e).dict hr1.fz
      cases List.length_eq_zero_iff.mp e0
      cases q2
      exact ⟨a, rfl, .inl q1, fun p hp => lst_nil hr1 hp h1⟩
    · exact h1.elim
  · exact h1.elim
theorem dedup_nodup : ∀ ns : List Int, (dedup ns).Nodup ∧ ∀ k, k ∈ dedup ns ↔ k ∈ ns
  | [] => ⟨List.nodup_nil, fun k => Iff.rfl⟩
  | x :: r => by
    obtain ⟨h1, h2⟩ := dedup_nodup r
    unfold dedup
    split
    · rename_i hx
      refine ⟨h1, fun k => ?_⟩
      rw [h2, List.mem_cons]
      exact ⟨.inr, fun z => z.elim (fun e => e ▸ hx) id⟩
    · rename_i hx
      refine ⟨List.nodup_cons.mpr ⟨fun z => hx ((h2 x).mp z), h1⟩, fun k => ?_⟩
      rw [List.mem_cons, List.mem_cons, h2]
theorem same_perm {ms ns : List Int} (h1 : ms.Nodup) (h2 : ns.Nodup) (h : ∀ k, k ∈ ms ↔ k ∈ ns) : ms.Perm ns :=
  (List.perm_ext_iff_of_nodup h1 h2).mpr h
theorem lt_nodup {ms : List Int} (h : ms.Pairwise (· < ·)) : ms.Nodup := h.imp fun e => Int.ne_of_lt e
theorem se_sset (hc : X.calm = true) (hg : Gl X "sorted") (hm : X.mg "sorted" = none) (hg2 : Gl X "set") (hm2 : X.mg "set" = none) (hp : plainE pa = true) (ha : SE X cl Wx pa fa) :
    SE X cl Wx (.Call (.Name "sorted" p) [.Call (.Name "set" p2) [pa] [] q] [] pos) (fun ρ S => (fa ρ S).bind fun w S1 => opW .sset w [] S1) := by
  refine L2PE.weaken (pe_ss hc hg hm hg2 hm2 ha (star_cons hp)) ?_
  rintro σ H Q ⟨ω, ρ, S, hr, sl, h⟩
  refine ⟨ω, ρ, S, hr, sl, h.bind.mono fun ω1 S1 H1 x l1 hr1 h1 vx rx => ?_⟩
  unfold opW at h1
  dsimp only at h1
  split at h1
  · rename_i xs e
    obtain ⟨r, e3, h1⟩ := post_ofD h1
    obtain ⟨ns, e4, e5⟩ := Option.bind_eq_some_iff.mp e3
    split at e5
    · rename_i hle
      cases e5
      obtain ⟨a, ys, rfl, q1, q2⟩ := (view_rd hr1 rx e).list hr1.fz
      rw [toInts_of e4] at q2
      cases repDs_ints q2
      refine ⟨a, ns, rfl, .of q1, hle, fun ms p pw hm hp => ?_⟩
      have pp : ms.Perm (dedup ns) := same_perm (lt_nodup pw) (dedup_nodup ns).1 fun k => (hm k).trans ((dedup_nodup ns).2 k).symm
      rw [sortI_uniq (pw.imp fun e => Int.le_of_lt e) pp]
      exact lst_ints hr1 hp h1
    · cases e5
  · exact h1.elim
theorem se_lset (hc : X.calm = true) (hg : Gl X "len") (hm : X.mg "len" = none) (hg2 : Gl X "set") (hm2 : X.mg "set" = none) (hp : plainE pa = true) (ha : SE X cl Wx pa fa) :
    SE X cl Wx (.Call (.Name "len" p) [.Call (.Name "set" p2) [pa] [] q] [] pos) (fun ρ S => (fa ρ S).bind fun w S1 => opW .lset w [] S1) := by
  refine L2PE.weaken (pe_ls hc hg hm hg2 hm2 ha (star_cons hp)) ?_
  rintro σ H Q ⟨ω, ρ, S, hr, sl, h⟩
  refine ⟨ω, ρ, S, hr, sl, h.bind.mono fun ω1 S1 H1 x l1 hr1 h1 vx rx => ?_⟩
  unfold opW at h1
  dsimp only at h1
  split at h1
  · rename_i xs e
    obtain ⟨r, e3, h1⟩ := post_ofD h1
    obtain ⟨ns, e4, e5⟩ := Option.bind_eq_some_iff.mp e3
    split at e5
    · rename_i hle
      cases e5
      obtain ⟨a, ys, rfl, q1, q2⟩ := (view_rd hr1 rx e).list hr1.fz
      rw [toInts_of e4] at q2
      cases repDs_ints q2
      refine ⟨a, ns, rfl, .of q1, hle, fun ms nd hm => ?_⟩
      have pp : ms.Perm (dedup ns) := same_perm nd (dedup_nodup ns).1 fun k => (hm k).trans ((dedup_nodup ns).2 k).symm
      rw [pp.length_eq]
      exact h1.now hr1 _ (.d (.int _))
    · cases e5
  · exact h1.elim
theorem grow_enL {K : PySem.W.Frag} {mg : Str → Option Value} : ∀ {ds : List D} {xs : List V} {Ts : List Addr} {k : Nat} {F H : Hp}, Same F H → RepDs K mg F ds xs → Ts.length = xs.length → Ts.Nodup → (∀ a ∈ Ts, H a = none) →
    ∃ F', Grow F H F' (updL H (enL k Ts xs)) ∧ RepDs K mg F' (enumL k ds) (Ts.map V.ref)
  | [], _, Ts, k, F, H, s, .nil, hl, _, _ => by
    cases List.length_eq_zero_iff.mp hl
    exact ⟨F, .refl s, .nil⟩
  | d :: ds, _, Ts, k, F, H, s, .cons (y := x) (ys := xs) r rs, hl, nd, hn => by
    cases Ts with
    | nil => cases hl
    | cons T Ts =>
      rw [List.nodup_cons] at nd
      have g := Grow.new s (o := .tup [.int (k : Nat), x]) (hn T List.mem_cons_self)
      obtain ⟨F', g2, r2⟩ := grow_enL (k := k + 1) g.s (rs.mono (g.same s)) (by simpa using hl) nd.2 (fun a ha => by
        have ne : a ≠ T := fun z => nd.1 (by rw [← z]; exact ha)
        rw [upd_ne ne]
        exact hn a (List.mem_cons_of_mem _ ha))
      exact ⟨F', g.trans g2, .cons ((RepD.tup (.of upd_same) (.cons (.int _) (.cons (r.mono (g.same s)) .nil))).mono (g2.same g.s)) r2⟩
theorem se_lenum (hc : X.calm = true) (hg : Gl X "list") (hm : X.mg "list" = none) (hg2 : Gl X "enumerate") (hm2 : X.mg "enumerate" = none) (hp : plainE pa = true) (ha : SE X cl Wx pa fa) :
    SE X cl Wx (.Call (.Name "list" p) [.Call (.Name "enumerate" p2) [pa] [] q] [] pos) (fun ρ S => (fa ρ S).bind fun w S1 => opW .lenum w [] S1) := by
  refine L2PE.weaken (pe_le hc hg hm hg2 hm2 ha (star_cons hp)) ?_
  rintro σ H Q ⟨ω, ρ, S, hr, sl, h⟩
  refine ⟨ω, ρ, S, hr, sl, h.bind.mono fun ω1 S1 H1 x l1 hr1 h1 vx rx => ?_⟩
  unfold opW at h1
  dsimp only at h1
  split at h1
  · rename_i xs e
    obtain ⟨a, ys, rfl, q1, q2⟩ := (view_rd hr1 rx e).list hr1.fz
    refine ⟨a, ys, rfl, .of q1, fun Ts L hl nd nL hn hL => ?_⟩
    obtain ⟨F', g, r2⟩ := grow_enL (k := 0) hr1.fz q2 hl nd hn
    have hL' : updL H1 (enL 0 Ts ys) L = none := by
      rw [updL_none _ _ _ (by rw [enL_fst 0 Ts ys hl]; exact nL)]
      exact hL
    have g2 := Grow.new g.s (o := .lst (Ts.map V.ref)) hL'
    have g3 := g.trans g2
    rw [updL_append]
    exact h1 _ _ (g3.wd hr1.fz) (hr1.grow g3) _ (.d (.lst upd_same (r2.mono (g2.same g.s))))
  · exact h1.elim
/-! ### a dict of the module -/
def RelO : Option V → Option Value → Prop
  | some v, some u => RelV v u
  | none, none => True
  | _, _ => False
def tGG (K : PySem.W.Frag) (d : Addr) (tb tc : TE) : TE := fun σ H Q => tb σ H fun y H1 => tc σ H1 fun v H2 => ∃ (z : Str) (r : Option Value) (o : Option V), y = .str z ∧ PySem.W.nsIn K d z = some r ∧ RelO o r ∧ Q (o.getD v) H2
theorem pe_gg {x : Str} {d : Addr} {es : Array DictEntry} {n : Nat} {tb tc : TE} (D : KDict X.K X.w d es n) (hg : Gl X x) (hmg : X.mg x = some (.ref d)) (hd : (x == ("__debug__" : Str)) = false) (hl : (apos.endLine == pos.line) = true) (hp : plainE pb = true) (hq : plainE pc = true)
    (hb : PE X pb tb) (hc : PE X pc tc) : PE X (.Call (.Attribute (.Name x p) "get" apos) [pb, pc] [] pos) (tGG X.K d tb tc) := by
  refine ⟨fun pins s σ H Q I h => ?_⟩
  refine wpAny_Call_method (T := "dict") (id := "dict.get") (by rfl) (few2_of hp hq) hl PySem.F.plainAttrs_dict PySem.F.slot_dict_get PySem.F.type_dict_get (thn ((pe_glob (X := X) (pos := p) hg hmg (v := .ref d) rfl hd).run pins s σ H (fun v H1 => v = .ref d ∧ H1 = H) I ⟨rfl, rfl⟩) fun u s1 ⟨x, H1, I1, rx, ex, eH⟩ => ?_)
  subst ex eH
  obtain rfl : u = Value.ref d := rx
  have m1 := PySem.W.mapOf_K (prog := X.prog) (w := X.w) I1.kIn D.at_ D.lit
  refine ⟨m1.typeIs, m1.noDict, ?_⟩
  rw [trees2_of hp hq]
  refine Calls.callWith_builtin rfl (Calls.evalArgs_plain (Calls.spliced_cons (thn (hb.run pins s1 σ _ _ I1 h) fun iv s2 ⟨y, H2, I2, ry, q2⟩ =>
    Calls.spliced_cons (thn (hc.run pins s2 σ H2 _ I2 q2) fun fv s3 ⟨v, H3, I3, rv, z, r, o, ey, e, ro, q3⟩ => Calls.spliced_nil ?_))))
  subst ey
  obtain ⟨t, rfl⟩ := ry
  have m3 := PySem.W.mapOf_K (prog := X.prog) (w := X.w) I3.kIn D.at_ D.lit
  refine call_meetsIn PySem.F.slot_dict_get m3.typeIs PySem.F.entry_dict_get (PySem.F.args_dict_get_3 _ _ _) (meets_dict_get_default (strKind X.prog X.w) d (PySem.strKind_is X.prog X.w z t) D.low fv) ⟨_, m3, ?_⟩
  rw [PySem.W.find_K D.at_ e]
  refine ⟨o.getD v, H3, I3.tok _, ?_, q3⟩
  cases o with
  | none =>
    cases r with
    | none => exact rv
    | some _ => exact ro.elim
  | some a =>
    cases r with
    | none => exact ro.elim
    | some _ => exact ro
theorem se_gget {x : Str} {tab : List (Str × Int)} {k : Nat} (hk : HallOk X.prog X.w X.K X.mg X.base cl k (.kd x tab)) (hg : Gl X x) (hn : plainN x = true) (hl : (apos.endLine == pos.line) = true) (hp : plainE pb = true) (hq : plainE pc = true)
    (hb : SE X cl Wx pb fb) (hc : SE X cl Wx pc fc) : SE X cl Wx (.Call (.Attribute (.Name x p) "get" apos) [pb, pc] [] pos) (fun ρ S => (fb ρ S).bind fun w S1 => (fc ρ S1).bind fun v S2 => opW (.gget x tab) w [v] S2) := by
  obtain ⟨d, es, n, hmg, D, hall⟩ := hk
  have hd : (x == ("__debug__" : Str)) = false := by
    unfold plainN at hn
    simp only [Bool.and_eq_true, Bool.not_eq_true'] at hn
    exact hn.1
  refine L2PE.weaken (pe_gg D hg hmg hd hl hp hq hb hc) ?_
  rintro σ H Q ⟨ω, ρ, S, hr, sl, h⟩
  refine ⟨ω, ρ, S, hr, sl, h.bind.mono fun ω1 S1 H1 x1 l1 hr1 h1 vx rx => ⟨ω1, ρ, S1, hr1, sl.mono l1, h1.bind.mono fun ω2 S2 H2 y l2 hr2 h2 vy ry => ?_⟩⟩
  have rx2 := rx.mono l2
  cases y with
  | d y =>
    unfold opW at h2
    dsimp only at h2
    split at h2
    · rename_i z
      cases rx2.of_d.of_str
      obtain ⟨r, e, hz⟩ := hall z
      cases hf : (tab.find? fun p => decide (p.1 = z)) with
      | some pr =>
        rw [hf] at hz h2
        obtain ⟨t, rfl⟩ := hz
        exact ⟨z, _, some (.int pr.2), rfl, e, ⟨t, rfl⟩, h2.now hr2 _ (.d (.int _))⟩
      | none =>
        rw [hf] at hz h2
        subst hz
        exact ⟨z, _, none, rfl, e, trivial, h2.now hr2 _ ry⟩
    · exact h2.elim
  | loc _ => exact h2.elim
  | at_ _ => exact h2.elim
  | tupW _ => exact h2.elim
end
end Q
set_option Elab.async false
set_option maxRecDepth 100000
set_option linter.all false
set_option maxHeartbeats 2000000
/-! Every tree that is the program's own is read by what it comes to: expressions. -/
namespace Q
open PySem PySem.Spec PyProof.Rows L2
section
variable {cl : Nat → Addr}
abbrev OkE (cl : Nat → Addr) (X : Cx) (k : Nat) (e : E) : Prop := okE (fun x f => CallOk X.prog X.w X.K X.mg X.base cl k x f) (GlOk X.K X.mg) (HallOk X.prog X.w X.K X.mg X.base cl k) e
abbrev OkEs (cl : Nat → Addr) (X : Cx) (k : Nat) (e : Es) : Prop := okEs (fun x f => CallOk X.prog X.w X.K X.mg X.base cl k x f) (GlOk X.K X.mg) (HallOk X.prog X.w X.K X.mg X.base cl k) e
abbrev OkEo (cl : Nat → Addr) (X : Cx) (k : Nat) (e : Eo) : Prop := okEo (fun x f => CallOk X.prog X.w X.K X.mg X.base cl k x f) (GlOk X.K X.mg) (HallOk X.prog X.w X.K X.mg X.base cl k) e
abbrev OkIt (cl : Nat → Addr) (X : Cx) (k : Nat) (e : It) : Prop := okIt (fun x f => CallOk X.prog X.w X.K X.mg X.base cl k x f) (GlOk X.K X.mg) (HallOk X.prog X.w X.K X.mg X.base cl k) e
theorem plainN_of {x : Str} (h : plainN x = true) : (x == ("__debug__" : Str)) = false ∧ (x == ("__classdict__" : Str)) = false := by
  unfold plainN at h
  simp only [Bool.and_eq_true, Bool.not_eq_true'] at h
  exact h
theorem chks_plain : ∀ {es : Es} {sc : Scope} {N : List Str} {pes : List Expr}, chks es sc N pes = true → pes.all plainE = true
  | .nil, _, _, [], _ => rfl
  | .cons _ _, _, _, pe :: pes, h => by
    simp only [chks, Bool.and_eq_true] at h
    rw [List.all_cons, h.1.1, chks_plain h.2]; rfl
  | .nil, _, _, _ :: _, h => by simp [chks] at h
  | .cons _ _, _, _, [], h => by simp [chks] at h
theorem CtxQ.hu65 {X : Cx} {sc : Scope} {N : List Str} {k : Nat} (c : CtxQ X sc N k) : X.A.units + 65 < cLine := by have := c.room.un; omega
theorem inv_fld {x : Str} {sc : Scope} {pe : Expr} {q : Expr × List Expr} (h : opSub (.fld x) sc pe = some q) : ∃ pa pos, pe = .Attribute pa x pos ∧ nmW pa = true ∧ q = (pa, []) := by
  cases pe <;> try (simp [opSub] at h; done)
  simp only [opSub] at h
  split at h
  · rename_i hh; cases h; exact ⟨_, _, by rw [hh.1], hh.2, rfl⟩
  · cases h
theorem inv_newr {sc : Scope} {pe : Expr} {q : Expr × List Expr} (h : opSub .newr sc pe = some q) : ∃ pa pb pos, pe = .BinOp pa .Mult pb pos ∧ q = (pa, [pb]) := by
  cases pe <;> try (simp [opSub] at h; done)
  simp only [opSub] at h
  split at h
  · rename_i hh; cases h; exact ⟨_, _, _, by rw [hh], rfl⟩
  · cases h
theorem inv_cpy {sc : Scope} {pe : Expr} {q : Expr × List Expr} (h : opSub .cpy sc pe = some q) : ∃ pa p pos, pe = .Call (.Name "list" p) [pa] [] pos ∧ glB sc "list" = true ∧ plainE pa = true ∧ q = (pa, []) := by
  cases pe <;> try (simp [opSub] at h; done)
  rename_i pf pes kws pos
  rcases pes with _ | ⟨pa, _ | ⟨_, _⟩⟩ <;> rcases kws with _ | ⟨_, _⟩ <;> try (simp [opSub] at h; done)
  simp only [opSub] at h
  split at h
  · rename_i hh
    simp only [Bool.and_eq_true] at hh
    obtain ⟨p, rfl⟩ := nm_of hh.1.1
    cases h
    exact ⟨_, _, _, rfl, hh.1.2, hh.2, rfl⟩
  · cases h
theorem inv_ixd {sc : Scope} {pe : Expr} {q : Expr × List Expr} (h : opSub .ixd sc pe = some q) : ∃ pa pb pos, pe = .Subscript pa pb pos ∧ noSlice pb = true ∧ q = (pa, [pb]) := by
  cases pe <;> try (simp [opSub] at h; done)
  simp only [opSub] at h
  split at h
  · rename_i hh; cases h; exact ⟨_, _, _, rfl, hh, rfl⟩
  · cases h
theorem inv_ixT {sc : Scope} {pe : Expr} {q : Expr × List Expr} (h : opSub .ixT sc pe = some q) : ∃ pa pes j p pos, pe = .Subscript pa (.Tuple pes j p) pos ∧ q = (pa, pes) := by
  cases pe <;> try (simp [opSub] at h; done)
  rename_i pa pb pos
  cases pb <;> try (simp [opSub] at h; done)
  simp only [opSub] at h
  cases h
  exact ⟨_, _, _, _, _, rfl, rfl⟩
theorem inv_get {sc : Scope} {pe : Expr} {q : Expr × List Expr} (h : opSub .get sc pe = some q) : ∃ pa apos pb pc pos, pe = .Call (.Attribute pa "get" apos) [pb, pc] [] pos ∧ (apos.endLine == pos.line) = true ∧ plainE pb = true ∧ plainE pc = true ∧ nmV pa = true ∧ q = (pa, [pb, pc]) := by
  cases pe <;> try (simp [opSub] at h; done)
  rename_i pf pes kws pos
  rcases pes with _ | ⟨pb, _ | ⟨pc, _ | ⟨_, _⟩⟩⟩ <;> rcases kws with _ | ⟨_, _⟩ <;> try (simp [opSub] at h; done)
  cases pf <;> try (simp [opSub] at h; done)
  simp only [opSub] at h
  split at h
  · rename_i hh
    simp only [Bool.and_eq_true, decide_eq_true_eq] at hh
    obtain ⟨⟨⟨⟨h1, h2⟩, h3⟩, h4⟩, h5⟩ := hh
    subst h1
    cases h
    exact ⟨_, _, _, _, _, rfl, h2, h3, h4, h5, rfl⟩
  · cases h
theorem inv_getT {sc : Scope} {pe : Expr} {q : Expr × List Expr} (h : opSub .getT sc pe = some q) : ∃ pa apos pb pc j p pd pos, pe = .Call (.Attribute pa "get" apos) [.Tuple [pb, pc] j p, pd] [] pos ∧ (apos.endLine == pos.line) = true ∧ plainE pd = true ∧ nmV pa = true ∧ q = (pa, [pb, pc, pd]) := by
  cases pe <;> try (simp [opSub] at h; done)
  rename_i pf pes kws pos
  rcases pes with _ | ⟨pt, _ | ⟨pd, _ | ⟨_, _⟩⟩⟩ <;> rcases kws with _ | ⟨_, _⟩ <;> try (simp [opSub] at h; done)
  cases pf <;> try (simp [opSub] at h; done)
  cases pt <;> try (simp [opSub] at h; done)
  rename_i ts j p
  rcases ts with _ | ⟨pb, _ | ⟨pc, _ | ⟨_, _⟩⟩⟩ <;> try (simp [opSub] at h; done)
  simp only [opSub] at h
  split at h
  · rename_i hh
    simp only [Bool.and_eq_true, decide_eq_true_eq] at hh
    obtain ⟨⟨⟨h1, h2⟩, h3⟩, h4⟩ := hh
    subst h1
    cases h
    exact ⟨_, _, _, _, _, _, _, _, rfl, h2, h3, h4, rfl⟩
  · cases h
theorem inv_skeys {sc : Scope} {pe : Expr} {q : Expr × List Expr} (h : opSub .skeys sc pe = some q) : ∃ pa p apos cpos pos, pe = .Call (.Name "sorted" p) [.Call (.Attribute pa "keys" apos) [] [] cpos] [] pos ∧ glB sc "sorted" = true ∧ (apos.endLine == cpos.line) = true ∧ nmV pa = true ∧ q = (pa, []) := by
  cases pe <;> try (simp [opSub] at h; done)
  rename_i pf pes kws pos
  rcases pes with _ | ⟨pc, _ | ⟨_, _⟩⟩ <;> rcases kws with _ | ⟨_, _⟩ <;> try (simp [opSub] at h; done)
  cases pc <;> try (simp [opSub] at h; done)
  rename_i pg pes2 kws2 cpos
  rcases pes2 with _ | ⟨_, _⟩ <;> rcases kws2 with _ | ⟨_, _⟩ <;> try (cases pg <;> simp [opSub] at h; done)
  cases pg <;> try (simp [opSub] at h; done)
  simp only [opSub] at h
  split at h
  · rename_i hh
    simp only [Bool.and_eq_true, decide_eq_true_eq] at hh
    obtain ⟨⟨⟨⟨h1, h2⟩, h3⟩, h4⟩, h5⟩ := hh
    obtain ⟨p, rfl⟩ := nm_of h1
    subst h3
    cases h
    exact ⟨_, _, _, _, _, rfl, h2, h4, h5, rfl⟩
  · cases h
theorem inv_sitems {sc : Scope} {pe : Expr} {q : Expr × List Expr} (h : opSub .sitems sc pe = some q) : ∃ pa p apos cpos pos, pe = .Call (.Name "sorted" p) [.Call (.Attribute pa "items" apos) [] [] cpos] [] pos ∧ glB sc "sorted" = true ∧ (apos.endLine == cpos.line) = true ∧ nmV pa = true ∧ q = (pa, []) := by
  cases pe <;> try (simp [opSub] at h; done)
  rename_i pf pes kws pos
  rcases pes with _ | ⟨pc, _ | ⟨_, _⟩⟩ <;> rcases kws with _ | ⟨_, _⟩ <;> try (simp [opSub] at h; done)
  cases pc <;> try (simp [opSub] at h; done)
  rename_i pg pes2 kws2 cpos
  rcases pes2 with _ | ⟨_, _⟩ <;> rcases kws2 with _ | ⟨_, _⟩ <;> try (cases pg <;> simp [opSub] at h; done)
  cases pg <;> try (simp [opSub] at h; done)
  simp only [opSub] at h
  split at h
  · rename_i hh
    simp only [Bool.and_eq_true, decide_eq_true_eq] at hh
    obtain ⟨⟨⟨⟨h1, h2⟩, h3⟩, h4⟩, h5⟩ := hh
    obtain ⟨p, rfl⟩ := nm_of h1
    subst h3
    cases h
    exact ⟨_, _, _, _, _, rfl, h2, h4, h5, rfl⟩
  · cases h
theorem inv_sset {sc : Scope} {pe : Expr} {q : Expr × List Expr} (h : opSub .sset sc pe = some q) : ∃ pa p p2 cpos pos, pe = .Call (.Name "sorted" p) [.Call (.Name "set" p2) [pa] [] cpos] [] pos ∧ glB sc "sorted" = true ∧ glB sc "set" = true ∧ plainE pa = true ∧ q = (pa, []) := by
  cases pe <;> try (simp [opSub] at h; done)
  rename_i pf pes kws pos
  rcases pes with _ | ⟨pc, _ | ⟨_, _⟩⟩ <;> rcases kws with _ | ⟨_, _⟩ <;> try (simp [opSub] at h; done)
  cases pc <;> try (simp [opSub] at h; done)
  rename_i pg pes2 kws2 cpos
  rcases pes2 with _ | ⟨pa, _ | ⟨_, _⟩⟩ <;> rcases kws2 with _ | ⟨_, _⟩ <;> try (simp [opSub] at h; done)
  simp only [opSub] at h
  split at h
  · rename_i hh
    simp only [Bool.and_eq_true, decide_eq_true_eq] at hh
    obtain ⟨⟨⟨⟨h1, h2⟩, h3⟩, h4⟩, h5⟩ := hh
    obtain ⟨p, rfl⟩ := nm_of h1
    obtain ⟨p2, rfl⟩ := nm_of h3
    cases h
    exact ⟨_, _, _, _, _, rfl, h2, h4, h5, rfl⟩
  · cases h
theorem inv_lset {sc : Scope} {pe : Expr} {q : Expr × List Expr} (h : opSub .lset sc pe = some q) : ∃ pa p p2 cpos pos, pe = .Call (.Name "len" p) [.Call (.Name "set" p2) [pa] [] cpos] [] pos ∧ glB sc "len" = true ∧ glB sc "set" = true ∧ plainE pa = true ∧ q = (pa, []) := by
  cases pe <;> try (simp [opSub] at h; done)
  rename_i pf pes kws pos
  rcases pes with _ | ⟨pc, _ | ⟨_, _⟩⟩ <;> rcases kws with _ | ⟨_, _⟩ <;> try (simp [opSub] at h; done)
  cases pc <;> try (simp [opSub] at h; done)
  rename_i pg pes2 kws2 cpos
  rcases pes2 with _ | ⟨pa, _ | ⟨_, _⟩⟩ <;> rcases kws2 with _ | ⟨_, _⟩ <;> try (simp [opSub] at h; done)
  simp only [opSub] at h
  split at h
  · rename_i hh
    simp only [Bool.and_eq_true, decide_eq_true_eq] at hh
    obtain ⟨⟨⟨⟨h1, h2⟩, h3⟩, h4⟩, h5⟩ := hh
    obtain ⟨p, rfl⟩ := nm_of h1
    obtain ⟨p2, rfl⟩ := nm_of h3
    cases h
    exact ⟨_, _, _, _, _, rfl, h2, h4, h5, rfl⟩
  · cases h
theorem inv_lenum {sc : Scope} {pe : Expr} {q : Expr × List Expr} (h : opSub .lenum sc pe = some q) : ∃ pa p p2 cpos pos, pe = .Call (.Name "list" p) [.Call (.Name "enumerate" p2) [pa] [] cpos] [] pos ∧ glB sc "list" = true ∧ glB sc "enumerate" = true ∧ plainE pa = true ∧ q = (pa, []) := by
  cases pe <;> try (simp [opSub] at h; done)
  rename_i pf pes kws pos
  rcases pes with _ | ⟨pc, _ | ⟨_, _⟩⟩ <;> rcases kws with _ | ⟨_, _⟩ <;> try (simp [opSub] at h; done)
  cases pc <;> try (simp [opSub] at h; done)
  rename_i pg pes2 kws2 cpos
  rcases pes2 with _ | ⟨pa, _ | ⟨_, _⟩⟩ <;> rcases kws2 with _ | ⟨_, _⟩ <;> try (simp [opSub] at h; done)
  simp only [opSub] at h
  split at h
  · rename_i hh
    simp only [Bool.and_eq_true, decide_eq_true_eq] at hh
    obtain ⟨⟨⟨⟨h1, h2⟩, h3⟩, h4⟩, h5⟩ := hh
    obtain ⟨p, rfl⟩ := nm_of h1
    obtain ⟨p2, rfl⟩ := nm_of h3
    cases h
    exact ⟨_, _, _, _, _, rfl, h2, h4, h5, rfl⟩
  · cases h
theorem inv_gget {sc : Scope} {pe : Expr} {q : Expr × List Expr} {x : Str} {tab : List (Str × Int)} (h : opSub (.gget x tab) sc pe = some q) : ∃ p apos pb pc pos, pe = .Call (.Attribute (.Name x p) "get" apos) [pb, pc] [] pos ∧ glB sc x = true ∧ plainN x = true ∧ (apos.endLine == pos.line) = true ∧ plainE pb = true ∧ plainE pc = true ∧ q = (pb, [pc]) := by
  cases pe <;> try (simp [opSub] at h; done)
  rename_i pf pes kws pos
  rcases pes with _ | ⟨pb, _ | ⟨pc, _ | ⟨_, _⟩⟩⟩ <;> rcases kws with _ | ⟨_, _⟩ <;> try (simp [opSub] at h; done)
  cases pf <;> try (simp [opSub] at h; done)
  rename_i po m apos
  cases po <;> try (simp [opSub] at h; done)
  simp only [opSub] at h
  split at h
  · rename_i hh
    simp only [Bool.and_eq_true, decide_eq_true_eq] at hh
    obtain ⟨⟨⟨⟨⟨⟨h1, h2⟩, h3⟩, h4⟩, h5⟩, h6⟩, h7⟩ := hh
    subst h1 h4
    cases h
    exact ⟨_, _, _, _, _, rfl, h2, h3, h5, h6, h7, rfl⟩
  · cases h
theorem chks_one {e : E} {sc : Scope} {N : List Str} {pb : Expr} {es : Es} (h : chks es sc N [pb] = true) : ∃ e, es = .cons e .nil ∧ plainE pb = true ∧ chk e sc N pb = true := by
  cases es with
  | nil => simp [chks] at h
  | cons e r =>
    simp only [chks, Bool.and_eq_true] at h
    cases r with
    | nil => exact ⟨e, rfl, h.1.1, h.1.2⟩
    | cons _ _ => simp [chks] at h
theorem chks_nil {sc : Scope} {N : List Str} {es : Es} (h : chks es sc N [] = true) : es = .nil := by
  cases es with
  | nil => rfl
  | cons _ _ => simp [chks] at h
theorem evs_len : ∀ {es : Es} {sc : Scope} {N : List Str} {pes : List Expr}, chks es sc N pes = true → ∀ (ρ : Env) (S : Store) (ws : List W) (S' : Store), evs es ρ S = .ok ws S' → ws.length = pes.length
  | .nil, _, _, [], _, ρ, S, ws, S', e => by cases e; rfl
  | .cons a es, sc, N, pe :: pes, h, ρ, S, ws, S', e => by
    simp only [chks, Bool.and_eq_true] at h
    have e' : ((ev a ρ S).bind fun x S1 => (evs es ρ S1).bind fun xs S2 => R.ok (x :: xs) S2) = .ok ws S' := e
    cases q : ev a ρ S with
    | ok x S1 =>
      rw [q] at e'
      cases q2 : evs es ρ S1 with
      | ok xs S2 =>
        rw [R.bind_ok, q2] at e'
        cases e'
        rw [List.length_cons, List.length_cons, evs_len h.2 ρ S1 xs _ q2]
      | exc _ _ => rw [R.bind_ok, q2] at e'; cases e'
      | stuck => rw [R.bind_ok, q2] at e'; cases e'
    | exc _ _ => rw [q] at e'; cases e'
    | stuck => rw [q] at e'; cases e'
  | .nil, _, _, _ :: _, h, _, _, _, _, _ => by simp [chks] at h
  | .cons _ _, _, _, [], h, _, _, _, _, _ => by simp [chks] at h
theorem se_congr {X : Cx} {Wx : WX} {pe : Expr} {f g : Env → Store → R W} (h : SE X cl Wx pe f) (e : ∀ ρ S, f ρ S = g ρ S) : SE X cl Wx pe g := by
  have : f = g := funext fun ρ => funext fun S => e ρ S
  subst this; exact h
theorem bind_assoc {α β γ : Type} (r : R α) (f : α → Store → R β) (g : β → Store → R γ) : (r.bind f).bind g = r.bind fun a S => (f a S).bind g := by cases r <;> rfl
def AllE (P : E → Prop) : Es → Prop
  | .nil => True
  | .cons e es => P e ∧ AllE P es
theorem sa_all {X : Cx} {Wx : WX} {sc : Scope} {N : List Str} : ∀ {es : Es} {pes : List Expr}, AllE (fun e => ∀ pe, chk e sc N pe = true → SE X cl Wx pe (ev e)) es → chks es sc N pes = true → SA X cl Wx pes (evs es)
  | .nil, [], _, _ => sa_nil
  | .cons e es, pe :: pes, a, h => by
    simp only [chks, Bool.and_eq_true] at h
    exact sa_cons h.1.1 (a.1 _ h.1.2) (sa_all a.2 h.2)
  | .nil, _ :: _, _, h => by simp [chks] at h
  | .cons _ _, [], _, h => by simp [chks] at h
theorem snd_opn (o : Opr) (a : E) (es : Es) {X : Cx} {Wx : WX} {sc : Scope} {N : List Str} {k : Nat} {pe : Expr} (c : CtxQ X sc N k) (ok : okOp (HallOk X.prog X.w X.K X.mg X.base cl k) o) (A : ∀ pe, chk a sc N pe = true → SE X cl Wx pe (ev a)) (B : AllE (fun e => ∀ pe, chk e sc N pe = true → SE X cl Wx pe (ev e)) es)
    (h : chk (.opn o a es) sc N pe = true) : SE X cl Wx pe (ev (.opn o a es)) := by
  cases e : opSub o sc pe with
  | none => simp [chk, e] at h
  | some q =>
  simp only [chk, e, Bool.and_eq_true] at h
  obtain ⟨h1, h2⟩ := h
  cases o with
  | fld x =>
    obtain ⟨pa, pos, rfl, q1, rfl⟩ := inv_fld e
    cases chks_nil h2
    exact se_congr (se_fld (k := k) q1 ok (A _ h1)) fun ρ S => rfl
  | newr =>
    obtain ⟨pa, pb, pos, rfl, rfl⟩ := inv_newr e
    obtain ⟨b, rfl, q1, q2⟩ := chks_one (e := a) h2
    exact se_congr (se_newr (A _ h1) (B.1 _ q2)) fun ρ S => by
      show _ = (ev a ρ S).bind fun w S1 => (evs (.cons b .nil) ρ S1).bind fun ws S3 => opW .newr w ws S3
      congr 1; funext w S1
      show _ = ((ev b ρ S1).bind fun x S1 => R.ok [x] S1).bind _
      rw [bind_assoc]; rfl
  | cpy =>
    obtain ⟨pa, p, pos, rfl, q1, q2, rfl⟩ := inv_cpy e
    cases chks_nil h2
    exact se_congr (se_cpy (gl_of c.scE q1) (c.bf _ (by decide +kernel)) q2 (A _ h1)) fun ρ S => rfl
  | ixd =>
    obtain ⟨pa, pb, pos, rfl, q0, rfl⟩ := inv_ixd e
    obtain ⟨b, rfl, q1, q2⟩ := chks_one (e := a) h2
    exact se_congr (se_ixd c.hu q0 (A _ h1) (B.1 _ q2)) fun ρ S => by
      show _ = (ev a ρ S).bind fun w S1 => (evs (.cons b .nil) ρ S1).bind fun ws S3 => opW .ixd w ws S3
      congr 1; funext w S1
      show _ = ((ev b ρ S1).bind fun x S1 => R.ok [x] S1).bind _
      rw [bind_assoc]; rfl
  | get =>
    obtain ⟨pa, apos, pb, pc, pos, rfl, q1, q2, q3, q4, rfl⟩ := inv_get e
    rcases es with _ | ⟨b, _ | ⟨d, _ | ⟨_, _⟩⟩⟩ <;> try (simp [chks] at h2; done)
    simp only [chks, Bool.and_eq_true] at h2
    exact se_congr (se_get c.hu rfl q1 q2 q3 q4 (A _ h1) (B.1 _ h2.1.2) (B.2.1 _ h2.2.1.2)) fun ρ S => by
      show _ = (ev a ρ S).bind fun w S1 => (preW .get w S1).bind fun w S2 => (evs (.cons b (.cons d .nil)) ρ S2).bind fun ws S3 => opW .get w ws S3
      congr 1; funext w S1
      congr 1; funext w S2
      show _ = ((ev b ρ S2).bind fun x S1 => ((ev d ρ S1).bind fun y S3 => R.ok [y] S3).bind fun xs S3 => R.ok (x :: xs) S3).bind _
      rw [bind_assoc]; congr 1; funext y S3
      rw [bind_assoc, bind_assoc]; rfl
  | ixT =>
    obtain ⟨pa, pes, j, p, pos, rfl, rfl⟩ := inv_ixT e
    exact se_congr (se_ixT c.hu (A _ h1) (sa_all B h2)) fun ρ S => rfl
  | getT =>
    obtain ⟨pa, apos, pb, pc, j, p, pd, pos, rfl, q1, q2, q3, rfl⟩ := inv_getT e
    rcases es with _ | ⟨b, _ | ⟨d, _ | ⟨f, _ | ⟨_, _⟩⟩⟩⟩ <;> try (simp [chks] at h2; done)
    have h3 : chks (.cons b (.cons d .nil)) sc N [pb, pc] = true := by
      simp only [chks, Bool.and_eq_true] at h2 ⊢
      exact ⟨h2.1, h2.2.1, trivial⟩
    simp only [chks, Bool.and_eq_true] at h2
    exact se_congr (se_getT c.hu rfl q1 q2 q3 (A _ h1) (sa_cons h2.1.1 (B.1 _ h2.1.2) (sa_cons h2.2.1.1 (B.2.1 _ h2.2.1.2) sa_nil)) (B.2.2.1 _ h2.2.2.1.2)
        (fun ρ S ws S' z => evs_len h3 ρ S ws S' z)) fun ρ S => by
      show _ = (ev a ρ S).bind fun w S1 => (preW .getT w S1).bind fun w S2 => (evs (.cons b (.cons d (.cons f .nil))) ρ S2).bind fun ws S3 => opW .getT w ws S3
      congr 1; funext w S1
      congr 1; funext w S2
      show ((ev b ρ S2).bind fun x S1 => ((ev d ρ S1).bind fun y S3 => R.ok [y] S3).bind fun xs S3 => R.ok (x :: xs) S3).bind _ = ((ev b ρ S2).bind fun x S1 => ((ev d ρ S1).bind fun y S3 => ((ev f ρ S3).bind fun z S4 => R.ok [z] S4).bind fun zs S4 => R.ok (y :: zs) S4).bind fun xs S3 => R.ok (x :: xs) S3).bind _
      simp only [bind_assoc]
      congr 1
  | skeys =>
    obtain ⟨pa, p, apos, cpos, pos, rfl, q1, q2, q3, rfl⟩ := inv_skeys e
    cases chks_nil h2
    exact se_congr (se_skeys c.calm (gl_of c.scE q1) (c.bf _ (by decide +kernel)) q2 q3 (A _ h1)) fun ρ S => rfl
  | sset =>
    obtain ⟨pa, p, p2, q, pos, rfl, q1, q2, q3, rfl⟩ := inv_sset e
    cases chks_nil h2
    exact se_congr (se_sset c.calm (gl_of c.scE q1) (c.bf _ (by decide +kernel)) (gl_of c.scE q2) (c.bf _ (by decide +kernel)) q3 (A _ h1)) fun ρ S => rfl
  | lset =>
    obtain ⟨pa, p, p2, q, pos, rfl, q1, q2, q3, rfl⟩ := inv_lset e
    cases chks_nil h2
    exact se_congr (se_lset c.calm (gl_of c.scE q1) (c.bf _ (by decide +kernel)) (gl_of c.scE q2) (c.bf _ (by decide +kernel)) q3 (A _ h1)) fun ρ S => rfl
  | gget x tab =>
    obtain ⟨p, apos, pb, pc, pos, rfl, q1, q2, q3, q4, q5, rfl⟩ := inv_gget e
    obtain ⟨b, rfl, _, q6⟩ := chks_one (e := a) h2
    exact se_congr (se_gget (k := k) ok (gl_of c.scE q1) q2 q3 q4 q5 (A _ h1) (B.1 _ q6)) fun ρ S => by
      show _ = (ev a ρ S).bind fun w S1 => (evs (.cons b .nil) ρ S1).bind fun ws S3 => opW (.gget x tab) w ws S3
      congr 1; funext w S1
      show _ = ((ev b ρ S1).bind fun x S1 => R.ok [x] S1).bind _
      rw [bind_assoc]; rfl
  | sitems =>
    obtain ⟨pa, p, apos, cpos, pos, rfl, q1, q2, q3, rfl⟩ := inv_sitems e
    cases chks_nil h2
    exact se_congr (se_sitems c.calm (gl_of c.scE q1) (c.bf _ (by decide +kernel)) q2 q3 (A _ h1)) fun ρ S => rfl
  | lenum =>
    obtain ⟨pa, p, p2, q, pos, rfl, q1, q2, q3, rfl⟩ := inv_lenum e
    cases chks_nil h2
    exact se_congr (se_lenum c.calm (gl_of c.scE q1) (c.bf _ (by decide +kernel)) (gl_of c.scE q2) (c.bf _ (by decide +kernel)) q3 (A _ h1)) fun ρ S => rfl
theorem se_methE {a : E} {es : Es} {X : Cx} {Wx : WX} {sc : Scope} {N : List Str} {k : Nat} {pa : Expr} {pes : List Expr} {x : Str} {f : Fn} {apos pos : Pos} (c : CtxQ X sc N k) (tk : Takes X Wx) (hk : HallOk X.prog X.w X.K X.mg X.base cl k (.meth x f)) (ha : SE X cl Wx pa (ev a)) (hs : SA X cl Wx pes (evs es))
    (h1 : (apos.endLine == pos.line) = true) (h2 : nmW pa = true) (h3 : pes.length < 29) (h5 : chks es sc N pes = true) : SE X cl Wx (.Call (.Attribute pa x apos) pes [] pos) (ev (.meth a x f es)) := by
  cases pes with
  | nil =>
    cases chks_nil h5
    exact se_meth0 c.room tk hk ha h2 h1
  | cons e es' => exact se_meth c.room tk hk ha hs h2 h1 (chks_plain h5) h3
mutual
theorem snd_E : ∀ (e : E) (X : Cx) (Wx : WX) (sc : Scope) (N : List Str) (k : Nat) (pe : Expr), CtxQ X sc N k → Takes X Wx → OkE cl X k e → chk e sc N pe = true → SE X cl Wx pe (ev e)
  | .var i, X, Wx, sc, N, k, pe, c, tk, ok, h => by
    cases pe <;> try (simp [chk] at h; done)
    simp only [chk, Bool.and_eq_true, decide_eq_true_eq] at h
    obtain ⟨⟨h1, h2⟩, h3⟩ := h
    have q := plainN_of h3
    exact se_var (by rw [c.nm]; exact h1) (by rw [c.scE]; exact vis_of h2) q.1 q.2
  | .c x, X, Wx, sc, N, k, pe, c, tk, ok, h => by
    cases pe <;> try (simp [chk] at h; done)
    exact se_c (by simpa [chk] using h)
  | .gl x v, X, Wx, sc, N, k, pe, c, tk, ok, h => by
    cases pe <;> try (simp [chk] at h; done)
    simp only [chk, Bool.and_eq_true, decide_eq_true_eq] at h
    obtain ⟨⟨rfl, h2⟩, h3⟩ := h
    exact se_gl (gl_of c.scE h2) ok (plainN_of h3).1
  | .bin o a b, X, Wx, sc, N, k, pe, c, tk, ok, h => by
    cases pe <;> try (simp [chk] at h; done)
    simp only [chk, Bool.and_eq_true, decide_eq_true_eq] at h
    obtain ⟨⟨rfl, h2⟩, h3⟩ := h
    exact se_bin o (snd_E a X Wx sc N k _ c tk ok.1 h2) (snd_E b X Wx sc N k _ c tk ok.2 h3)
  | .neg a, X, Wx, sc, N, k, pe, c, tk, ok, h => by
    cases pe <;> try (simp [chk] at h; done)
    simp only [chk, Bool.and_eq_true, decide_eq_true_eq] at h
    obtain ⟨rfl, h2⟩ := h
    exact se_neg (snd_E a X Wx sc N k _ c tk ok h2)
  | .cmp o a b, X, Wx, sc, N, k, pe, c, tk, ok, h => by
    cases pe <;> try (simp [chk] at h; done)
    rename_i l ops cs pos
    rcases ops with _ | ⟨op, _ | ⟨op2, ops⟩⟩ <;> rcases cs with _ | ⟨pb, _ | ⟨pb2, cs⟩⟩ <;> try (simp [chk] at h; done)
    simp only [chk, Bool.and_eq_true, decide_eq_true_eq] at h
    obtain ⟨⟨⟨rfl, h1⟩, h2⟩, h3⟩ := h
    exact se_cmp c.hu o (snd_E a X Wx sc N k _ c tk ok.1 h2) (snd_E b X Wx sc N k _ c tk ok.2 h3) h1
  | .chain o o' a b d, X, Wx, sc, N, k, pe, c, tk, ok, h => by
    cases pe <;> try (simp [chk] at h; done)
    rename_i l ops cs pos
    rcases ops with _ | ⟨op, _ | ⟨op2, _ | ⟨op3, ops⟩⟩⟩ <;> rcases cs with _ | ⟨pb, _ | ⟨pb2, _ | ⟨pb3, cs⟩⟩⟩ <;> try (simp [chk] at h; done)
    simp only [chk, Bool.and_eq_true, decide_eq_true_eq] at h
    obtain ⟨⟨⟨⟨⟨rfl, rfl⟩, h1⟩, h2⟩, h3⟩, h4⟩ := h
    exact se_chain c.hu o o' (snd_E a X Wx sc N k _ c tk ok.1 h2) (snd_E b X Wx sc N k _ c tk ok.2.1 h3) (snd_E d X Wx sc N k _ c tk ok.2.2 h4) h1
  | .chain3 o o' o2 a b d f, X, Wx, sc, N, k, pe, c, tk, ok, h => by
    cases pe <;> try (simp [chk] at h; done)
    rename_i l ops cs pos
    rcases ops with _ | ⟨op, _ | ⟨op2, _ | ⟨op3, _ | ⟨op4, ops⟩⟩⟩⟩ <;> rcases cs with _ | ⟨pb, _ | ⟨pb2, _ | ⟨pb3, _ | ⟨pb4, cs⟩⟩⟩⟩ <;> try (simp [chk] at h; done)
    simp only [chk, Bool.and_eq_true, decide_eq_true_eq] at h
    obtain ⟨⟨⟨⟨⟨⟨⟨rfl, rfl⟩, rfl⟩, h1⟩, h2⟩, h3⟩, h4⟩, h5⟩ := h
    exact se_chain3 c.hu o o' o2 (snd_E a X Wx sc N k _ c tk ok.1 h2) (snd_E b X Wx sc N k _ c tk ok.2.1 h3) (snd_E d X Wx sc N k _ c tk ok.2.2.1 h4) (snd_E f X Wx sc N k _ c tk ok.2.2.2 h5) h1
  | .nt a, X, Wx, sc, N, k, pe, c, tk, ok, h => by
    cases pe <;> try (simp [chk] at h; done)
    simp only [chk, Bool.and_eq_true, decide_eq_true_eq] at h
    obtain ⟨rfl, h2⟩ := h
    exact se_not (snd_E a X Wx sc N k _ c tk ok h2)
  | .and es, X, Wx, sc, N, k, pe, c, tk, ok, h => by
    cases pe <;> try (simp [chk] at h; done)
    simp only [chk, Bool.and_eq_true, decide_eq_true_eq] at h
    obtain ⟨rfl, h2⟩ := h
    exact snd_And es X Wx sc N k _ _ c tk ok h2
  | .or es, X, Wx, sc, N, k, pe, c, tk, ok, h => by
    cases pe <;> try (simp [chk] at h; done)
    simp only [chk, Bool.and_eq_true, decide_eq_true_eq] at h
    obtain ⟨rfl, h2⟩ := h
    exact snd_Or es X Wx sc N k _ _ c tk ok h2
  | .ite t a b, X, Wx, sc, N, k, pe, c, tk, ok, h => by
    cases pe <;> try (simp [chk] at h; done)
    simp only [chk, Bool.and_eq_true, decide_eq_true_eq] at h
    obtain ⟨⟨h1, h2⟩, h3⟩ := h
    exact se_ite (snd_T t X Wx sc N k _ c tk ok.1 h1) (snd_E a X Wx sc N k _ c tk ok.2.1 h2) (snd_E b X Wx sc N k _ c tk ok.2.2 h3)
  | .tup es, X, Wx, sc, N, k, pe, c, tk, ok, h => by
    cases pe <;> try (simp [chk] at h; done)
    exact se_tup (snd_A es X Wx sc N k _ c tk ok (by simpa [chk] using h))
  | .lst es, X, Wx, sc, N, k, pe, c, tk, ok, h => by
    cases pe <;> try (simp [chk] at h; done)
    exact se_lst (snd_A es X Wx sc N k _ c tk ok (by simpa [chk] using h))
  | .newl es, X, Wx, sc, N, k, pe, c, tk, ok, h => by
    cases pe <;> try (simp [chk] at h; done)
    exact se_newl (snd_A es X Wx sc N k _ c tk ok (by simpa [chk] using h))
  | .ix a b, X, Wx, sc, N, k, pe, c, tk, ok, h => by
    cases pe <;> try (simp [chk] at h; done)
    simp only [chk, Bool.and_eq_true, decide_eq_true_eq] at h
    obtain ⟨⟨h1, h2⟩, h3⟩ := h
    exact se_ix (snd_E a X Wx sc N k _ c tk ok.1 h2) (snd_E b X Wx sc N k _ c tk ok.2 h3) h1
  | .sl a lo hi, X, Wx, sc, N, k, pe, c, tk, ok, h => by
    cases pe <;> try (simp [chk] at h; done)
    rename_i pa ps pos
    cases ps <;> try (simp [chk] at h; done)
    rename_i plo phi st p2
    cases st <;> try (simp [chk] at h; done)
    simp only [chk, Bool.and_eq_true, decide_eq_true_eq] at h
    obtain ⟨⟨h1, h2⟩, h3⟩ := h
    exact se_sl (snd_E a X Wx sc N k _ c tk ok.1 h1) (snd_O lo X Wx sc N k _ c tk ok.2.1 h2) (snd_O hi X Wx sc N k _ c tk ok.2.2 h3)
  | .bi f es, X, Wx, sc, N, k, pe, c, tk, ok, h => by
    cases pe <;> try (simp [chk] at h; done)
    rename_i pf pes kws pos
    cases kws <;> try (simp [chk] at h; done)
    simp only [chk, Bool.and_eq_true, decide_eq_true_eq] at h
    obtain ⟨⟨⟨h1, h2⟩, h3⟩, h4⟩ := h
    obtain ⟨p, rfl⟩ := nm_of h1
    exact se_bi f c.calm (gl_of c.scE h2) (c.bf _ (bi_names f)) (snd_A es X Wx sc N k _ c tk ok h4) (chks_plain h4) (by simpa using h3)
  | .isi a t, X, Wx, sc, N, k, pe, c, tk, ok, h => by
    cases pe <;> try (simp [chk] at h; done)
    rename_i pf pes kws pos
    rcases pes with _ | ⟨pa, _ | ⟨pt, _ | ⟨_, _⟩⟩⟩ <;> rcases kws with _ | ⟨_, _⟩ <;> try (simp [chk] at h; done)
    simp only [chk, Bool.and_eq_true, decide_eq_true_eq] at h
    obtain ⟨⟨⟨⟨⟨h1, h2⟩, h3⟩, h4⟩, h5⟩, h6⟩ := h
    obtain ⟨p, rfl⟩ := nm_of h1
    obtain ⟨q, rfl⟩ := nm_of h3
    exact se_isi t (gl_of c.scE h2) (c.bf _ (by decide +kernel)) (gl_of c.scE h4) (c.bf _ (ty_plain t).2.2) (snd_E a X Wx sc N k _ c tk ok h6) h5
  | .app a b, X, Wx, sc, N, k, pe, c, tk, ok, h => by
    cases pe <;> try (simp [chk] at h; done)
    rename_i pf pes kws pos
    rcases pes with _ | ⟨pb, _ | ⟨_, _⟩⟩ <;> rcases kws with _ | ⟨_, _⟩ <;> try (simp [chk] at h; done)
    cases pf <;> try (simp [chk] at h; done)
    simp only [chk, Bool.and_eq_true, decide_eq_true_eq] at h
    obtain ⟨⟨⟨⟨⟨h1, h2⟩, h3⟩, h4⟩, h5⟩, h6⟩ := h
    exact se_app h1 h2 h3 h4 (snd_E a X Wx sc N k _ c tk ok.1 h5) (snd_E b X Wx sc N k _ c tk ok.2 h6)
  | .ext a b, X, Wx, sc, N, k, pe, c, tk, ok, h => by
    cases pe <;> try (simp [chk] at h; done)
    rename_i pf pes kws pos
    rcases pes with _ | ⟨pb, _ | ⟨_, _⟩⟩ <;> rcases kws with _ | ⟨_, _⟩ <;> try (simp [chk] at h; done)
    cases pf <;> try (simp [chk] at h; done)
    simp only [chk, Bool.and_eq_true, decide_eq_true_eq] at h
    obtain ⟨⟨⟨⟨⟨h1, h2⟩, h3⟩, h4⟩, h5⟩, h6⟩ := h
    exact se_ext h1 h2 h3 h4 (snd_E a X Wx sc N k _ c tk ok.1 h5) (snd_E b X Wx sc N k _ c tk ok.2 h6)
  | .call x f es, X, Wx, sc, N, k, pe, c, tk, ok, h => by
    cases pe <;> try (simp [chk] at h; done)
    rename_i pf pes kws pos
    cases kws <;> try (simp [chk] at h; done)
    simp only [chk, Bool.and_eq_true, decide_eq_true_eq] at h
    obtain ⟨⟨⟨⟨h1, h2⟩, h3⟩, h4⟩, h5⟩ := h
    obtain ⟨p, rfl⟩ := nm_of h1
    exact se_call c.room tk (gl_of c.scE h2) (plainN_of h3).1 ok.1 (snd_A es X Wx sc N k _ c tk ok.2 h5) (chks_plain h5) (by simpa using h4)
  | .comp own tg it cond elt, X, Wx, sc, N, k, pe, c, tk, ok, h => by
    cases pe <;> try (simp [chk] at h; done)
    rename_i pelt gens scope pos
    rcases gens with _ | ⟨⟨ptg, pit, pifs, asy⟩, _ | ⟨_, _⟩⟩ <;> try (simp [chk] at h; done)
    by_cases ha : asy = 0
    · subst ha
      simp only [chk, Bool.and_eq_true, decide_eq_true_eq] at h
      obtain ⟨⟨⟨⟨⟨⟨h1, h2⟩, h3⟩, h4⟩, h5⟩, h6⟩, h7⟩ := h
      refine se_comp c.calm (by rw [c.nm]; exact c.nd) (snd_It it X Wx sc N k ptg pit c tk ok.1 h2) (by rw [c.nm, c.scE]; exact blkOk_by h1) h7 (fun s H C cells fp => ?_) (fun s H C cells fp => ?_) (fun s H C cells fp => ?_) h6
      · exact pg_of (X := X.blk s H scope (compEnvC scope cells C X.env) fp) c.nm c.nd c.calm (stores_blk c s H C cells fp) tg ptg h3
      · exact snd_C cond _ WF _ N k _ (c.blk s H C cells fp) takes0 ok.2.1 h4
      · exact snd_E elt _ WF _ N k _ (c.blk s H C cells fp) takes0 ok.2.2 h5
    · exfalso
      revert h
      unfold chk
      split <;> simp_all
  | .frz a, X, Wx, sc, N, k, pe, c, tk, ok, h => by
    have h' : chk a sc N pe = true := by simpa [chk] using h
    exact se_frz (snd_E a X Wx sc N k _ c tk ok h')
  | .sl2 a, X, Wx, sc, N, k, pe, c, tk, ok, h => by
    cases pe <;> try (simp [chk] at h; done)
    rename_i pa ps pos
    cases ps <;> try (simp [chk] at h; done)
    rename_i lo hi st p3
    cases lo <;> cases hi <;> try (simp [chk] at h; done)
    cases st <;> try (simp [chk] at h; done)
    rename_i st
    cases st <;> try (simp [chk] at h; done)
    rename_i v kd p1
    cases v <;> try (simp [chk] at h; done)
    simp only [chk, Bool.and_eq_true, decide_eq_true_eq] at h
    obtain ⟨rfl, h2⟩ := h
    exact se_sl2 (snd_E a X Wx sc N k _ c tk ok h2)
  | .lrg1 a, X, Wx, sc, N, k, pe, c, tk, ok, h => by
    cases pe <;> try (simp [chk] at h; done)
    rename_i pf pes kws pos
    rcases pes with _ | ⟨pr, _ | ⟨_, _⟩⟩ <;> rcases kws with _ | ⟨_, _⟩ <;> try (simp [chk] at h; done)
    cases pr <;> try (simp [chk] at h; done)
    rename_i pr pes kws pos2
    rcases pes with _ | ⟨pa, _ | ⟨_, _⟩⟩ <;> rcases kws with _ | ⟨_, _⟩ <;> try (simp [chk] at h; done)
    simp only [chk, Bool.and_eq_true, decide_eq_true_eq] at h
    obtain ⟨⟨⟨⟨⟨h1, h2⟩, h3⟩, h4⟩, h5⟩, h6⟩ := h
    obtain ⟨p, rfl⟩ := nm_of h1
    obtain ⟨q, rfl⟩ := nm_of h3
    exact se_lrg1 c.calm (gl_of c.scE h2) (c.bf _ (by decide +kernel)) (gl_of c.scE h4) (c.bf _ (by decide +kernel)) h5 (snd_E a X Wx sc N k _ c tk ok h6)
  | .lrg2 a b, X, Wx, sc, N, k, pe, c, tk, ok, h => by
    cases pe <;> try (simp [chk] at h; done)
    rename_i pf pes kws pos
    rcases pes with _ | ⟨pr, _ | ⟨_, _⟩⟩ <;> rcases kws with _ | ⟨_, _⟩ <;> try (simp [chk] at h; done)
    cases pr <;> try (simp [chk] at h; done)
    rename_i pr pes kws pos2
    rcases pes with _ | ⟨pa, _ | ⟨pb, _ | ⟨_, _⟩⟩⟩ <;> rcases kws with _ | ⟨_, _⟩ <;> try (simp [chk] at h; done)
    simp only [chk, Bool.and_eq_true, decide_eq_true_eq] at h
    obtain ⟨⟨⟨⟨⟨⟨⟨h1, h2⟩, h3⟩, h4⟩, h5⟩, h6⟩, h7⟩, h8⟩ := h
    obtain ⟨p, rfl⟩ := nm_of h1
    obtain ⟨q, rfl⟩ := nm_of h3
    exact se_lrg2 c.calm (gl_of c.scE h2) (c.bf _ (by decide +kernel)) (gl_of c.scE h4) (c.bf _ (by decide +kernel)) h5 h6 (snd_E a X Wx sc N k _ c tk ok.1 h7) (snd_E b X Wx sc N k _ c tk ok.2 h8)
  | .lrg3 a b d, X, Wx, sc, N, k, pe, c, tk, ok, h => by
    cases pe <;> try (simp [chk] at h; done)
    rename_i pf pes kws pos
    rcases pes with _ | ⟨pr, _ | ⟨_, _⟩⟩ <;> rcases kws with _ | ⟨_, _⟩ <;> try (simp [chk] at h; done)
    cases pr <;> try (simp [chk] at h; done)
    rename_i pr pes kws pos2
    rcases pes with _ | ⟨pa, _ | ⟨pb, _ | ⟨pd, _ | ⟨_, _⟩⟩⟩⟩ <;> rcases kws with _ | ⟨_, _⟩ <;> try (simp [chk] at h; done)
    simp only [chk, Bool.and_eq_true, decide_eq_true_eq] at h
    obtain ⟨⟨⟨⟨⟨⟨⟨⟨⟨h1, h2⟩, h3⟩, h4⟩, h5⟩, h6⟩, h7⟩, h8⟩, h9⟩, h10⟩ := h
    obtain ⟨p, rfl⟩ := nm_of h1
    obtain ⟨q, rfl⟩ := nm_of h3
    exact se_lrg3 c.calm (gl_of c.scE h2) (c.bf _ (by decide +kernel)) (gl_of c.scE h4) (c.bf _ (by decide +kernel)) h5 h6 h7 (snd_E a X Wx sc N k _ c tk ok.1 h8) (snd_E b X Wx sc N k _ c tk ok.2.1 h9) (snd_E d X Wx sc N k _ c tk ok.2.2 h10)
  | .any, X, Wx, sc, N, k, pe, c, tk, ok, h => ⟨fun _ _ _ _ _ _ ⟨_, _, _, _, _, h⟩ => h.elim⟩
  | .isk _ _ _ _, X, Wx, sc, N, k, pe, c, tk, ok, h => ok.elim
  | .cnt a b, X, Wx, sc, N, k, pe, c, tk, ok, h => by
    cases pe <;> try (simp [chk] at h; done)
    rename_i pf pes kws pos
    rcases pes with _ | ⟨pb, _ | ⟨_, _⟩⟩ <;> rcases kws with _ | ⟨_, _⟩ <;> try (simp [chk] at h; done)
    cases pf <;> try (simp [chk] at h; done)
    simp only [chk, Bool.and_eq_true, decide_eq_true_eq] at h
    obtain ⟨⟨⟨⟨⟨h1, h2⟩, h3⟩, h4⟩, h5⟩, h6⟩ := h
    exact se_cnt c.hu65 h1 h2 h3 h4 (snd_E a X Wx sc N k _ c tk ok.1 h5) (snd_E b X Wx sc N k _ c tk ok.2 h6)
  | .idx a b, X, Wx, sc, N, k, pe, c, tk, ok, h => by
    cases pe <;> try (simp [chk] at h; done)
    rename_i pf pes kws pos
    rcases pes with _ | ⟨pb, _ | ⟨_, _⟩⟩ <;> rcases kws with _ | ⟨_, _⟩ <;> try (simp [chk] at h; done)
    cases pf <;> try (simp [chk] at h; done)
    simp only [chk, Bool.and_eq_true, decide_eq_true_eq] at h
    obtain ⟨⟨⟨⟨⟨h1, h2⟩, h3⟩, h4⟩, h5⟩, h6⟩ := h
    exact se_idx c.hu65 h1 h2 h3 h4 (snd_E a X Wx sc N k _ c tk ok.1 h5) (snd_E b X Wx sc N k _ c tk ok.2 h6)
  | .callE a tab es, X, Wx, sc, N, k, pe, c, tk, ok, h => by
    cases pe <;> try (simp [chk] at h; done)
    rename_i pf pes kws pos
    cases kws <;> try (simp [chk] at h; done)
    cases pf <;> try (simp [chk] at h; done)
    simp only [chk, Bool.and_eq_true, decide_eq_true_eq] at h
    obtain ⟨⟨h1, h2⟩, h3⟩ := h
    exact se_callE c.room tk (snd_E a X Wx sc N k _ c tk ok.1 h2) ok.2.1 (snd_A es X Wx sc N k _ c tk ok.2.2 h3) (chks_plain h3) (by simpa using h1)
  | .opn o a es, X, Wx, sc, N, k, pe, c, tk, ok, h => snd_opn o a es c ok.1 (fun pe' h' => snd_E a X Wx sc N k pe' c tk ok.2.1 h') (snd_All es X Wx sc N k c tk ok.2.2) h
  | .inT es a, X, Wx, sc, N, k, pe, c, tk, ok, h => by
    cases pe <;> try (simp [chk] at h; done)
    rename_i l ops cs pos
    cases l <;> try (simp [chk] at h; done)
    rcases ops with _ | ⟨op, _ | ⟨op2, ops⟩⟩ <;> rcases cs with _ | ⟨pb, _ | ⟨pb2, cs⟩⟩ <;> try (simp [chk] at h; done)
    simp only [chk, Bool.and_eq_true, decide_eq_true_eq] at h
    obtain ⟨⟨⟨⟨rfl, h0⟩, h1⟩, h2⟩, h3⟩ := h
    exact se_inT c.hu h1 (snd_A es X Wx sc N k _ c tk ok.1 h2) (snd_E a X Wx sc N k _ c tk ok.2 h3) fun ρ S ws S' z => (evs_len h2 ρ S ws S' z).trans h0
  | .newd t, X, Wx, sc, N, k, pe, c, tk, ok, h => by
    cases pe <;> try (simp [chk] at h; done)
    rename_i ks vs pos
    cases ks <;> try (simp [chk] at h; done)
    cases vs <;> try (simp [chk] at h; done)
    exact se_newd t
  | .meth a x f es, X, Wx, sc, N, k, pe, c, tk, ok, h => by
    cases pe <;> try (simp [chk] at h; done)
    rename_i pf pes kws pos
    cases kws <;> try (simp [chk] at h; done)
    cases pf <;> try (simp [chk] at h; done)
    simp only [chk, Bool.and_eq_true, decide_eq_true_eq] at h
    obtain ⟨⟨⟨⟨⟨rfl, h1⟩, h2⟩, h3⟩, h4⟩, h5⟩ := h
    exact se_methE c tk ok.1 (snd_E a X Wx sc N k _ c tk ok.2.1 h4) (snd_A es X Wx sc N k _ c tk ok.2.2 h5) h1 h2 h3 h5
  | .mk x f es, X, Wx, sc, N, k, pe, c, tk, ok, h => by
    cases pe <;> try (simp [chk] at h; done)
    rename_i pf pes kws pos
    cases kws <;> try (simp [chk] at h; done)
    simp only [chk, Bool.and_eq_true, decide_eq_true_eq] at h
    obtain ⟨⟨⟨⟨h1, h2⟩, h3⟩, h4⟩, h5⟩ := h
    obtain ⟨p, rfl⟩ := nm_of h1
    cases pes with
    | nil => simp at h4
    | cons e es' => exact se_mk c.room tk ok.1 (gl_of c.scE h2) (plainN_of h3).1 (snd_A es X Wx sc N k _ c tk ok.2 h5) (chks_plain h5)
  | .tupw es, X, Wx, sc, N, k, pe, c, tk, ok, h => by
    cases pe <;> try (simp [chk] at h; done)
    simp only [chk] at h
    exact se_tupw (snd_A es X Wx sc N k _ c tk ok h)
theorem snd_T : ∀ (e : E) (X : Cx) (Wx : WX) (sc : Scope) (N : List Str) (k : Nat) (pe : Expr), CtxQ X sc N k → Takes X Wx → OkE cl X k e → chk e sc N pe = true → ST X cl Wx pe (evT e)
  | .and es, X, Wx, sc, N, k, pe, c, tk, ok, h => by
    cases pe <;> try (simp [chk] at h; done)
    simp only [chk, Bool.and_eq_true, decide_eq_true_eq] at h
    obtain ⟨rfl, h2⟩ := h
    exact (snd_AndT es X Wx sc N k _ _ c tk ok h2).pt
  | .or es, X, Wx, sc, N, k, pe, c, tk, ok, h => by
    cases pe <;> try (simp [chk] at h; done)
    simp only [chk, Bool.and_eq_true, decide_eq_true_eq] at h
    obtain ⟨rfl, h2⟩ := h
    exact (snd_OrT es X Wx sc N k _ _ c tk ok h2).pt
  | .nt a, X, Wx, sc, N, k, pe, c, tk, ok, h => by
    cases pe <;> try (simp [chk] at h; done)
    simp only [chk, Bool.and_eq_true, decide_eq_true_eq] at h
    obtain ⟨rfl, h2⟩ := h
    exact st_not (snd_T a X Wx sc N k _ c tk ok h2)
  | .var i, X, Wx, sc, N, k, pe, c, tk, ok, h => by
    cases pe <;> try (simp [chk] at h; done)
    simp only [chk, Bool.and_eq_true, decide_eq_true_eq] at h
    obtain ⟨⟨h1, h2⟩, h3⟩ := h
    have q := plainN_of h3
    exact st_truth (se_var (by rw [c.nm]; exact h1) (by rw [c.scE]; exact vis_of h2) q.1 q.2) (by intro _; rfl)
  | .cmp o a b, X, Wx, sc, N, k, pe, c, tk, ok, h => by
    cases pe <;> try (simp [chk] at h; done)
    rename_i l ops cs pos
    rcases ops with _ | ⟨op, _ | ⟨op2, ops⟩⟩ <;> rcases cs with _ | ⟨pb, _ | ⟨pb2, cs⟩⟩ <;> try (simp [chk] at h; done)
    simp only [chk, Bool.and_eq_true, decide_eq_true_eq] at h
    obtain ⟨⟨⟨rfl, h1⟩, h2⟩, h3⟩ := h
    exact st_cmp c.hu o (snd_E a X Wx sc N k _ c tk ok.1 h2) (snd_E b X Wx sc N k _ c tk ok.2 h3) h1
  | .chain o o' a b d, X, Wx, sc, N, k, pe, c, tk, ok, h => by
    cases pe <;> try (simp [chk] at h; done)
    rename_i l ops cs pos
    rcases ops with _ | ⟨op, _ | ⟨op2, _ | ⟨op3, ops⟩⟩⟩ <;> rcases cs with _ | ⟨pb, _ | ⟨pb2, _ | ⟨pb3, cs⟩⟩⟩ <;> try (simp [chk] at h; done)
    simp only [chk, Bool.and_eq_true, decide_eq_true_eq] at h
    obtain ⟨⟨⟨⟨⟨rfl, rfl⟩, h1⟩, h2⟩, h3⟩, h4⟩ := h
    exact st_chain c.hu o o' (snd_E a X Wx sc N k _ c tk ok.1 h2) (snd_E b X Wx sc N k _ c tk ok.2.1 h3) (snd_E d X Wx sc N k _ c tk ok.2.2 h4) h1
  | .bi f es, X, Wx, sc, N, k, pe, c, tk, ok, h => by
    cases pe <;> try (simp [chk] at h; done)
    rename_i pf pes kws pos
    cases kws <;> try (simp [chk] at h; done)
    simp only [chk, Bool.and_eq_true, decide_eq_true_eq] at h
    obtain ⟨⟨⟨h1, h2⟩, h3⟩, h4⟩ := h
    obtain ⟨p, rfl⟩ := nm_of h1
    have := se_bi (Wx := Wx) (cl := cl) (pos := pos) (p := p) f c.calm (gl_of c.scE h2) (c.bf _ (bi_names f)) (snd_A es X Wx sc N k _ c tk ok h4) (chks_plain h4) (by simpa using h3)
    refine L2PT.weaken (st_val this (by intro _; rfl)) ?_
    rintro σ H Q ⟨ω, ρ, S, hr, sl, h⟩
    exact ⟨ω, ρ, S, hr, sl, h⟩
  | .isi a t, X, Wx, sc, N, k, pe, c, tk, ok, h => by
    cases pe <;> try (simp [chk] at h; done)
    rename_i pf pes kws pos
    rcases pes with _ | ⟨pa, _ | ⟨pt, _ | ⟨_, _⟩⟩⟩ <;> rcases kws with _ | ⟨_, _⟩ <;> try (simp [chk] at h; done)
    simp only [chk, Bool.and_eq_true, decide_eq_true_eq] at h
    obtain ⟨⟨⟨⟨⟨h1, h2⟩, h3⟩, h4⟩, h5⟩, h6⟩ := h
    obtain ⟨p, rfl⟩ := nm_of h1
    obtain ⟨q, rfl⟩ := nm_of h3
    have := se_isi (Wx := Wx) (cl := cl) (pos := pos) (p := p) (q := q) t (gl_of c.scE h2) (c.bf _ (by decide +kernel)) (gl_of c.scE h4) (c.bf _ (ty_plain t).2.2) (snd_E a X Wx sc N k _ c tk ok h6) h5
    refine L2PT.weaken (st_val this (by intro _; rfl)) ?_
    rintro σ H Q ⟨ω, ρ, S, hr, sl, h⟩
    exact ⟨ω, ρ, S, hr, sl, h⟩
  | .call x f es, X, Wx, sc, N, k, pe, c, tk, ok, h => by
    cases pe <;> try (simp [chk] at h; done)
    rename_i pf pes kws pos
    cases kws <;> try (simp [chk] at h; done)
    simp only [chk, Bool.and_eq_true, decide_eq_true_eq] at h
    obtain ⟨⟨⟨⟨h1, h2⟩, h3⟩, h4⟩, h5⟩ := h
    obtain ⟨p, rfl⟩ := nm_of h1
    have := se_call (Wx := Wx) (cl := cl) (pos := pos) (p := p) c.room tk (gl_of c.scE h2) (plainN_of h3).1 ok.1 (snd_A es X Wx sc N k _ c tk ok.2 h5) (chks_plain h5) (by simpa using h4)
    refine L2PT.weaken (st_val this (by intro _; rfl)) ?_
    rintro σ H Q ⟨ω, ρ, S, hr, sl, h⟩
    exact ⟨ω, ρ, S, hr, sl, h⟩
  | .c x, X, Wx, sc, N, k, pe, c, tk, ok, h => by
    cases pe <;> try (simp [chk] at h; done)
    refine L2PT.weaken (st_val (se_c (Wx := Wx) (cl := cl) (by simpa [chk] using h)) (by intro _; rfl)) ?_
    rintro σ H Q ⟨ω, ρ, S, hr, sl, h⟩
    cases x <;> try (exact h.elim)
    exact ⟨ω, ρ, S, hr, sl, h⟩
  | .chain3 _ _ _ _ _ _ _, X, Wx, sc, N, k, pe, c, tk, ok, h => ⟨fun _ _ _ _ _ _ ⟨_, _, _, _, _, h⟩ => h.elim⟩
  | .gl _ _, X, Wx, sc, N, k, pe, c, tk, ok, h => ⟨fun _ _ _ _ _ _ ⟨_, _, _, _, _, h⟩ => h.elim⟩
  | .bin _ _ _, X, Wx, sc, N, k, pe, c, tk, ok, h => ⟨fun _ _ _ _ _ _ ⟨_, _, _, _, _, h⟩ => h.elim⟩
  | .neg _, X, Wx, sc, N, k, pe, c, tk, ok, h => ⟨fun _ _ _ _ _ _ ⟨_, _, _, _, _, h⟩ => h.elim⟩
  | .ite _ _ _, X, Wx, sc, N, k, pe, c, tk, ok, h => ⟨fun _ _ _ _ _ _ ⟨_, _, _, _, _, h⟩ => h.elim⟩
  | .tup _, X, Wx, sc, N, k, pe, c, tk, ok, h => ⟨fun _ _ _ _ _ _ ⟨_, _, _, _, _, h⟩ => h.elim⟩
  | .lst _, X, Wx, sc, N, k, pe, c, tk, ok, h => ⟨fun _ _ _ _ _ _ ⟨_, _, _, _, _, h⟩ => h.elim⟩
  | .newl _, X, Wx, sc, N, k, pe, c, tk, ok, h => ⟨fun _ _ _ _ _ _ ⟨_, _, _, _, _, h⟩ => h.elim⟩
  | .ix _ _, X, Wx, sc, N, k, pe, c, tk, ok, h => ⟨fun _ _ _ _ _ _ ⟨_, _, _, _, _, h⟩ => h.elim⟩
  | .sl _ _ _, X, Wx, sc, N, k, pe, c, tk, ok, h => ⟨fun _ _ _ _ _ _ ⟨_, _, _, _, _, h⟩ => h.elim⟩
  | .app _ _, X, Wx, sc, N, k, pe, c, tk, ok, h => ⟨fun _ _ _ _ _ _ ⟨_, _, _, _, _, h⟩ => h.elim⟩
  | .ext _ _, X, Wx, sc, N, k, pe, c, tk, ok, h => ⟨fun _ _ _ _ _ _ ⟨_, _, _, _, _, h⟩ => h.elim⟩
  | .comp _ _ _ _ _, X, Wx, sc, N, k, pe, c, tk, ok, h => ⟨fun _ _ _ _ _ _ ⟨_, _, _, _, _, h⟩ => h.elim⟩
  | .sl2 _, X, Wx, sc, N, k, pe, c, tk, ok, h => ⟨fun _ _ _ _ _ _ ⟨_, _, _, _, _, h⟩ => h.elim⟩
  | .lrg1 _, X, Wx, sc, N, k, pe, c, tk, ok, h => ⟨fun _ _ _ _ _ _ ⟨_, _, _, _, _, h⟩ => h.elim⟩
  | .lrg2 _ _, X, Wx, sc, N, k, pe, c, tk, ok, h => ⟨fun _ _ _ _ _ _ ⟨_, _, _, _, _, h⟩ => h.elim⟩
  | .lrg3 _ _ _, X, Wx, sc, N, k, pe, c, tk, ok, h => ⟨fun _ _ _ _ _ _ ⟨_, _, _, _, _, h⟩ => h.elim⟩
  | .frz _, X, Wx, sc, N, k, pe, c, tk, ok, h => ⟨fun _ _ _ _ _ _ ⟨_, _, _, _, _, h⟩ => h.elim⟩
  | .any, X, Wx, sc, N, k, pe, c, tk, ok, h => ⟨fun _ _ _ _ _ _ ⟨_, _, _, _, _, h⟩ => h.elim⟩
  | .isk _ _ _ _, X, Wx, sc, N, k, pe, c, tk, ok, h => ok.elim
  | .cnt _ _, X, Wx, sc, N, k, pe, c, tk, ok, h => ⟨fun _ _ _ _ _ _ ⟨_, _, _, _, _, h⟩ => h.elim⟩
  | .idx _ _, X, Wx, sc, N, k, pe, c, tk, ok, h => ⟨fun _ _ _ _ _ _ ⟨_, _, _, _, _, h⟩ => h.elim⟩
  | .callE _ _ _, X, Wx, sc, N, k, pe, c, tk, ok, h => ⟨fun _ _ _ _ _ _ ⟨_, _, _, _, _, h⟩ => h.elim⟩
  | .opn _ _ _, X, Wx, sc, N, k, pe, c, tk, ok, h => ⟨fun _ _ _ _ _ _ ⟨_, _, _, _, _, h⟩ => h.elim⟩
  | .newd _, X, Wx, sc, N, k, pe, c, tk, ok, h => ⟨fun _ _ _ _ _ _ ⟨_, _, _, _, _, h⟩ => h.elim⟩
  | .mk _ _ _, X, Wx, sc, N, k, pe, c, tk, ok, h => ⟨fun _ _ _ _ _ _ ⟨_, _, _, _, _, h⟩ => h.elim⟩
  | .tupw _, X, Wx, sc, N, k, pe, c, tk, ok, h => ⟨fun _ _ _ _ _ _ ⟨_, _, _, _, _, h⟩ => h.elim⟩
  | .inT es a, X, Wx, sc, N, k, pe, c, tk, ok, h => by
    cases pe <;> try (simp [chk] at h; done)
    rename_i l ops cs pos
    cases l <;> try (simp [chk] at h; done)
    rcases ops with _ | ⟨op, _ | ⟨op2, ops⟩⟩ <;> rcases cs with _ | ⟨pb, _ | ⟨pb2, cs⟩⟩ <;> try (simp [chk] at h; done)
    simp only [chk, Bool.and_eq_true, decide_eq_true_eq] at h
    obtain ⟨⟨⟨⟨rfl, h0⟩, h1⟩, h2⟩, h3⟩ := h
    rename_i j0 p0
    exact st_inT c.hu h1 (snd_A es X Wx sc N k _ c tk ok.1 h2) (snd_E a X Wx sc N k _ c tk ok.2 h3) fun ρ S ws S' z => (evs_len h2 ρ S ws S' z).trans h0
  | .meth a x f es, X, Wx, sc, N, k, pe, c, tk, ok, h => by
    cases pe <;> try (simp [chk] at h; done)
    rename_i pf pes kws pos
    cases kws <;> try (simp [chk] at h; done)
    cases pf <;> try (simp [chk] at h; done)
    simp only [chk, Bool.and_eq_true, decide_eq_true_eq] at h
    obtain ⟨⟨⟨⟨⟨rfl, h1⟩, h2⟩, h3⟩, h4⟩, h5⟩ := h
    have := se_methE (pos := pos) c tk ok.1 (snd_E a X Wx sc N k _ c tk ok.2.1 h4) (snd_A es X Wx sc N k _ c tk ok.2.2 h5) h1 h2 h3 h5
    refine L2PT.weaken (st_val this (by intro _; rfl)) ?_
    rintro σ H Q ⟨ω, ρ, S, hr, sl, h⟩
    exact ⟨ω, ρ, S, hr, sl, h⟩
theorem snd_And : ∀ (es : Es) (X : Cx) (Wx : WX) (sc : Scope) (N : List Str) (k : Nat) (pes : List Expr) (pos : Pos), CtxQ X sc N k → Takes X Wx → OkEs cl X k es → chks es sc N pes = true → SE X cl Wx (.BoolOp .And pes pos) (evAnd es)
  | .nil, X, Wx, sc, N, k, pes, pos, c, tk, ok, h => ⟨fun _ _ _ _ _ _ ⟨_, _, _, _, _, h⟩ => h.elim⟩
  | .cons e .nil, X, Wx, sc, N, k, pes, pos, c, tk, ok, h => by
    rcases pes with _ | ⟨pe, _ | ⟨_, _⟩⟩ <;> try (simp [chks] at h; done)
    simp only [chks, Bool.and_eq_true] at h
    exact se_one (snd_E e X Wx sc N k _ c tk ok.1 h.1.2)
  | .cons e (.cons e2 es), X, Wx, sc, N, k, pes, pos, c, tk, ok, h => by
    rcases pes with _ | ⟨pe, _ | ⟨pe2, pes⟩⟩ <;> try (simp [chks] at h; done)
    have h' := h
    rw [chks] at h
    simp only [Bool.and_eq_true] at h
    exact se_and (snd_E e X Wx sc N k _ c tk ok.1 h.1.2) (snd_And (.cons e2 es) X Wx sc N k _ _ c tk ok.2 h.2)
theorem snd_Or : ∀ (es : Es) (X : Cx) (Wx : WX) (sc : Scope) (N : List Str) (k : Nat) (pes : List Expr) (pos : Pos), CtxQ X sc N k → Takes X Wx → OkEs cl X k es → chks es sc N pes = true → SE X cl Wx (.BoolOp .Or pes pos) (evOr es)
  | .nil, X, Wx, sc, N, k, pes, pos, c, tk, ok, h => ⟨fun _ _ _ _ _ _ ⟨_, _, _, _, _, h⟩ => h.elim⟩
  | .cons e .nil, X, Wx, sc, N, k, pes, pos, c, tk, ok, h => by
    rcases pes with _ | ⟨pe, _ | ⟨_, _⟩⟩ <;> try (simp [chks] at h; done)
    simp only [chks, Bool.and_eq_true] at h
    exact se_one (snd_E e X Wx sc N k _ c tk ok.1 h.1.2)
  | .cons e (.cons e2 es), X, Wx, sc, N, k, pes, pos, c, tk, ok, h => by
    rcases pes with _ | ⟨pe, _ | ⟨pe2, pes⟩⟩ <;> try (simp [chks] at h; done)
    rw [chks] at h
    simp only [Bool.and_eq_true] at h
    exact se_or (snd_E e X Wx sc N k _ c tk ok.1 h.1.2) (snd_Or (.cons e2 es) X Wx sc N k _ _ c tk ok.2 h.2)
theorem snd_AndT : ∀ (es : Es) (X : Cx) (Wx : WX) (sc : Scope) (N : List Str) (k : Nat) (pes : List Expr) (pos : Pos), CtxQ X sc N k → Takes X Wx → OkEs cl X k es → chks es sc N pes = true → SW X cl Wx (.BoolOp .And pes pos) (evAndT es)
  | .nil, X, Wx, sc, N, k, pes, pos, c, tk, ok, h => ⟨fun _ _ _ _ _ _ _ ⟨_, _, _, _, _, h⟩ => h.elim⟩
  | .cons e .nil, X, Wx, sc, N, k, pes, pos, c, tk, ok, h => by
    rcases pes with _ | ⟨pe, _ | ⟨_, _⟩⟩ <;> try (simp [chks] at h; done)
    simp only [chks, Bool.and_eq_true] at h
    exact sw_and1 (snd_T e X Wx sc N k _ c tk ok.1 h.1.2)
  | .cons e (.cons e2 es), X, Wx, sc, N, k, pes, pos, c, tk, ok, h => by
    rcases pes with _ | ⟨pe, _ | ⟨pe2, pes⟩⟩ <;> try (simp [chks] at h; done)
    rw [chks] at h
    simp only [Bool.and_eq_true] at h
    exact sw_and (snd_T e X Wx sc N k _ c tk ok.1 h.1.2) (snd_AndT (.cons e2 es) X Wx sc N k _ _ c tk ok.2 h.2)
theorem snd_OrT : ∀ (es : Es) (X : Cx) (Wx : WX) (sc : Scope) (N : List Str) (k : Nat) (pes : List Expr) (pos : Pos), CtxQ X sc N k → Takes X Wx → OkEs cl X k es → chks es sc N pes = true → SW X cl Wx (.BoolOp .Or pes pos) (evOrT es)
  | .nil, X, Wx, sc, N, k, pes, pos, c, tk, ok, h => ⟨fun _ _ _ _ _ _ _ ⟨_, _, _, _, _, h⟩ => h.elim⟩
  | .cons e .nil, X, Wx, sc, N, k, pes, pos, c, tk, ok, h => by
    rcases pes with _ | ⟨pe, _ | ⟨_, _⟩⟩ <;> try (simp [chks] at h; done)
    simp only [chks, Bool.and_eq_true] at h
    exact sw_or1 (snd_T e X Wx sc N k _ c tk ok.1 h.1.2)
  | .cons e (.cons e2 es), X, Wx, sc, N, k, pes, pos, c, tk, ok, h => by
    rcases pes with _ | ⟨pe, _ | ⟨pe2, pes⟩⟩ <;> try (simp [chks] at h; done)
    rw [chks] at h
    simp only [Bool.and_eq_true] at h
    exact sw_or (snd_T e X Wx sc N k _ c tk ok.1 h.1.2) (snd_OrT (.cons e2 es) X Wx sc N k _ _ c tk ok.2 h.2)
theorem snd_A : ∀ (es : Es) (X : Cx) (Wx : WX) (sc : Scope) (N : List Str) (k : Nat) (pes : List Expr), CtxQ X sc N k → Takes X Wx → OkEs cl X k es → chks es sc N pes = true → SA X cl Wx pes (evs es)
  | .nil, X, Wx, sc, N, k, pes, c, tk, ok, h => by
    cases pes <;> try (simp [chks] at h; done)
    exact sa_nil
  | .cons e es, X, Wx, sc, N, k, pes, c, tk, ok, h => by
    rcases pes with _ | ⟨pe, pes⟩ <;> try (simp [chks] at h; done)
    simp only [chks, Bool.and_eq_true] at h
    exact sa_cons h.1.1 (snd_E e X Wx sc N k _ c tk ok.1 h.1.2) (snd_A es X Wx sc N k _ c tk ok.2 h.2)
theorem snd_All : ∀ (es : Es) (X : Cx) (Wx : WX) (sc : Scope) (N : List Str) (k : Nat), CtxQ X sc N k → Takes X Wx → OkEs cl X k es → AllE (fun e => ∀ pe, chk e sc N pe = true → SE X cl Wx pe (ev e)) es
  | .nil, X, Wx, sc, N, k, c, tk, ok => trivial
  | .cons e es, X, Wx, sc, N, k, c, tk, ok => ⟨fun pe h => snd_E e X Wx sc N k pe c tk ok.1 h, snd_All es X Wx sc N k c tk ok.2⟩
theorem snd_O : ∀ (o : Eo) (X : Cx) (Wx : WX) (sc : Scope) (N : List Str) (k : Nat) (po : Option Expr), CtxQ X sc N k → Takes X Wx → OkEo cl X k o → chko o sc N po = true → SO X cl Wx po (evo o)
  | .non, X, Wx, sc, N, k, po, c, tk, ok, h => by
    cases po <;> try (simp [chko] at h; done)
    exact so_non
  | .som e, X, Wx, sc, N, k, po, c, tk, ok, h => by
    cases po <;> try (simp [chko] at h; done)
    simp only [chko] at h
    refine L2PO.weaken (so_som (snd_E e X Wx sc N k _ c tk ok h)) ?_
    rintro σ H Q ⟨ω, ρ, S, hr, sl, h⟩
    exact ⟨ω, ρ, S, hr, sl, h⟩
theorem snd_C : ∀ (o : Eo) (X : Cx) (Wx : WX) (sc : Scope) (N : List Str) (k : Nat) (po : List Expr), CtxQ X sc N k → Takes X Wx → OkEo cl X k o → chkC o sc N po = true → PTs X po (rdT X.K X.mg cl Wx (evC o))
  | .non, X, Wx, sc, N, k, po, c, tk, ok, h => by
    cases po <;> try (simp [chkC] at h; done)
    refine ⟨fun pins s σ H Q I h => pts_nil.run pins s σ H Q I ?_⟩
    obtain ⟨ω, ρ, S, hr, sl, h⟩ := h
    exact Post.now (S := S) h hr
  | .som e, X, Wx, sc, N, k, po, c, tk, ok, h => by
    rcases po with _ | ⟨pe, _ | ⟨_, _⟩⟩ <;> try (simp [chkC] at h; done)
    simp only [chkC] at h
    exact pts_one (snd_T e X Wx sc N k _ c tk ok h)
theorem snd_It : ∀ (it : It) (X : Cx) (Wx : WX) (sc : Scope) (N : List Str) (k : Nat) (tg pe : Expr), CtxQ X sc N k → Takes X Wx → OkIt cl X k it → chkIt it sc N (tgK tg) pe = true → SI X cl Wx tg pe (evIt it)
  | .seq e, X, Wx, sc, N, k, tg, pe, c, tk, ok, h => by
    simp only [chkIt] at h
    exact si_seq (snd_E e X Wx sc N k _ c tk ok h)
  | .rng1 a, X, Wx, sc, N, k, tg, pe, c, tk, ok, h => by
    cases pe <;> try (simp [chkIt] at h; done)
    rename_i pf pes kws pos
    rcases pes with _ | ⟨pa, _ | ⟨_, _⟩⟩ <;> rcases kws with _ | ⟨_, _⟩ <;> try (simp [chkIt] at h; done)
    simp only [chkIt, Bool.and_eq_true] at h
    obtain ⟨⟨⟨h1, h2⟩, h3⟩, h4⟩ := h
    obtain ⟨p, rfl⟩ := nm_of h1
    exact si_r1 (gl_of c.scE h2) (c.bf _ (by decide +kernel)) h3 (snd_E a X Wx sc N k _ c tk ok h4)
  | .rng2 a b, X, Wx, sc, N, k, tg, pe, c, tk, ok, h => by
    cases pe <;> try (simp [chkIt] at h; done)
    rename_i pf pes kws pos
    rcases pes with _ | ⟨pa, _ | ⟨pb, _ | ⟨_, _⟩⟩⟩ <;> rcases kws with _ | ⟨_, _⟩ <;> try (simp [chkIt] at h; done)
    simp only [chkIt, Bool.and_eq_true] at h
    obtain ⟨⟨⟨⟨⟨h1, h2⟩, h3⟩, h4⟩, h5⟩, h6⟩ := h
    obtain ⟨p, rfl⟩ := nm_of h1
    exact si_r2 (gl_of c.scE h2) (c.bf _ (by decide +kernel)) h3 h4 (snd_E a X Wx sc N k _ c tk ok.1 h5) (snd_E b X Wx sc N k _ c tk ok.2 h6)
  | .enum a, X, Wx, sc, N, k, tg, pe, c, tk, ok, h => by
    cases tg <;> try (simp [chkIt, tgK] at h; done)
    cases pe <;> try (simp [chkIt, tgK] at h; done)
    rename_i pf pes kws pos
    rcases pes with _ | ⟨pa, _ | ⟨_, _⟩⟩ <;> rcases kws with _ | ⟨_, _⟩ <;> try (simp [chkIt, tgK] at h; done)
    simp only [chkIt, tgK, Bool.and_eq_true] at h
    obtain ⟨⟨⟨h1, h2⟩, h3⟩, h4⟩ := h
    obtain ⟨p, rfl⟩ := nm_of h1
    exact si_enum (gl_of c.scE h2) (c.bf _ (by decide +kernel)) h3 (snd_E a X Wx sc N k _ c tk ok h4)
  | .enumN a, X, Wx, sc, N, k, tg, pe, c, tk, ok, h => by
    cases tg <;> try (simp [chkIt, tgK] at h; done)
    cases pe <;> try (simp [chkIt, tgK] at h; done)
    rename_i pf pes kws pos
    rcases pes with _ | ⟨pa, _ | ⟨_, _⟩⟩ <;> rcases kws with _ | ⟨_, _⟩ <;> try (simp [chkIt, tgK] at h; done)
    simp only [chkIt, tgK, Bool.and_eq_true] at h
    obtain ⟨⟨⟨h1, h2⟩, h3⟩, h4⟩ := h
    obtain ⟨p, rfl⟩ := nm_of h1
    exact si_enumN (gl_of c.scE h2) (c.bf _ (by decide +kernel)) h3 (snd_E a X Wx sc N k _ c tk ok h4)
  | .zip a b, X, Wx, sc, N, k, tg, pe, c, tk, ok, h => by
    cases tg <;> try (simp [chkIt, tgK] at h; done)
    cases pe <;> try (simp [chkIt, tgK] at h; done)
    rename_i pf pes kws pos
    rcases pes with _ | ⟨pa, _ | ⟨pb, _ | ⟨_, _⟩⟩⟩ <;> rcases kws with _ | ⟨_, _⟩ <;> try (simp [chkIt, tgK] at h; done)
    simp only [chkIt, tgK, Bool.and_eq_true] at h
    obtain ⟨⟨⟨⟨⟨h1, h2⟩, h3⟩, h4⟩, h5⟩, h6⟩ := h
    obtain ⟨p, rfl⟩ := nm_of h1
    exact si_zip (gl_of c.scE h2) (c.bf _ (by decide +kernel)) h3 h4 (snd_E a X Wx sc N k _ c tk ok.1 h5) (snd_E b X Wx sc N k _ c tk ok.2 h6)
end
end
end Q
set_option Elab.async false
set_option maxRecDepth 100000
set_option linter.all false
set_option maxHeartbeats 2000000
/-! Statements. -/
namespace Q
open PySem PySem.Spec PyProof.Rows L2
section
variable (K : PySem.W.Frag) (mg : Str → Option Value) (cl : Nat → Addr) (Wx : WX)
def PostS (ω : Wd) (D : Ends) (r : Fl) : Prop := match r with
  | .nx ρ' S' => ∀ (ω' : Wd) (σ' : L2.St) (H' : Hp), ω.le ω' → HRep K mg ω' S' H' → Sl K mg ω' ρ' σ' → D.nx σ' H'
  | .rt w S' => ∀ (ω' : Wd) (H' : Hp) (x : V), ω.le ω' → HRep K mg ω' S' H' → RepW K mg ω' w x → D.rt x H'
  | .exc c ρ' S' => ∀ (ω' : Wd) (σ' : L2.St) (H' : Hp), ω.le ω' → HRep K mg ω' S' H' → Sl K mg ω' ρ' σ' → Wx (.ref (cl c)) none σ' H'
  | .stuck => False
def rdS (f : Env → Store → Fl) : TS := fun D σ H => ∃ ω ρ S, HRep K mg ω S H ∧ Sl K mg ω ρ σ ∧ PostS K mg cl Wx ω D (f ρ S)
end
section
variable {K : PySem.W.Frag} {mg : Str → Option Value} {cl : Nat → Addr} {Wx : WX} {σ : L2.St} {ω ω1 : Wd} {ρ : Env} {D D' : Ends} {S : Store} {H : Hp}
theorem PostS.le {r : Fl} (h : PostS K mg cl Wx ω D r) (l : ω.le ω1) : PostS K mg cl Wx ω1 D r := by
  cases r with
  | nx ρ' S' => exact fun ω' σ' H' l' hr sl => h ω' σ' H' (l.trans l') hr sl
  | rt w S' => exact fun ω' H' x l' hr rx => h ω' H' x (l.trans l') hr rx
  | exc c ρ' S' => exact fun ω' σ' H' l' hr sl => h ω' σ' H' (l.trans l') hr sl
  | stuck => exact h
theorem PostS.flE {α : Type} {r : R α} {f : α → Store → Fl} (h : PostS K mg cl Wx ω D (r.flE ρ f)) (sl : Sl K mg ω ρ σ) : Post K mg cl Wx σ ω r fun ω' S' H' v => PostS K mg cl Wx ω' D (f v S') := by
  cases r with
  | ok v S' => exact fun ω' H' l hr => PostS.le (r := f v S') h l
  | exc c S' => exact fun ω' H' l hr => h ω' σ H' l hr (sl.mono l)
  | stuck => exact h
theorem PostS.then_ {r : Fl} {f : Env → Store → Fl} (h : PostS K mg cl Wx ω D (r.andThen f)) : PostS K mg cl Wx ω { D with nx := rdS K mg cl Wx f D } r := by
  cases r with
  | nx ρ' S' => exact fun ω' σ' H' l hr sl => ⟨ω', ρ', S', hr, sl, PostS.le (r := f ρ' S') h l⟩
  | rt w S' => exact h
  | exc c ρ' S' => exact h
  | stuck => exact h
theorem PostS.now {ρ' : Env} (h : PostS K mg cl Wx ω D (.nx ρ' S)) (hr : HRep K mg ω S H) (sl : Sl K mg ω ρ' σ) : D.nx σ H := h ω σ H (.refl _) hr sl
end
theorem L2PS.weaken {X : Cx} {e : Stmt} {t t' : TS} (h : PS X e t) (k : ∀ D σ H, t' D σ H → t D σ H) : PS X e t' := ⟨fun p s σ H D I q => h.run p s σ H D I (k D σ H q)⟩
theorem L2PSs.weaken {X : Cx} {e : List Stmt} {t t' : TS} (h : PSs X e t) (k : ∀ D σ H, t' D σ H → t D σ H) : PSs X e t' := ⟨fun p s σ H D I q => h.run p s σ H D I (k D σ H q)⟩
abbrev SS (X : Cx) (cl : Nat → Addr) (Wx : WX) (ps : Stmt) (f : Env → Store → Fl) : Prop := PS X ps (rdS X.K X.mg cl Wx f)
abbrev SB (X : Cx) (cl : Nat → Addr) (Wx : WX) (ps : List Stmt) (f : Env → Store → Fl) : Prop := PSs X ps (rdS X.K X.mg cl Wx f)
/-! ### how a store is written -/
def swC (sc : Scope) (ts vs : List Expr) : Option (Option (List Str)) :=
  if !(ts.length == 2 || ts.length == 3) || vs.length != ts.length then some none
  else if vs.any (fun | .Starred .. => true | _ => false) then some none
  else
    let line := (ts.head?.map (·.pos.line)).getD 0
    let names := ts.filterMap fun
      | .Name id pos => if sc.names.lookup id == some .local && pos.line == line then some id else none
      | _ => none
    if names.length != ts.length || names.eraseDups.length != names.length then some none
    else if vs.all (foldedForSure 8) then some none
    else if vs.all (constantsAlone 8) then none
    else some (some names)
theorem sw_of {env : PySem.Env} {sc : Scope} {ts vs : List Expr} {k k2 : Nat} {p p2 : Pos} {r : Option (List Str)} (he : env.scope = sc) (hk : sc.kind = .function) (h : swC sc ts vs = some r) :
    swappedStores [.Tuple ts k p] (.Tuple vs k2 p2) env = pure r := by
  subst he
  have hb : env.blockKind = .function := by unfold Env.blockKind; rw [hk]; rfl
  have hb2 : (env.blockKind != .function) = false := by rw [hb]; rfl
  have hn : ∀ id, env.kindOf id = env.scope.names.lookup id := fun _ => rfl
  unfold swC at h
  unfold swappedStores
  simp only [hb2, Bool.or_false, hn]
  dsimp only at h
  split at h
  · rename_i h1
    cases h
    exact if_pos h1
  rename_i h1
  refine (if_neg h1).trans ?_
  split at h
  · rename_i h2
    cases h
    exact if_pos h2
  rename_i h2
  refine (if_neg h2).trans ?_
  split at h
  · rename_i h3
    cases h
    exact if_pos h3
  rename_i h3
  refine (if_neg h3).trans ?_
  split at h
  · rename_i h4
    cases h
    exact if_pos h4
  rename_i h4
  refine (if_neg h4).trans ?_
  split at h
  · cases h
  · rename_i h5
    cases h
    refine (if_neg h5).trans ?_
    rfl
end Q
set_option Elab.async false
set_option maxRecDepth 100000
set_option linter.all false
set_option maxHeartbeats 2000000
/-! Defs that are called where an error is handled; except clauses. -/
namespace Q
open PySem PySem.Spec PyProof.Rows L2
abbrev SpC := Addr × Obj → List V → Hp → VK → Prop
/-- what a def promises that is called on the error that is handled, and raises nothing -/
structure FnC (P : Program) (w : World) (K : PySem.W.Frag) (mg : Str → Option Value) (base : Heap) (k : Nat) (f : Addr) (fd : FuncData) (ps : List Str) (sp : SpC) : Prop where
  len : ∀ p vs H Q, sp p vs H Q → vs.length = ps.length
  run : ∀ (A : Around) (outer : List PySem.Env) (s : Shared) (H : Hp) (args : Args) (us : List Value) (vs : List V) (Q : VK) (p : Addr × Obj), L2H.RoomH k A → L2H.PinOk outer H s p → Env0 P w K mg base A outer s H →
    BindsTo s fd args (ps.zip us) → Vals vs us → sp p vs H Q → codeAny (model P w) A (.call (.ref f) args) (CR (L2.CX P w) outer P w H s Q (fun _ _ _ => False)) s
def spC (K : PySem.W.Frag) (mg : Str → Option Value) (cl : Nat → Addr) (cs : List Nat) (f : Nat → Addr → Fn) : SpC := fun p vs H Q => vs = [.ref p.1] ∧ ∃ (c : Nat) (ω : Wd) (S : Store) (d : D) (S2 : Store),
  c ∈ cs ∧ Zc (.ref (cl c)) none p.2 ∧ (∃ us, p.2.data = .fields us) ∧ HRep K mg ω S H ∧ f c p.1 [.at_ p.1] S = .ok (.d d) S2 ∧ ∀ (ω' : Wd) (H' : Hp) (x : V), ω.le ω' → HRep K mg ω' S2 H' → RepD K mg ω'.fz d x → Q x H'
def HotCall (P : Program) (w : World) (K : PySem.W.Frag) (mg : Str → Option Value) (base : Heap) (cl : Nat → Addr) (k : Nat) (x : Str) (f : Nat → Addr → Fn) (cs : List Nat) : Prop :=
  ∃ (a : Addr) (fd : FuncData) (ps : List Str), mg x = some (.ref a) ∧ PySem.W.keepIn K (.ref a) = true ∧ Binds K fd ps [] ∧ FnC P w K mg base k a fd ps (spC K mg cl cs f) ∧
    ∀ c ∈ cs, ∀ (a : Addr) (S : Store), f c a [.at_ a] S = f c 0 [.at_ 0] S
/-- what an except clause leans on -/
def TryOk (P : Program) (w : World) (K : PySem.W.Frag) (mg : Str → Option Value) (base : Heap) (cl : Nat → Addr) (k : Nat) (o : Option (Str × (Nat → Addr → Fn))) (cs : List Nat) : Prop :=
  (∃ C, mg "DueError" = some (.ref C) ∧ ∀ c ∈ cs, PySem.W.exmOne K (.ref (cl c)) (.ref C) = some true) ∧ match o with
    | none => True
    | some q => HotCall P w K mg base cl k q.1 q.2 cs
section
variable {X : Cx} {cl : Nat → Addr} {k : Nat}
theorem pe_callC {a : Addr} {oe : Obj} {pn : List (Addr × Obj)} {i : Nat} {n x : Str} {f : Nat → Addr → Fn} {cs : List Nat} {q p pos : Pos} (F : HotCall X.prog X.w X.K X.mg X.base cl k x f cs) (room : Room k X.A) (hg : Gl X x) (hd : (x == ("__debug__" : Str)) = false)
    (hN : X.N[i]? = some n) (hv : Vis X.env.scope n) (hn : (n == ("__debug__" : Str)) = false) (hn2 : (n == ("__classdict__" : Str)) = false) :
    PE (X.suite a ((a, oe) :: pn)) (.Call (.Name x q) [.Name n p] [] pos) (fun σ H Q => σ[i]? = some (some (.ref a)) ∧ spC X.K X.mg cl cs f (a, oe) [.ref a] H Q) := by
  refine ⟨fun pins s σ H Q I h => ?_⟩
  obtain ⟨hs, hsp⟩ := h
  obtain ⟨af, fd, ps, h1, h2, h3, h4, _⟩ := F
  refine wpAny_Call_Name_kw (ld_glob I hg h1 ?_ hd)
  have args : PA (X.suite a ((a, oe) :: pn)) [.Name n p] _ := pa_cons (pe_var (pos := p) hN hv hn hn2) pa_nil (star_cons rfl)
  refine PySem.W.callWith_K (h₀ := X.base) I.ok.mod.kin h2 (thn (args.run pos pins s σ H (fun vs H1 => vs = [.ref a] ∧ H1 = H) I ⟨.ref a, hs, rfl, rfl⟩) fun us s1 ⟨vs, H1, I1, r1, ev, eH⟩ => ⟨I1.kIn, ?_⟩) (star_cons rfl) (star_any rfl)
  subst ev eH
  have mem : ((a, oe) : Addr × Obj) ∈ (X.suite a ((a, oe) :: pn)).pn ++ pins := List.mem_append_left _ (List.mem_cons_self ..)
  obtain ⟨p1, p2, p3, p4, p5⟩ := I1.pin (a, oe) mem
  have pin : L2H.PinOk (X.suite a ((a, oe) :: pn)).stack H1 s1 (a, oe) := ⟨p1, p2, fun hm => (List.mem_cons.mp (I1.stkSub a hm)).elim p3 p4, p5⟩
  have hl : us.length = ps.length := by rw [← r1.length]; exact h4.len _ _ _ _ hsp
  have b := h3 s1 us I1.kIn (by rw [List.append_nil]; exact hl)
  rw [List.append_nil] at b
  have rm : L2H.RoomH k (X.suite a ((a, oe) :: pn)).A := ⟨room.dp, room.un⟩
  refine wpAny_call (codeAny_mono (h4.run _ _ s1 H1 ⟨us, []⟩ us _ Q (a, oe) rm pin I1.env0 b r1 hsp) fun r s' hq => ?_)
  rcases r with e | fl
  · obtain ⟨_, _, _, _, _, _, _, _, _, _, _, _, z⟩ := hq
    exact z.elim
  · rcases fl with _ | _ | _ | u
    · exact hq.elim
    · exact hq.elim
    · exact hq.elim
    · exact I1.after hq
end
end Q
set_option Elab.async false
set_option maxRecDepth 100000
set_option linter.all false
set_option maxHeartbeats 2000000
/-! Statements, defs. -/
namespace Q
open PySem PySem.Spec PyProof.Rows L2
theorem sw_no {e : Expr} {t : Option Expr} {l : Nat} {env : PySem.Env} (h : noComp e = true) : swapsWith e t l env = pure false := by
  cases e <;> first | rfl | cases h
/-- a comprehension's store that stands behind its block -/
def swL (sc scope : Scope) (y : Str) (py p : Pos) : Bool := decide (sc.names.lookup y = some .local) && (py.line == p.line) && !(scope.names.any fun (n, k) => n == y && (k == .local || k == .cell))
theorem swL_eq {elt : Expr} {gs : List Comprehension} {scope sc : Scope} {p py : Pos} {y : Str} {l : Nat} {env : PySem.Env} (he : env.scope = sc) (hk : sc.kind = .function) :
    swapsWith (.ListComp elt gs scope p) (some (.Name y py)) l env = pure (swL sc scope y py p) := by
  subst he
  have hb : env.blockKind = .function := by unfold Env.blockKind; rw [hk]; rfl
  have hn : env.kindOf y = env.scope.names.lookup y := rfl
  unfold swapsWith swL
  simp only [hb, hn, Expr.pos]
  have e : (List.lookup y env.scope.names == some NameKind.local) = decide (List.lookup y env.scope.names = some NameKind.local) := by
    cases List.lookup y env.scope.names with
    | none => rfl
    | some k => cases k <;> rfl
  rw [e]
  first
    | rfl
    | (congr 1)
def setOk (sc : Scope) (y : Str) (py : Pos) : Expr → Bool
  | .ListComp _ _ scope p => !(swL sc scope y py p)
  | e => noComp e
theorem set_sw {e : Expr} {sc : Scope} {py : Pos} {y : Str} {l : Nat} {env : PySem.Env} (he : env.scope = sc) (hk : sc.kind = .function) (h : setOk sc y py e = true) : swapsWith e (some (.Name y py)) l env = pure false := by
  cases e <;> first
    | exact sw_no h
    | (rw [swL_eq he hk]; simp only [setOk, Bool.not_eq_true'] at h; rw [h])
def tupTs : Expr → List Expr
  | .Tuple vs _ _ => vs
  | _ => []
/-- tuple targets from a value: how the stores go -/
def tgtOk (sc : Scope) (t e : Expr) : Bool := match t, e with
  | .Tuple ts _ _, .Tuple vs _ _ => (match swC sc ts vs with
    | some none => true
    | _ => false)
  | .Tuple _ _ _, e => noComp e && !(isTupE e)
  | _, _ => false
theorem tgt_sw {t e : Expr} {sc : Scope} {l : Nat} {env : PySem.Env} (he : env.scope = sc) (hk : sc.kind = .function) (h : tgtOk sc t e = true) : swapsWithSole [t] e l env = pure false ∧ swappedStores [t] e env = pure none := by
  cases t <;> try (simp [tgtOk] at h; done)
  rename_i ts k p
  cases e with
  | Tuple vs k2 p2 =>
    refine ⟨rfl, ?_⟩
    simp only [tgtOk] at h
    split at h
    · rename_i q
      exact sw_of he hk q
    · cases h
  | _ => first
    | (refine ⟨?_, rfl⟩; first | rfl | (simp [tgtOk, noComp] at h; done))
    | (simp [tgtOk, noComp] at h; done)
/-- what a store is written of -/
def stSub (o : StOp) (e : Expr) : Option (Expr × List Expr) := match o, e with
  | .fset x, .Attribute pa m _ => if m = x then some (pa, []) else none
  | .lput, .Subscript pa pb _ => if noSlice pb = true then some (pa, [pb]) else none
  | .dput, .Subscript pa pb _ => if noSlice pb = true then some (pa, [pb]) else none
  | .putT, .Subscript pa (.Tuple pes _ _) _ => if pes.length = 2 then some (pa, pes) else none
  | _, _ => none
def namesI : List Nat → List Str → Scope → List Expr → Bool
  | [], _, _, [] => true
  | i :: is, N, sc, .Name x _ :: ps => decide (N[i]? = some x) && locB sc x && namesI is N sc ps
  | _, _, _, _ => false
mutual
/-- the statement is the program's -/
def chkS : St → Scope → List Str → Stmt → Bool
  | .set i e, sc, N, .Assign [.Name x py] pe _ => decide (N[i]? = some x) && locB sc x && setOk sc x py pe && chk e sc N pe
  | .setc i own tg it cond elt, sc, N, .Assign [.Name x py] (.ListComp pelt gens scope p) _ =>
      decide (N[i]? = some x) && decide (sc.names.lookup x = some .local) && swL sc scope x py p && chk (.comp own tg it cond elt) sc N (.ListComp pelt gens scope p)
  | .tgt t e, sc, N, .Assign [pt] pe _ => isTupE pt && tgtOk sc pt pe && chkG sc N t pt && chk e sc N pe
  | .par i j a b, sc, N, .Assign [.Tuple [.Name x px, .Name y py] _ pt] (.Tuple [pa, pb] _ pv) _ =>
      decide (N[i]? = some x) && decide (N[j]? = some y) && decide (i ≠ j) && decide (sc.names.lookup x = some .local) && decide (sc.names.lookup y = some .local) && plainE pa && plainE pb &&
      decide (swC sc [.Name x px, .Name y py] [pa, pb] = some (some [x, y])) && chk a sc N pa && chk b sc N pb
  | .ex e, sc, N, .Expr pe _ => noComp pe && chk e sc N pe
  | .ife c a b, sc, N, .If pc pa pb _ => chk c sc N pc && chkB a sc N pa && chkB b sc N pb
  | .for_ t it body, sc, N, .For pt pit pb [] _ => noSet pit && chkG sc N t pt && chkIt it sc N (tgK pt) pit && chkB body sc N pb
  | .whl _ c body, sc, N, .While pc pb [] _ => chk c sc N pc && chkB body sc N pb
  | .ret e, sc, N, .Return (some pe) _ => chk e sc N pe
  | .retN, _, _, .Return none _ => true
  | .rais _ x, sc, _, .Raise (some (.Call pf [.Constant (.str _) _ _] [] _)) none _ => nmIs pf x && glB sc x && plainN x
  | .any, _, _, _ => true
  | .sto o a es e, sc, N, .Assign [pt] pe _ => (match stSub o pt with
    | some q => noComp pe && chk e sc N pe && chk a sc N q.1 && chks es sc N q.2
    | none => false)
  | .unp is e, sc, N, .Assign [.Tuple pts j p] pe _ => tgtOk sc (.Tuple pts j p) pe && namesI is N sc pts && chk e sc N pe
  | .tryA body i x _ _, sc, N, .Try pb [.ExceptHandler (some (.Name y _)) (some n) [.Return (some (.Call pf [.Name m _] [] _)) _] _] [] [] _ =>
      decide (y = ("DueError" : Str)) && glB sc y && decide (N[i]? = some n) && decide (sc.names.lookup n = some .local) && decide (m = n) && plainN n && nmIs pf x && glB sc x && plainN x && chkB body sc N pb
  | .tryC body d _, sc, N, .Try pb [.ExceptHandler (some (.Name y _)) none [.Return (some (.Constant kc _ _)) _] _] [] [] _ => decide (y = ("DueError" : Str)) && glB sc y && cEq d kc && chkB body sc N pb
  | _, _, _, _ => false
def chkB : Sts → Scope → List Str → List Stmt → Bool
  | .nil, _, _, ps => ps.isEmpty
  | .cons s r, sc, N, ps => match s, ps with
    | .frzV _, ps => chkB r sc N ps
    | s, p :: ps => chkS s sc N p && chkB r sc N ps
    | _, [] => false
end
/-- a class that is raised -/
def RaiseOk (K : PySem.W.Frag) (mg : Str → Option Value) (a : Addr) (x : Str) : Prop :=
  mg x = some (.ref a) ∧ PySem.W.keepIn K (.ref a) = true ∧ PySem.W.excIn K a [.type "ValueError", .type "Exception", .type "BaseException", .type "object"] "ValueError.__new__" = true ∧
    PySem.W.subIn K (.ref a) (.type "BaseException") = some true ∧ PySem.W.typeIn K (.ref a) = some (.type "type")
mutual
def okS (P : Str → Fn → Prop) (G : Str → D → Prop) (M : MK → Prop) (Z : Nat → Str → Prop) (T : Option (Str × (Nat → Addr → Fn)) → List Nat → Prop) : St → Prop
  | .set _ e => okE P G M e
  | .setc _ own tg it cond elt => okE P G M (.comp own tg it cond elt)
  | .tgt _ e => okE P G M e
  | .par _ _ a b => okE P G M a ∧ okE P G M b
  | .ex e => okE P G M e
  | .ife c a b => okE P G M c ∧ okB P G M Z T a ∧ okB P G M Z T b
  | .for_ _ it body => okIt P G M it ∧ okB P G M Z T body
  | .whl _ c body => okE P G M c ∧ okB P G M Z T body
  | .ret e => okE P G M e
  | .retN => True
  | .rais c x => Z c x
  | .frzV _ => True
  | .any => True
  | .sto o a es e => (match o with
    | .fset x => M (.fld x)
    | _ => True) ∧ okE P G M a ∧ okEs P G M es ∧ okE P G M e
  | .unp _ e => okE P G M e
  | .tryA body _ x f cs => okB P G M Z T body ∧ T (some (x, f)) cs
  | .tryC body _ cs => okB P G M Z T body ∧ T none cs
def okB (P : Str → Fn → Prop) (G : Str → D → Prop) (M : MK → Prop) (Z : Nat → Str → Prop) (T : Option (Str × (Nat → Addr → Fn)) → List Nat → Prop) : Sts → Prop
  | .nil => True
  | .cons s r => okS P G M Z T s ∧ okB P G M Z T r
end
structure CtxS (X : Cx) (sc : Scope) (N : List Str) (k : Nat) extends CtxQ X sc N k where
  kind : sc.kind = .function
  sto : Stores X sc
  own : PassesOwn (model X.prog X.w) X.A X.env X.xe
  stk : X.stack = X.env :: X.outer
  frm : X.env.frame = some X.env.locals
section
variable {X : Cx} {cl : Nat → Addr} {Wx : WX}
variable {pa pb pc : Expr} {fa fb fc : Env → Store → R W} {ta tb : Env → Store → R Bool} {pos : Pos} {ga gb : Env → Store → Fl} {as bs : List Stmt}
theorem ss_set {i : Nat} {x : Str} {py : Pos} {sc : Scope} {N : List Str} {k : Nat} (c : CtxS X sc N k) (hi : N[i]? = some x) (hx : locB sc x = true) (hw : setOk sc x py pa = true) (ha : SE X cl Wx pa fa) :
    SS X cl Wx (.Assign [.Name x py] pa pos) (fun ρ S => (fa ρ S).flE ρ fun w S1 => .nx (ρ.set i (some w)) S1) := by
  obtain ⟨h1, h2⟩ := c.sto x hx
  refine L2PS.weaken (ps_set (i := i) (by rw [c.nm]; exact c.nd) (by rw [c.nm]; exact hi) h1 ha (set_sw c.scE c.kind hw) h2) ?_
  rintro D σ H ⟨ω, ρ, S, hr, sl, h⟩
  exact ⟨ω, ρ, S, hr, sl, (h.flE sl).mono fun ω1 S1 H1 w l1 hr1 h1 x rx => PostS.now h1 hr1 ((sl.mono l1).set i rx)⟩
theorem ss_setc {i : Nat} {y : Str} {py p : Pos} {sc scope : Scope} {N : List Str} {k : Nat} {tgE iter elt : Expr} {ifs : List Expr} {own : List (Str × Nat)} {tg : Tg} {fi : Env → Store → R (List D)} {fc : Env → Store → R Bool} {fe : Env → Store → R W}
    (c : CtxS X sc N k) (hi : N[i]? = some y) (hyl : sc.names.lookup y = some .local) (hw : swL sc scope y py p = true)
    (hit : SI X cl Wx tgE iter fi) (ok : BlkOk X.N X.env.scope scope own) (hin : tgIn tg (own.map (·.2)) = true)
    (hg : ∀ (s : Shared) (H : Hp) (C : Addr) (cells : List (Str × Addr)) (fp : List Addr), PG (X.blk s H scope (compEnvC scope cells C X.env) fp) tgE (rdG X.K X.mg tg))
    (ht : ∀ (s : Shared) (H : Hp) (C : Addr) (cells : List (Str × Addr)) (fp : List Addr), PTs (X.blk s H scope (compEnvC scope cells C X.env) fp) ifs (rdT X.K X.mg cl WF fc))
    (he : ∀ (s : Shared) (H : Hp) (C : Addr) (cells : List (Str × Addr)) (fp : List Addr), PE (X.blk s H scope (compEnvC scope cells C X.env) fp) elt (rdE X.K X.mg cl WF fe))
    (hs : noSet iter = true) : SS X cl Wx (.Assign [.Name y py] (.ListComp elt [⟨tgE, iter, ifs, 0⟩] scope p) pos) (fun ρ S => (compF tg (own.map (·.2)) fi fc fe ρ S).flE ρ fun w S1 => .nx (ρ.set i (some w)) S1) := by
  refine L2PS.weaken (ps_setLc (i := i) c.calm (by rw [c.nm]; exact c.nd) (by rw [c.nm]; exact hi) (by rw [c.scE]; exact hyl) (by rw [swL_eq c.scE c.kind, hw]) hit ok hg ht he (folded_of hs)) ?_
  rintro D σ H ⟨ω, ρ, S, hr, sl, h⟩
  refine comp_read hin σ H _ ⟨ω, ρ, S, hr, sl, (h.flE sl).mono fun ω1 S1 H1 w l1 hr1 h1 x rx => PostS.now h1 hr1 ((sl.mono l1).set i rx)⟩
theorem ss_tgt {sc : Scope} {N : List Str} {k : Nat} {t : Tg} {pt : Expr} (c : CtxS X sc N k) (ht : isTupE pt = true) (hw : tgtOk sc pt pa = true) (hg : chkG sc N t pt = true) (ha : SE X cl Wx pa fa) :
    SS X cl Wx (.Assign [pt] pa pos) (fun ρ S => (fa ρ S).flE ρ fun w S1 => ofEnv (tgW t w ρ) S1) := by
  have q := tgt_sw (l := pos.line) c.scE c.kind hw
  have hp : plainE pt = true := by cases pt <;> first | rfl | cases ht
  have pg := pg_of c.nm c.nd c.calm c.sto t pt hg
  refine L2PS.weaken (ps_asg ha pg q.1 q.2 (by rw [asg_cons hp]; rfl)) ?_
  rintro D σ H ⟨ω, ρ, S, hr, sl, h⟩
  refine ⟨ω, ρ, S, hr, sl, (h.flE sl).mono fun ω1 S1 H1 w l1 hr1 h1 x rx => ?_⟩
  cases t with
  | nm i => cases pt <;> first | (simp [chkG] at hg; done) | cases ht
  | tp ts =>
    cases w with
    | d x =>
      have h1' : PostS X.K X.mg cl Wx ω1 D (ofEnv (tgD (.tp ts) x ρ) S1) := h1
      cases e : tgD (.tp ts) x ρ with
      | none => rw [e] at h1'; exact h1'.elim
      | some ρ' =>
        rw [e] at h1'
        exact ⟨ω1, ρ, S1, x, ρ', hr1, sl.mono l1, rx.of_d, e, fun σ' sl' _ => PostS.now h1' hr1 sl'⟩
    | loc k => exact h1.elim
    | at_ k => exact h1.elim
    | tupW k => exact h1.elim
theorem ss_par {i j : Nat} {x y : Str} {px py pt pv : Pos} {k1 k2 : Nat} {sc : Scope} {N : List Str} {k : Nat} (c : CtxS X sc N k) (hi : N[i]? = some x) (hj : N[j]? = some y) (hij : i ≠ j)
    (hx : sc.names.lookup x = some .local) (hy : sc.names.lookup y = some .local) (hp : plainE pa = true) (hq : plainE pb = true) (hw : swC sc [.Name x px, .Name y py] [pa, pb] = some (some [x, y])) (ha : SE X cl Wx pa fa) (hb : SE X cl Wx pb fb) :
    SS X cl Wx (.Assign [.Tuple [.Name x px, .Name y py] k1 pt] (.Tuple [pa, pb] k2 pv) pos) (fun ρ S => (fa ρ S).flE ρ fun x S1 => (fb ρ S1).flE ρ fun y S2 => .nx ((ρ.set i (some x)).set j (some y)) S2) := by
  refine L2PS.weaken (ps_par c.calm (by rw [c.nm]; exact c.nd) (by rw [c.nm]; exact hi) (by rw [c.nm]; exact hj) hij (by rw [c.scE]; exact hx) (by rw [c.scE]; exact hy) (pa_cons ha (pa_cons hb pa_nil (star_cons hq)) (star_cons hp)) (sw_of c.scE c.kind hw)) ?_
  rintro D σ H ⟨ω, ρ, S, hr, sl, h⟩
  refine ⟨ω, ρ, S, hr, sl, (h.flE sl).mono fun ω1 S1 H1 w l1 hr1 h1 x rx => ⟨ω1, ρ, S1, hr1, sl.mono l1, (h1.flE (sl.mono l1)).mono fun ω2 S2 H2 u l2 hr2 h2 y ry => ⟨x, y, rfl, ?_⟩⟩⟩
  exact PostS.now h2 hr2 ((((sl.mono l1).mono l2).set i (rx.mono l2)).set j ry)
theorem ss_ex (hw : noComp pa = true) (ha : SE X cl Wx pa fa) : SS X cl Wx (.Expr pa pos) (fun ρ S => (fa ρ S).flE ρ fun _ S1 => .nx ρ S1) := by
  refine L2PS.weaken (ps_expr ha (sw_no hw)) ?_
  rintro D σ H ⟨ω, ρ, S, hr, sl, h⟩
  exact ⟨ω, ρ, S, hr, sl, (h.flE sl).mono fun ω1 S1 H1 w l1 hr1 h1 x rx => PostS.now h1 hr1 (sl.mono l1)⟩
theorem ss_ife (hc : ST X cl Wx pc ta) (ha : SB X cl Wx as ga) (hb : SB X cl Wx bs gb) : SS X cl Wx (.If pc as bs pos) (fun ρ S => (ta ρ S).flE ρ fun k S1 => if k = true then ga ρ S1 else gb ρ S1) := by
  refine L2PS.weaken (ps_if hc ha hb) ?_
  rintro D σ H ⟨ω, ρ, S, hr, sl, h⟩
  refine ⟨ω, ρ, S, hr, sl, (h.flE sl).mono fun ω1 S1 H1 b l1 hr1 h1 => ?_⟩
  cases b with
  | true => exact ⟨ω1, ρ, S1, hr1, sl.mono l1, h1⟩
  | false => exact ⟨ω1, ρ, S1, hr1, sl.mono l1, h1⟩
theorem ss_ret (ha : SE X cl Wx pa fa) : SS X cl Wx (.Return (some pa) pos) (fun ρ S => (fa ρ S).flE ρ fun w S1 => .rt w S1) := by
  refine L2PS.weaken (ps_ret ha) ?_
  rintro D σ H ⟨ω, ρ, S, hr, sl, h⟩
  exact ⟨ω, ρ, S, hr, sl, (h.flE sl).mono fun ω1 S1 H1 w l1 hr1 h1 x rx => h1 ω1 H1 x (.refl _) hr1 rx⟩
theorem ss_retN : SS X cl Wx (.Return none pos) (fun _ S => .rt (.d .non) S) := by
  refine L2PS.weaken ps_retN ?_
  rintro D σ H ⟨ω, ρ, S, hr, sl, h⟩
  exact h ω H _ (.refl _) hr (.d .non)
theorem ss_rais {c : Nat} {x m : Str} {j : Nat} {p p2 p3 : Pos} (hc : X.calm = true) (tk : Takes X Wx) (hg : Gl X x) (hd : (x == ("__debug__" : Str)) = false) (ok : RaiseOk X.K X.mg (cl c) x) :
    SS X cl Wx (.Raise (some (.Call (.Name x p) [.Constant (.str m) j p2] [] p3)) none pos) (fun ρ S => .exc c ρ S) := by
  obtain ⟨h1, h2, h3, h4, h5⟩ := ok
  refine L2PS.weaken (ps_raise hc tk (pmk_own PySem.F.excBase_ValueError h3 h1 h2 (raises_own h4 h5) hg hd)) ?_
  rintro D σ H ⟨ω, ρ, S, hr, sl, h⟩
  exact h ω σ H (.refl _) hr sl
theorem sb_nil : SB X cl Wx [] (fun ρ S => .nx ρ S) := by
  refine L2PSs.weaken pss_nil ?_
  rintro D σ H ⟨ω, ρ, S, hr, sl, h⟩
  exact PostS.now h hr sl
theorem sb_cons {s : Stmt} (ha : SS X cl Wx s ga) (hb : SB X cl Wx bs gb) : SB X cl Wx (s :: bs) (fun ρ S => (ga ρ S).andThen fun ρ1 S1 => gb ρ1 S1) := by
  refine L2PSs.weaken (pss_cons ha hb) ?_
  rintro D σ H ⟨ω, ρ, S, hr, sl, h⟩
  exact ⟨ω, ρ, S, hr, sl, PostS.then_ h⟩
/-- a ghost: the list at a place is never changed from now on -/
theorem sb_frz {i : Nat} (hb : SB X cl Wx bs gb) : SB X cl Wx bs (fun ρ S => (frzE ρ i S).andThen fun ρ1 S1 => gb ρ1 S1) := by
  refine L2PSs.weaken hb ?_
  rintro D σ H ⟨ω, ρ, S, hr, sl, h⟩
  dsimp only [frzE] at h
  split at h
  · rename_i w S1 e
    unfold lookV at e
    split at e <;> cases e
    rename_i e
    obtain ⟨x, e1, rx⟩ := sl.at_ i _ e
    split at h
    · rename_i w' S2 e2
      obtain ⟨ω1, l1, hr1, r1⟩ := frz_step hr rx e2
      have hs : σ.set i (some x) = σ := by
        refine List.ext_getElem? fun j => ?_
        by_cases q : i = j
        · subst q
          rw [List.getElem?_set_self (List.getElem?_eq_some_iff.mp e1).1, e1]
        · rw [List.getElem?_set_ne q]
      have sl1 := (sl.mono l1).set i r1
      rw [hs] at sl1
      exact ⟨ω1, _, S2, hr1, sl1, PostS.le h l1⟩
    · exact h.elim
  · exact h.elim
/-! ### except clauses -/
theorem ss_tryA {i k : Nat} {n x : Str} {body : List Stmt} {gb : Env → Store → Fl} {f : Nat → Addr → Fn} {cs : List Nat} {sc : Scope} {N : List Str} {np q p p2 p3 p4 : Pos} (c : CtxS X sc N k) (tk : Takes X Wx) (ok : TryOk X.prog X.w X.K X.mg X.base cl k (some (x, f)) cs)
    (hy : glB sc "DueError" = true) (hi : N[i]? = some n) (hl : sc.names.lookup n = some .local) (hn : plainN n = true) (hx : glB sc x = true) (hd : (x == ("__debug__" : Str)) = false)
    (hb : ∀ (W : WX) (pn : List (Addr × Obj)) (xe : Value → Shared → Prop), Takes (X.tr pn xe) W → PassesOwn (model X.prog X.w) X.A X.env xe → PSs (X.tr pn xe) body (rdS X.K X.mg cl W gb)) :
    SS X cl Wx (.Try body [.ExceptHandler (some (.Name "DueError" np)) (some n) [.Return (some (.Call (.Name x q) [.Name n p] [] p2)) p3] p4] [] [] pos) (fun ρ S => catchA (gb ρ S) i f cs) := by
  obtain ⟨⟨C, hC, hE⟩, hot⟩ := ok
  obtain ⟨_, _, _, _, _, _, _, hsame⟩ := id hot
  have vis : Vis X.env.scope n := by rw [c.scE]; exact .inl hl
  have nn : (n == ("__debug__" : Str)) = false ∧ (n == ("__classdict__" : Str)) = false := by
    unfold plainN at hn
    simp only [Bool.and_eq_true, Bool.not_eq_true'] at hn
    exact hn
  refine L2PS.weaken (ps_try_as (i := i) (tb := fun W => rdS X.K X.mg cl W gb) (ts := fun a cls d D0 σ H => σ[i]? = some (some (.ref a)) ∧ d = none ∧ ∃ (e : Nat) (ω : Wd) (S : Store) (z : D) (S2 : Store), e ∈ cs ∧ cls = .ref (cl e) ∧ HRep X.K X.mg ω S H ∧ f e 0 [.at_ 0] S = .ok (.d z) S2 ∧ ∀ (ω' : Wd) (H' : Hp) (x : V), ω.le ω' → HRep X.K X.mg ω' S2 H' → RepD X.K X.mg ω'.fz z x → D0.rt x H')
    c.stk c.frm (by rw [c.nm]; exact c.nd) (by rw [c.nm]; exact hi) (by show X.env.scope.names.lookup n = _; rw [c.scE]; exact hl) (⟨gl_of c.scE hy, by decide, .inl hC⟩ : Names X "DueError" (.ref C)) tk hb ?_) ?_
  · rintro a oe cls d pn hz hf
    refine L2PSs.weaken (pss_one (ps_ret (pe_callC (i := i) (f := f) (cs := cs) hot c.room (gl_of c.scE hx) hd (by rw [c.nm]; exact hi) vis nn.1 nn.2))) ?_
    rintro D σ H ⟨hs, hd0, e, ω, S, z, S2, he, hcl, hr, hfe, hq⟩
    subst hcl hd0
    exact ⟨hs, rfl, e, ω, S, z, S2, he, hz, hf, hr, (hsame e he a S).trans hfe, hq⟩
  · rintro D σ H ⟨ω, ρ, S, hr, sl, h⟩
    refine ⟨ω, ρ, S, hr, sl, ?_⟩
    dsimp only at h
    cases e : gb ρ S with
    | nx ρ' S' => rw [e] at h; exact h
    | rt w S' => rw [e] at h; exact h
    | stuck => rw [e] at h; exact h.elim
    | exc n0 ρ' S' =>
      rw [e] at h
      unfold catchA at h
      dsimp only at h
      split at h
      · rename_i hc
        simp only [Bool.and_eq_true, decide_eq_true_eq] at hc
        have hmem : n0 ∈ cs := by simpa using hc.1
        split at h
        · rename_i z S2 hz
          intro ω' σ' H' l hr' sl'
          refine ⟨true, hE n0 hmem, fun _ a ha => ⟨?_, rfl, n0, ω', S', z, S2, hmem, rfl, hr', hz, fun ω2 H2 x l2 hr2 rx => h ω2 H2 x (l.trans l2) hr2 (.d rx)⟩, fun z => nomatch z⟩
          have : i < σ'.length := by
            rw [← sl'.len]
            exact hc.2
          rw [List.getElem?_set_self this]
        · exact h.elim
      · exact h.elim
theorem ss_tryC {k : Nat} {body : List Stmt} {gb : Env → Store → Fl} {d : D} {kc : Const} {j : Nat} {cs : List Nat} {sc : Scope} {N : List Str} {np p p3 p4 : Pos} (c : CtxS X sc N k) (tk : Takes X Wx) (ok : TryOk X.prog X.w X.K X.mg X.base cl k none cs)
    (hy : glB sc "DueError" = true) (hk : cEq d kc = true)
    (hb : ∀ (W : WX) (pn : List (Addr × Obj)) (xe : Value → Shared → Prop), Takes (X.tr pn xe) W → PassesOwn (model X.prog X.w) X.A X.env xe → PSs (X.tr pn xe) body (rdS X.K X.mg cl W gb)) :
    SS X cl Wx (.Try body [.ExceptHandler (some (.Name "DueError" np)) none [.Return (some (.Constant kc j p)) p3] p4] [] [] pos) (fun ρ S => catchC (gb ρ S) d cs) := by
  obtain ⟨⟨C, hC, hE⟩, _⟩ := ok
  refine L2PS.weaken (ps_try_only (tb := fun W => rdS X.K X.mg cl W gb) (ts := fun a cls d0 => rdS X.K X.mg cl WF (fun ρ S => .rt (.d d) S))
    c.stk c.frm (⟨gl_of c.scE hy, by decide, .inl hC⟩ : Names X "DueError" (.ref C)) tk hb ?_) ?_
  · rintro a oe cls d0 pn hz hf
    refine L2PSs.weaken (pss_one (ps_ret (se_c (X := X.suite a ((a, oe) :: pn)) (cl := cl) (Wx := WF) hk))) ?_
    rintro D σ H ⟨ω, ρ, S, hr, sl, h⟩
    exact ⟨ω, ρ, S, hr, sl, fun ω' H' l hr' x rx => h ω' H' x l hr' rx⟩
  · rintro D σ H ⟨ω, ρ, S, hr, sl, h⟩
    refine ⟨ω, ρ, S, hr, sl, ?_⟩
    dsimp only at h
    cases e : gb ρ S with
    | nx ρ' S' => rw [e] at h; exact h
    | rt w S' => rw [e] at h; exact h
    | stuck => rw [e] at h; exact h.elim
    | exc n0 ρ' S' =>
      rw [e] at h
      unfold catchC at h
      dsimp only at h
      split at h
      · rename_i hc
        have hmem : n0 ∈ cs := by simpa using hc
        intro ω' σ' H' l hr' sl'
        exact ⟨true, hE n0 hmem, fun _ a ha => ⟨ω', ρ', S', hr', sl', fun ω2 H2 x l2 hr2 rx => h ω2 H2 x (l.trans l2) hr2 rx⟩, fun z => nomatch z⟩
      · exact h.elim
end
end Q
set_option Elab.async false
set_option maxRecDepth 100000
set_option linter.all false
set_option maxHeartbeats 2000000
/-! Stores into things; names from a tuple that holds what may change. -/
namespace Q
open PySem PySem.Spec PyProof.Rows L2
section
variable {X : Cx} {cl : Nat → Addr} {Wx : WX}
variable {pa pb pc : Expr} {fa fb fc : Env → Store → R W} {pos : Pos}
theorem ss_fset {k : Nat} {x : Str} {p2 : Pos} (hk : HallOk X.prog X.w X.K X.mg X.base cl k (.fld x)) (hw : noComp pb = true) (ha : SE X cl Wx pa fa) (he : SE X cl Wx pb fb) :
    SS X cl Wx (.Assign [.Attribute pa x p2] pb pos) (fun ρ S => (fb ρ S).flE ρ fun v S1 => (fa ρ S1).flE ρ fun w S2 => (fsetW x w v S2).flE ρ fun _ S4 => .nx ρ S4) := by
  obtain ⟨C, h1, h2, h3⟩ := hk
  refine L2PS.weaken (ps_fld ha he (sw_no hw)) ?_
  rintro D σ H ⟨ω, ρ, S, hr, sl, h⟩
  refine ⟨ω, ρ, S, hr, sl, (h.flE sl).mono fun ω1 S1 H1 v l1 hr1 q1 vv rv => ⟨ω1, ρ, S1, hr1, sl.mono l1, (q1.flE (sl.mono l1)).mono fun ω2 S2 H2 w l2 hr2 q3 vw rw_ => ?_⟩⟩
  unfold fsetW at q3
  split at q3
  · rename_i k
    split at q3
    · rename_i fs e
      split at q3
      · rename_i hlen
        cases rw_ with
        | @loc _ a ea =>
        cases hr2.obj k _ a e ea with
        | @ins _ C' dx _ vs z1 z2 z3 =>
        rw [h1] at z1; cases z1
        refine ⟨a, C, dx, vs, rfl, z2, h2, h3, by rw [← z3.length]; omega, ?_⟩
        exact PostS.now q3 (hr2.put e rfl ea (.ins h1 upd_same (z3.put x (rv.mono l2)))) ((sl.mono l1).mono l2)
      · exact q3.elim
    · exact q3.elim
  · exact q3.elim
theorem RepDs.set {K : PySem.W.Frag} {mg : Str → Option Value} {F : Hp} {xs : List D} {ys : List V} (j : Nat) {d : D} {v : V} (r : RepDs K mg F xs ys) (n : RepD K mg F d v) : RepDs K mg F (xs.set j d) (ys.set j v) := by
  induction j generalizing xs ys with
  | zero => cases r with
    | nil => exact .nil
    | cons h t => exact .cons n t
  | succ j ih => cases r with
    | nil => exact .nil
    | cons h t => exact .cons h (ih t)
theorem ss_lput {p2 : Pos} (hn : noSlice pb = true) (hw : noComp pc = true) (ha : SE X cl Wx pa fa) (hb : SE X cl Wx pb fb) (he : SE X cl Wx pc fc) :
    SS X cl Wx (.Assign [.Subscript pa pb p2] pc pos) (fun ρ S => (fc ρ S).flE ρ fun v S1 => (fa ρ S1).flE ρ fun w S2 => (fb ρ S2).flE ρ fun i S3 => (lputW w i v S3).flE ρ fun _ S4 => .nx ρ S4) := by
  refine L2PS.weaken (ps_asg he (pg_sub ha hb set_list (by intro v; cases pb <;> first | rfl | cases hn)) (by unfold swapsWithSole; exact sw_no hw) (by cases pc <;> rfl)) ?_
  rintro D σ H ⟨ω, ρ, S, hr, sl, h⟩
  refine ⟨ω, ρ, S, hr, sl, (h.flE sl).mono fun ω1 S1 H1 v l1 hr1 q1 vv rv => ⟨ω1, ρ, S1, hr1, sl.mono l1, (q1.flE (sl.mono l1)).mono fun ω2 S2 H2 w l2 hr2 q2 vw rw_ => ⟨ω2, ρ, S2, hr2, (sl.mono l1).mono l2, (q2.flE ((sl.mono l1).mono l2)).mono fun ω3 S3 H3 i l3 hr3 q3 vi ri => ?_⟩⟩⟩
  unfold lputW at q3
  split at q3
  · rename_i k i d
    split at q3
    · rename_i xs e
      split at q3
      · rename_i j ej
        cases rw_.mono l3 with
        | @loc _ a ea =>
        cases hr3.obj k _ a e ea with
        | @lst _ _ ys z1 z2 =>
        cases ri.of_d.of_int
        refine ⟨a, ys, i, j, rfl, rfl, z1, by rw [← z2.length]; exact ej, ?_⟩
        exact PostS.now q3 (hr3.put e rfl ea (.lst upd_same (RepDs.set j z2 ((rv.mono l2).mono l3).of_d))) (((sl.mono l1).mono l2).mono l3)
      · exact q3.elim
    · exact q3.elim
  · exact q3.elim
theorem ss_dput {p2 : Pos} (hu : X.A.units + 64 < cLine) (hw : noComp pc = true) (ha : SE X cl Wx pa fa) (hb : SE X cl Wx pb fb) (he : SE X cl Wx pc fc) :
    SS X cl Wx (.Assign [.Subscript pa pb p2] pc pos) (fun ρ S => (fc ρ S).flE ρ fun v S1 => (fa ρ S1).flE ρ fun w S2 => (fb ρ S2).flE ρ fun i S3 => (dputW w i v S3).flE ρ fun _ S4 => .nx ρ S4) := by
  refine L2PS.weaken (ps_dput (by omega) ha hb he (sw_no hw)) ?_
  rintro D σ H ⟨ω, ρ, S, hr, sl, h⟩
  refine ⟨ω, ρ, S, hr, sl, (h.flE sl).mono fun ω1 S1 H1 v l1 hr1 q1 vv rv => ⟨ω1, ρ, S1, hr1, sl.mono l1, (q1.flE (sl.mono l1)).mono fun ω2 S2 H2 w l2 hr2 q2 vw rw_ => ⟨ω2, ρ, S2, hr2, (sl.mono l1).mono l2, (q2.flE ((sl.mono l1).mono l2)).mono fun ω3 S3 H3 i l3 hr3 q3 vi ri => ?_⟩⟩⟩
  unfold dputW at q3
  split at q3
  · rename_i k j d
    split at q3
    · rename_i kvs j e ej
      split at q3
      · rename_i hlen
        cases rw_.mono l3 with
        | @loc _ a ea =>
        cases hr3.obj k _ a e ea with
        | @dct _ _ vs z1 z2 =>
        have ek := keyD_rep ri.of_d ej
        subst ek
        refine ⟨a, _, rfl, DPut.k z1 (by rw [← z2.length]; exact hlen), ?_⟩
        exact PostS.now q3 (hr3.put e rfl ea (.dct upd_same (z2.put j ((rv.mono l2).mono l3).of_d))) (((sl.mono l1).mono l2).mono l3)
      · exact q3.elim
    · exact q3.elim
  · exact q3.elim
theorem ss_putT {es : List Expr} {j : Nat} {p p2 : Pos} {fs : Env → Store → R (List W)} (hu : X.A.units + 64 < cLine) (hw : noComp pc = true) (ha : SE X cl Wx pa fa) (hs : SA X cl Wx es fs) (he : SE X cl Wx pc fc) (hfs : ∀ ρ S ws S', fs ρ S = .ok ws S' → ws.length = 2) :
    SS X cl Wx (.Assign [.Subscript pa (.Tuple es j p) p2] pc pos) (fun ρ S => (fc ρ S).flE ρ fun v S1 => (fa ρ S1).flE ρ fun w S2 => (fs ρ S2).flE ρ fun ks S3 => (putTW w ks v S3).flE ρ fun _ S4 => .nx ρ S4) := by
  refine L2PS.weaken (ps_dput (by omega) ha (pe_tup hs) he (sw_no hw)) ?_
  rintro D σ H ⟨ω, ρ, S, hr, sl, h⟩
  refine ⟨ω, ρ, S, hr, sl, (h.flE sl).mono fun ω1 S1 H1 v l1 hr1 q1 vv rv => ⟨ω1, ρ, S1, hr1, sl.mono l1, (q1.flE (sl.mono l1)).mono fun ω2 S2 H2 w l2 hr2 q2 vw rw_ => ⟨ω2, ρ, S2, hr2, (sl.mono l1).mono l2, Post.mono2 (q2.flE ((sl.mono l1).mono l2)) fun ω3 S3 H3 ks eqk l3 hr3 q3 vs rs => ?_⟩⟩⟩
  have hl := hfs ρ S2 ks S3 eqk
  refine ⟨by rw [← rs.length, hl]; decide +kernel, fun p hp => ?_⟩
  unfold putTW at q3
  split at q3
  · rename_i k d
    split at q3
    · rename_i kvs js e ej
      split at q3
      · rename_i hlen
        obtain ⟨ek, _⟩ := key2_rep rs ej
        subst ek
        cases rw_.mono l3 with
        | @loc _ a ea =>
        obtain ⟨ω4, l4, hr4⟩ := key_laid (vs := js.map kV) hr3 hp
        have ea4 := l4.lo.get ea
        cases hr4.obj k _ a e ea4 with
        | @dT _ _ vs' z1 z2 =>
        refine ⟨a, _, rfl, DPut.t z1 upd_same (by rw [← z2.length]; exact hlen), ?_⟩
        exact PostS.now (PostS.le q3 l4) (hr4.put e rfl ea4 (.dT upd_same (RepTs.put js ((((rv.mono l2).mono l3).mono l4).of_d) z2))) ((((sl.mono l1).mono l2).mono l3).mono l4)
      · exact q3.elim
    · exact q3.elim
  · exact q3.elim
theorem R.flE_bind {α β : Type} (r : R α) (f : α → Store → R β) (ρ : Env) (g : β → Store → Fl) : (r.bind f).flE ρ g = r.flE ρ fun a S => (f a S).flE ρ g := by cases r <;> rfl
theorem ss_congr {ps : Stmt} {f g : Env → Store → Fl} (h : SS X cl Wx ps f) (e : ∀ ρ S, f ρ S = g ρ S) : SS X cl Wx ps g := by
  have : f = g := funext fun ρ => funext fun S => e ρ S
  subst this; exact h
theorem ss_sto (o : StOp) {a e : E} {es : Es} {sc : Scope} {N : List Str} {k : Nat} {pt pe : Expr} {q : Expr × List Expr} (c : CtxS X sc N k) (ok : match o with
    | .fset x => HallOk X.prog X.w X.K X.mg X.base cl k (.fld x)
    | _ => True) (h1 : stSub o pt = some q) (hw : noComp pe = true) (ha : SE X cl Wx q.1 (ev a)) (hs : SA X cl Wx q.2 (evs es)) (all : AllE (fun e => ∀ pe, chk e sc N pe = true → SE X cl Wx pe (ev e)) es) (h5 : chks es sc N q.2 = true) (he : SE X cl Wx pe (ev e)) :
    SS X cl Wx (.Assign [pt] pe pos) (evS (.sto o a es e)) := by
  have one : ∀ b ρ S, evs (.cons b .nil) ρ S = (ev b ρ S).bind fun x S1 => R.ok [x] S1 := fun _ _ _ => rfl
  cases o with
  | fset x =>
    cases pt <;> try (simp [stSub] at h1; done)
    simp only [stSub] at h1
    split at h1
    · rename_i hh
      cases h1
      subst hh
      cases chks_nil h5
      exact ss_congr (ss_fset ok hw ha he) fun ρ S => rfl
    · cases h1
  | lput =>
    cases pt <;> try (simp [stSub] at h1; done)
    simp only [stSub] at h1
    split at h1
    · rename_i hh
      cases h1
      obtain ⟨b, rfl, q1, q2⟩ := chks_one (e := a) h5
      refine ss_congr (ss_lput hh hw ha (all.1 _ q2) he) fun ρ S => ?_
      show _ = (ev e ρ S).flE ρ fun v S1 => (ev a ρ S1).flE ρ fun w S2 => (evs (.cons b .nil) ρ S2).flE ρ fun ws S3 => (stoW .lput w ws v S3).flE ρ fun _ S4 => .nx ρ S4
      congr 1; funext v S1; congr 1; funext w S2
      rw [one, R.flE_bind]; rfl
    · cases h1
  | dput =>
    cases pt <;> try (simp [stSub] at h1; done)
    simp only [stSub] at h1
    split at h1
    · rename_i hh
      cases h1
      obtain ⟨b, rfl, q1, q2⟩ := chks_one (e := a) h5
      refine ss_congr (ss_dput c.hu hw ha (all.1 _ q2) he) fun ρ S => ?_
      show _ = (ev e ρ S).flE ρ fun v S1 => (ev a ρ S1).flE ρ fun w S2 => (evs (.cons b .nil) ρ S2).flE ρ fun ws S3 => (stoW .dput w ws v S3).flE ρ fun _ S4 => .nx ρ S4
      congr 1; funext v S1; congr 1; funext w S2
      rw [one, R.flE_bind]; rfl
    · cases h1
  | putT =>
    cases pt <;> try (simp [stSub] at h1; done)
    rename_i pa pb pos2
    cases pb <;> try (simp [stSub] at h1; done)
    simp only [stSub] at h1
    split at h1
    · rename_i hh
      cases h1
      exact ss_congr (ss_putT c.hu hw ha hs he fun ρ S ws S' z => (evs_len h5 ρ S ws S' z).trans hh) fun ρ S => rfl
    · cases h1
/-! ### names from a tuple -/
def rdGw (is : List Nat) (K : PySem.W.Frag) (mg : Str → Option Value) : TGs := fun v σ H Q => ∃ ω ρ S ws ρ', HRep K mg ω S H ∧ Sl K mg ω ρ σ ∧ RepWs K mg ω ws v ∧ unpE is ws ρ = some ρ' ∧ ∀ σ', Sl K mg ω ρ' σ' → Q σ' H
theorem pgw_of {sc : Scope} {N : List Str} (hN : X.N = N) (nd : N.Nodup) (hs : Stores X sc) : ∀ (is : List Nat) (e : List Expr), namesI is N sc e = true → (assignEach e X.env).length = e.length ∧ (assignEach e X.env).findIdx? (·.1) = none ∧ e.length = is.length ∧ PGs X e (rdGw is X.K X.mg)
  | [], [], _ => by
    refine ⟨rfl, rfl, rfl, L2PGs.weaken pgs_nil ?_⟩
    rintro v σ H Q ⟨ω, ρ, S, ws, ρ', hr, sl, rd, e, q⟩
    cases ws with
    | nil =>
      cases rd
      have e' : some ρ = some ρ' := e
      cases e'
      exact ⟨rfl, q σ sl⟩
    | cons _ _ => cases e
  | i :: is, .Name x p :: es, h => by
    simp only [namesI, Bool.and_eq_true, decide_eq_true_eq] at h
    obtain ⟨hl, hf, hle, hg⟩ := pgw_of hN nd hs is es h.2
    obtain ⟨z1, z2⟩ := hs x h.1.2
    have h1 := pg_name (X := X) (i := i) (pos := p) (by rw [hN]; exact nd) (by rw [hN]; exact h.1.1) z1 z2
    have ac := asg_cons (e := .Name x p) (es := es) (env := X.env) rfl
    refine ⟨by rw [ac, List.length_cons, List.length_cons, hl], by rw [ac, List.findIdx?_cons, hf]; rfl, by rw [List.length_cons, List.length_cons, hle], L2PGs.weaken (pgs_cons h1 hg (by rw [ac]; rfl)) ?_⟩
    rintro v σ H Q ⟨ω, ρ, S, ws, ρ', hr, sl, rd, e, q⟩
    cases ws with
    | nil => cases e
    | cons w ws =>
      cases rd with
      | @cons _ y _ ys r1 r2 =>
      have e' : unpE is ws (ρ.set i (some w)) = some ρ' := e
      exact ⟨y, ys, rfl, ω, ρ.set i (some w), S, ws, ρ', hr, sl.set i r1, r2, e', q⟩
  | [], _ :: _, h => by simp [namesI] at h
  | _ :: _, [], h => by simp [namesI] at h
theorem unpE_len : ∀ {is : List Nat} {ws : List W} {ρ ρ' : Env}, unpE is ws ρ = some ρ' → ws.length = is.length
  | [], [], _, _, _ => rfl
  | i :: is, w :: ws, ρ, ρ', h => by
    have h' : unpE is ws (ρ.set i (some w)) = some ρ' := h
    rw [List.length_cons, List.length_cons, unpE_len h']
  | [], _ :: _, _, _, h => by cases h
  | _ :: _, [], _, _, h => by cases h
theorem ss_unp {is : List Nat} {e : E} {sc : Scope} {N : List Str} {k : Nat} {pts : List Expr} {j : Nat} {p : Pos} {pe : Expr} (c : CtxS X sc N k) (hw : tgtOk sc (.Tuple pts j p) pe = true) (hg : namesI is N sc pts = true) (he : SE X cl Wx pe (ev e)) :
    SS X cl Wx (.Assign [.Tuple pts j p] pe pos) (evS (.unp is e)) := by
  have q := tgt_sw (l := pos.line) c.scE c.kind hw
  obtain ⟨g1, g2, g3, g4⟩ := pgw_of c.nm c.nd c.sto is pts hg
  refine L2PS.weaken (ps_asg he (pg_tup (n := pts.length) c.calm g4 g1 g2) q.1 q.2 (by rw [asg_cons (e := .Tuple pts j p) rfl]; rfl)) ?_
  rintro D σ H ⟨ω, ρ, S, hr, sl, h⟩
  refine ⟨ω, ρ, S, hr, sl, (Post.mono (PostS.flE (r := ev e ρ S) h sl)) fun ω1 S1 H1 w l1 hr1 h1 x rx => ?_⟩
  cases w with
  | tupW ws =>
    cases eq : unpE is ws ρ with
    | none =>
      have h1' : PostS X.K X.mg cl Wx ω1 D (ofEnv (unpE is ws ρ) S1) := h1
      rw [eq] at h1'; exact h1'.elim
    | some ρ' =>
      have h1' : PostS X.K X.mg cl Wx ω1 D (ofEnv (unpE is ws ρ) S1) := h1
      rw [eq] at h1'
      cases rx with
      | @tupW a _ ys z1 z2 =>
      refine ⟨a, ys, rfl, Same.seqT hr1.fz z1, by rw [← z2.length, unpE_len eq, g3], ω1, ρ, S1, ws, ρ', hr1, sl.mono l1, z2, eq, fun σ' sl' => PostS.now h1' hr1 sl'⟩
  | d _ => exact h1.elim
  | loc _ => exact h1.elim
  | at_ _ => exact h1.elim
end
end Q
set_option Elab.async false
set_option maxRecDepth 100000
set_option linter.all false
set_option maxHeartbeats 2000000
/-! Loops, the induction over statements, defs. -/
namespace Q
open PySem PySem.Spec PyProof.Rows L2
section
variable {X : Cx} {cl : Nat → Addr} {Wx : WX}
variable {pa pb pc : Expr} {fa fb fc : Env → Store → R W} {ta tb : Env → Store → R Bool} {pos : Pos} {ga gb : Env → Store → Fl} {as bs : List Stmt}
theorem ss_for {tgE iter : Expr} {tg : Tg} {fi : Env → Store → R (List D)} (hp : PassesOwn (model X.prog X.w) X.A X.env X.xe) (hc : X.calm = true) (hi : SI X cl Wx tgE iter fi) (hg : PG X tgE (rdG X.K X.mg tg)) (hb : SB X cl Wx bs gb) (hs : noSet iter = true) :
    SS X cl Wx (.For tgE iter bs [] pos) (fun ρ S => (fi ρ S).flE ρ fun items S1 => forL tg gb items ρ S1) := by
  refine L2PS.weaken (ps_for hp hc hi hg hb (folded_of hs)) ?_
  rintro D σ H ⟨ω, ρ, S, hr, sl, h⟩
  refine ⟨ω, ρ, S, hr, sl, (h.flE sl).mono fun ω1 S1 H1 items l1 hr1 h1 J yl => ?_⟩
  let Wd1 : Nat → Nat → L2.St → Hp → Prop := fun i m σ H => m = items.length - i ∧ i ≤ items.length ∧ ∃ (ω' : Wd) (ρ' : Env) (S' : Store),
    HRep X.K X.mg ω' S' H ∧ Sl X.K X.mg ω' ρ' σ ∧ Same ω1.fz ω'.fz ∧ PostS X.K X.mg cl Wx ω' D (forL tg gb (items.drop i) ρ' S')
  refine ⟨Wd1, ⟨items.length, by simp, Nat.zero_le _, ω1, ρ, S1, hr1, sl.mono l1, Same.refl _, by simpa using h1⟩, ?_⟩
  rintro i m σ2 H2 ⟨rfl, hi2, ω2, ρ2, S2, hr2, sl2, sm2, h2⟩
  have yi := yl i ω2.fz H2 sm2 hr2.fz
  by_cases hlt : i < items.length
  · obtain ⟨hgo, hy⟩ := yi.1 items[i] (by simp [hlt])
    refine .inr ⟨hgo, Wd1 (i + 1) (items.length - (i + 1)), fun σ' H' w' => ⟨items.length - (i + 1), by omega, w'⟩, fun x H3 hx => ?_⟩
    obtain ⟨F3, g3, rx⟩ := hy x H3 hx
    have hr3 := hr2.grow g3
    have l3 := g3.wd hr2.fz
    have dr : items.drop i = items[i] :: items.drop (i + 1) := List.drop_eq_getElem_cons hlt
    rw [dr] at h2
    simp only [forL] at h2
    split at h2
    · exact h2.elim
    · rename_i ρ1 et
      refine ⟨{ ω2 with fz := F3 }, ρ2, S2, items[i], ρ1, hr3, sl2.mono l3, rx, et, fun σ4 sl4 _ => ⟨_, ρ1, S2, hr3, sl4, ?_⟩⟩
      have h3 := PostS.le h2 l3
      cases eb : gb ρ1 S2 with
      | nx ρ5 S5 =>
        rw [eb] at h3
        exact fun ω' σ' H' l hr' sl' => ⟨rfl, hlt, ω', ρ5, S5, hr', sl', (sm2.trans l3.s).trans l.s, PostS.le (r := forL tg gb (items.drop (i + 1)) ρ5 S5) h3 l⟩
      | rt w S5 => rw [eb] at h3; exact h3
      | exc c ρ5 S5 => rw [eb] at h3; exact h3
      | stuck => rw [eb] at h3; exact h3
  · have hi3 : i = items.length := by omega
    refine .inl ⟨yi.2 (by omega), ?_⟩
    rw [hi3, List.drop_length] at h2
    exact PostS.now h2 hr2 sl2
theorem ss_whl (n : Nat) (hp : PassesOwn (model X.prog X.w) X.A X.env X.xe) (hc : ST X cl Wx pc ta) (hb : SB X cl Wx bs gb) :
    SS X cl Wx (.While pc bs [] pos) (fun ρ S => whileL ta gb n ρ S) := by
  refine L2PS.weaken (ps_while hp hc hb) ?_
  rintro D σ H ⟨ω, ρ, S, hr, sl, h⟩
  refine ⟨fun m σ H => ∃ (ω : Wd) (ρ : Env) (S : Store), HRep X.K X.mg ω S H ∧ Sl X.K X.mg ω ρ σ ∧ PostS X.K X.mg cl Wx ω D (whileL ta gb m ρ S), ⟨n, ω, ρ, S, hr, sl, h⟩, ?_⟩
  rintro m σ1 H1 ⟨ω1, ρ1, S1, hr1, sl1, h1⟩
  cases m with
  | zero => exact h1.elim
  | succ m =>
    simp only [whileL] at h1
    refine ⟨ω1, ρ1, S1, hr1, sl1, (h1.flE sl1).mono fun ω2 S2 H2 b l2 hr2 h2 => ?_⟩
    cases b with
    | false =>
      show (if false = true then _ else _)
      rw [if_neg (by decide)] at h2 ⊢
      exact PostS.now h2 hr2 (sl1.mono l2)
    | true =>
      show (if true = true then _ else _)
      rw [if_pos rfl] at h2 ⊢
      refine ⟨fun σ' H' => ∃ (ω : Wd) (ρ : Env) (S : Store), HRep X.K X.mg ω S H' ∧ Sl X.K X.mg ω ρ σ' ∧ PostS X.K X.mg cl Wx ω D (whileL ta gb m ρ S), fun σ' H' w' => ⟨m, Nat.lt_succ_self m, w'⟩, ω2, ρ1, S2, hr2, sl1.mono l2, ?_⟩
      cases eb : gb ρ1 S2 with
      | nx ρ5 S5 =>
        rw [eb] at h2
        exact fun ω' σ' H' l hr' sl' => ⟨ω', ρ5, S5, hr', sl', PostS.le (r := whileL ta gb m ρ5 S5) h2 l⟩
      | rt w S5 => rw [eb] at h2; exact h2
      | exc c ρ5 S5 => rw [eb] at h2; exact h2
      | stuck => rw [eb] at h2; exact h2
end
section
variable {cl : Nat → Addr}
abbrev OkS (cl : Nat → Addr) (X : Cx) (k : Nat) (e : St) : Prop := okS (fun x f => CallOk X.prog X.w X.K X.mg X.base cl k x f) (GlOk X.K X.mg) (HallOk X.prog X.w X.K X.mg X.base cl k) (fun c x => RaiseOk X.K X.mg (cl c) x) (TryOk X.prog X.w X.K X.mg X.base cl k) e
abbrev OkB (cl : Nat → Addr) (X : Cx) (k : Nat) (e : Sts) : Prop := okB (fun x f => CallOk X.prog X.w X.K X.mg X.base cl k x f) (GlOk X.K X.mg) (HallOk X.prog X.w X.K X.mg X.base cl k) (fun c x => RaiseOk X.K X.mg (cl c) x) (TryOk X.prog X.w X.K X.mg X.base cl k) e
def oneN : List Expr → Option (Str × Pos)
  | [.Name x p] => some (x, p)
  | _ => none
theorem oneN_of {ts : List Expr} {x : Str} {p : Pos} (h : oneN ts = some (x, p)) : ts = [.Name x p] := by
  unfold oneN at h
  split at h <;> cases h
  rfl
theorem inv_set {i : Nat} {e : E} {sc : Scope} {N : List Str} {ps : Stmt} (h : chkS (.set i e) sc N ps = true) : ∃ x py pe pos, ps = .Assign [.Name x py] pe pos ∧ N[i]? = some x ∧ locB sc x = true ∧ setOk sc x py pe = true ∧ chk e sc N pe = true := by
  unfold chkS at h
  split at h
  all_goals first
    | (cases h; done)
    | (rename_i q
       cases q
       simp only [Bool.and_eq_true, decide_eq_true_eq] at h
       obtain ⟨⟨⟨h1, h2⟩, h3⟩, h4⟩ := h
       exact ⟨_, _, _, _, rfl, h1, h2, h3, h4⟩)
    | (rename_i q; cases q; done)
theorem inv_setc {i : Nat} {own : List (Str × Nat)} {tg : Tg} {it : It} {cond : Eo} {elt : E} {sc : Scope} {N : List Str} {ps : Stmt} (h : chkS (.setc i own tg it cond elt) sc N ps = true) :
    ∃ x py pelt ptg pit pifs scope p pos, ps = .Assign [.Name x py] (.ListComp pelt [⟨ptg, pit, pifs, 0⟩] scope p) pos ∧ N[i]? = some x ∧ sc.names.lookup x = some .local ∧ swL sc scope x py p = true ∧
      blkC N sc scope own = true ∧ chkIt it sc N (tgK ptg) pit = true ∧ chkG scope N tg ptg = true ∧ chkC cond (relS scope sc) N pifs = true ∧ chk elt (relS scope sc) N pelt = true ∧ noSet pit = true ∧ tgIn tg (own.map (·.2)) = true := by
  have go : ∃ x py pelt gens scope p pos, ps = .Assign [.Name x py] (.ListComp pelt gens scope p) pos ∧ N[i]? = some x ∧ sc.names.lookup x = some .local ∧ swL sc scope x py p = true ∧ chk (.comp own tg it cond elt) sc N (.ListComp pelt gens scope p) = true := by
    unfold chkS at h
    split at h
    all_goals first
      | (cases h; done)
      | (rename_i q
         cases q
         simp only [Bool.and_eq_true, decide_eq_true_eq] at h
         obtain ⟨⟨⟨h1, h2⟩, h3⟩, h4⟩ := h
         exact ⟨_, _, _, _, _, _, _, rfl, h1, h2, h3, h4⟩)
      | (rename_i q; cases q; done)
  obtain ⟨x, py, pelt, gens, scope, p, pos, rfl, h1, h2, h3, h⟩ := go
  rcases gens with _ | ⟨⟨ptg, pit, pifs, asy⟩, _ | ⟨_, _⟩⟩ <;> try (simp [chk] at h; done)
  by_cases ha : asy = 0
  · subst ha
    simp only [chk, Bool.and_eq_true, decide_eq_true_eq] at h
    obtain ⟨⟨⟨⟨⟨⟨a1, a2⟩, a3⟩, a4⟩, a5⟩, a6⟩, a7⟩ := h
    exact ⟨_, _, _, _, _, _, _, _, _, rfl, h1, h2, h3, a1, a2, a3, a4, a5, a6, a7⟩
  · exfalso
    revert h
    unfold chk
    split <;> simp_all
theorem inv_tgt {t : Tg} {e : E} {sc : Scope} {N : List Str} {ps : Stmt} (h : chkS (.tgt t e) sc N ps = true) : ∃ pt pe pos, ps = .Assign [pt] pe pos ∧ isTupE pt = true ∧ tgtOk sc pt pe = true ∧ chkG sc N t pt = true ∧ chk e sc N pe = true := by
  unfold chkS at h
  split at h
  all_goals first
    | (cases h; done)
    | (rename_i q
       cases q
       simp only [Bool.and_eq_true, decide_eq_true_eq] at h
       obtain ⟨⟨⟨h1, h2⟩, h3⟩, h4⟩ := h
       exact ⟨_, _, _, rfl, h1, h2, h3, h4⟩)
    | (rename_i q; cases q; done)
theorem inv_par {i j : Nat} {a b : E} {sc : Scope} {N : List Str} {ps : Stmt} (h : chkS (.par i j a b) sc N ps = true) : ∃ x px y py k1 pt pa pb k2 pv pos, ps = .Assign [.Tuple [.Name x px, .Name y py] k1 pt] (.Tuple [pa, pb] k2 pv) pos ∧
    N[i]? = some x ∧ N[j]? = some y ∧ i ≠ j ∧ sc.names.lookup x = some .local ∧ sc.names.lookup y = some .local ∧ plainE pa = true ∧ plainE pb = true ∧ swC sc [.Name x px, .Name y py] [pa, pb] = some (some [x, y]) ∧ chk a sc N pa = true ∧ chk b sc N pb = true := by
  unfold chkS at h
  split at h
  all_goals first
    | (cases h; done)
    | (rename_i q
       cases q
       simp only [Bool.and_eq_true, decide_eq_true_eq] at h
       obtain ⟨⟨⟨⟨⟨⟨⟨⟨⟨h1, h2⟩, h3⟩, h4⟩, h5⟩, h6⟩, h7⟩, h8⟩, h9⟩, h10⟩ := h
       exact ⟨_, _, _, _, _, _, _, _, _, _, _, rfl, h1, h2, h3, h4, h5, h6, h7, h8, h9, h10⟩)
    | (rename_i q; cases q; done)
theorem inv_ex {e : E} {sc : Scope} {N : List Str} {ps : Stmt} (h : chkS (.ex e) sc N ps = true) : ∃ pe pos, ps = .Expr pe pos ∧ noComp pe = true ∧ chk e sc N pe = true := by
  cases ps <;> try (simp [chkS] at h; done)
  simp only [chkS, Bool.and_eq_true] at h
  exact ⟨_, _, rfl, h.1, h.2⟩
theorem inv_ife {e : E} {a b : Sts} {sc : Scope} {N : List Str} {ps : Stmt} (h : chkS (.ife e a b) sc N ps = true) : ∃ pe pa pb pos, ps = .If pe pa pb pos ∧ chk e sc N pe = true ∧ chkB a sc N pa = true ∧ chkB b sc N pb = true := by
  cases ps <;> try (simp [chkS] at h; done)
  simp only [chkS, Bool.and_eq_true] at h
  exact ⟨_, _, _, _, rfl, h.1.1, h.1.2, h.2⟩
theorem inv_for {t : Tg} {it : It} {a : Sts} {sc : Scope} {N : List Str} {ps : Stmt} (h : chkS (.for_ t it a) sc N ps = true) : ∃ pt pit pa pos, ps = .For pt pit pa [] pos ∧ noSet pit = true ∧ chkG sc N t pt = true ∧ chkIt it sc N (tgK pt) pit = true ∧ chkB a sc N pa = true := by
  cases ps <;> try (simp [chkS] at h; done)
  rename_i pt pit pb els pos
  cases els <;> try (simp [chkS] at h; done)
  simp only [chkS, Bool.and_eq_true] at h
  obtain ⟨⟨⟨h1, h2⟩, h3⟩, h4⟩ := h
  exact ⟨_, _, _, _, rfl, h1, h2, h3, h4⟩
theorem inv_whl {n : Nat} {e : E} {a : Sts} {sc : Scope} {N : List Str} {ps : Stmt} (h : chkS (.whl n e a) sc N ps = true) : ∃ pe pa pos, ps = .While pe pa [] pos ∧ chk e sc N pe = true ∧ chkB a sc N pa = true := by
  cases ps <;> try (simp [chkS] at h; done)
  rename_i pt pb els pos
  cases els <;> try (simp [chkS] at h; done)
  simp only [chkS, Bool.and_eq_true] at h
  exact ⟨_, _, _, rfl, h.1, h.2⟩
theorem inv_ret {e : E} {sc : Scope} {N : List Str} {ps : Stmt} (h : chkS (.ret e) sc N ps = true) : ∃ pe pos, ps = .Return (some pe) pos ∧ chk e sc N pe = true := by
  cases ps <;> try (simp [chkS] at h; done)
  rename_i pe pos
  cases pe <;> try (simp [chkS] at h; done)
  simp only [chkS] at h
  exact ⟨_, _, rfl, h⟩
theorem inv_retN {sc : Scope} {N : List Str} {ps : Stmt} (h : chkS .retN sc N ps = true) : ∃ pos, ps = .Return none pos := by
  cases ps <;> try (simp [chkS] at h; done)
  rename_i pe pos
  cases pe <;> try (simp [chkS] at h; done)
  exact ⟨_, rfl⟩
theorem inv_rais {n : Nat} {x : Str} {sc : Scope} {N : List Str} {ps : Stmt} (h : chkS (.rais n x) sc N ps = true) : ∃ p m j p2 p3 pos, ps = .Raise (some (.Call (.Name x p) [.Constant (.str m) j p2] [] p3)) none pos ∧ glB sc x = true ∧ plainN x = true := by
  unfold chkS at h
  split at h
  all_goals first
    | (cases h; done)
    | (rename_i q
       cases q
       simp only [Bool.and_eq_true, decide_eq_true_eq] at h
       obtain ⟨⟨h1, h2⟩, h3⟩ := h
       obtain ⟨p, rfl⟩ := nm_of h1
       exact ⟨_, _, _, _, _, _, rfl, h2, h3⟩)
    | (rename_i q; cases q; done)
theorem inv_tryA {body : Sts} {i : Nat} {x : Str} {f : Nat → Addr → Fn} {cs : List Nat} {sc : Scope} {N : List Str} {ps : Stmt} (h : chkS (.tryA body i x f cs) sc N ps = true) :
    ∃ pb np n q p p2 p3 p4 pos, ps = .Try pb [.ExceptHandler (some (.Name "DueError" np)) (some n) [.Return (some (.Call (.Name x q) [.Name n p] [] p2)) p3] p4] [] [] pos ∧
      glB sc "DueError" = true ∧ N[i]? = some n ∧ sc.names.lookup n = some .local ∧ plainN n = true ∧ glB sc x = true ∧ plainN x = true ∧ chkB body sc N pb = true := by
  unfold chkS at h
  split at h
  all_goals first
    | (cases h; done)
    | (rename_i q0
       cases q0
       simp only [Bool.and_eq_true, decide_eq_true_eq] at h
       obtain ⟨⟨⟨⟨⟨⟨⟨⟨⟨h1, h2⟩, h3⟩, h4⟩, h5⟩, h6⟩, h7⟩, h8⟩, h9⟩, h10⟩ := h
       obtain ⟨q, rfl⟩ := nm_of h7
       subst h1 h5
       exact ⟨_, _, _, _, _, _, _, _, _, rfl, h2, h3, h4, h6, h8, h9, h10⟩)
    | (rename_i q; cases q; done)
theorem inv_tryC {body : Sts} {d : D} {cs : List Nat} {sc : Scope} {N : List Str} {ps : Stmt} (h : chkS (.tryC body d cs) sc N ps = true) :
    ∃ pb np kc j p p3 p4 pos, ps = .Try pb [.ExceptHandler (some (.Name "DueError" np)) none [.Return (some (.Constant kc j p)) p3] p4] [] [] pos ∧ glB sc "DueError" = true ∧ cEq d kc = true ∧ chkB body sc N pb = true := by
  unfold chkS at h
  split at h
  all_goals first
    | (cases h; done)
    | (rename_i q0
       cases q0
       simp only [Bool.and_eq_true, decide_eq_true_eq] at h
       obtain ⟨⟨⟨h1, h2⟩, h3⟩, h4⟩ := h
       subst h1
       exact ⟨_, _, _, _, _, _, _, _, rfl, h2, h3, h4⟩)
    | (rename_i q; cases q; done)
theorem inv_sto {o : StOp} {a : E} {es : Es} {e : E} {sc : Scope} {N : List Str} {ps : Stmt} (h : chkS (.sto o a es e) sc N ps = true) : ∃ pt pe pos q, ps = .Assign [pt] pe pos ∧ stSub o pt = some q ∧ noComp pe = true ∧ chk e sc N pe = true ∧ chk a sc N q.1 = true ∧ chks es sc N q.2 = true := by
  unfold chkS at h
  split at h
  all_goals first
    | (cases h; done)
    | (rename_i q0
       cases q0
       split at h
       · rename_i q hq
         simp only [Bool.and_eq_true] at h
         exact ⟨_, _, _, q, rfl, hq, h.1.1.1, h.1.1.2, h.1.2, h.2⟩
       · cases h)
    | (rename_i q; cases q; done)
theorem inv_unp {is : List Nat} {e : E} {sc : Scope} {N : List Str} {ps : Stmt} (h : chkS (.unp is e) sc N ps = true) : ∃ pts j p pe pos, ps = .Assign [.Tuple pts j p] pe pos ∧ tgtOk sc (.Tuple pts j p) pe = true ∧ namesI is N sc pts = true ∧ chk e sc N pe = true := by
  unfold chkS at h
  split at h
  all_goals first
    | (cases h; done)
    | (rename_i q0
       cases q0
       simp only [Bool.and_eq_true] at h
       exact ⟨_, _, _, _, _, rfl, h.1.1, h.1.2, h.2⟩)
    | (rename_i q; cases q; done)
theorem inv_frz {n : Nat} {sc : Scope} {N : List Str} {ps : Stmt} (h : chkS (.frzV n) sc N ps = true) : False := by simp [chkS] at h
theorem inv_nil {sc : Scope} {N : List Str} {ps : List Stmt} (h : chkB .nil sc N ps = true) : ps = [] := by
  cases ps <;> first | rfl | (simp [chkB] at h; done)
theorem inv_cons {s : St} {r : Sts} {sc : Scope} {N : List Str} {ps : List Stmt} (h : chkB (.cons s r) sc N ps = true) : (∃ i, s = .frzV i ∧ chkB r sc N ps = true) ∨ ∃ p qs, ps = p :: qs ∧ chkS s sc N p = true ∧ chkB r sc N qs = true := by
  by_cases hf : ∃ i, s = .frzV i
  · obtain ⟨i, rfl⟩ := hf
    exact .inl ⟨i, rfl, by simpa [chkB] using h⟩
  · cases ps with
    | nil =>
      unfold chkB at h
      split at h <;> simp_all
    | cons p ps =>
      refine .inr ⟨p, ps, rfl, ?_⟩
      unfold chkB at h
      split at h <;> simp_all
mutual
theorem snd_S : ∀ (s : St) (X : Cx) (Wx : WX) (sc : Scope) (N : List Str) (k : Nat) (ps : Stmt), CtxS X sc N k → Takes X Wx → OkS cl X k s → chkS s sc N ps = true → SS X cl Wx ps (evS s)
  | .set i e, X, Wx, sc, N, k, ps, c, tk, ok, h => by
    obtain ⟨x, py, pe, pos, rfl, h1, h2, h3, h4⟩ := inv_set h
    exact ss_set c h1 h2 h3 (snd_E e X Wx sc N k _ c.toCtxQ tk ok h4)
  | .setc i own tg it cond elt, X, Wx, sc, N, k, ps, c, tk, ok, h => by
    obtain ⟨x, py, pelt, ptg, pit, pifs, scope, p, pos, rfl, h1, h2, h3, a1, a2, a3, a4, a5, a6, a7⟩ := inv_setc h
    refine ss_setc c h1 h2 h3 (snd_It it X Wx sc N k ptg pit c.toCtxQ tk ok.1 a2) (by rw [c.nm, c.scE]; exact blkOk_by a1) a7 (fun s H C cells fp => ?_) (fun s H C cells fp => ?_) (fun s H C cells fp => ?_) a6
    · exact pg_of (X := X.blk s H scope (compEnvC scope cells C X.env) fp) c.nm c.nd c.calm (stores_blk c.toCtxQ s H C cells fp) tg ptg a3
    · exact snd_C cond _ WF _ N k _ (c.toCtxQ.blk s H C cells fp) takes0 ok.2.1 a4
    · exact snd_E elt _ WF _ N k _ (c.toCtxQ.blk s H C cells fp) takes0 ok.2.2 a5
  | .tgt t e, X, Wx, sc, N, k, ps, c, tk, ok, h => by
    obtain ⟨pt, pe, pos, rfl, h1, h2, h3, h4⟩ := inv_tgt h
    exact ss_tgt c h1 h2 h3 (snd_E e X Wx sc N k _ c.toCtxQ tk ok h4)
  | .par i j a b, X, Wx, sc, N, k, ps, c, tk, ok, h => by
    obtain ⟨x, px, y, py, k1, pt, pa, pb, k2, pv, pos, rfl, h1, h2, h3, h4, h5, h6, h7, h8, h9, h10⟩ := inv_par h
    exact ss_par c h1 h2 h3 h4 h5 h6 h7 h8 (snd_E a X Wx sc N k _ c.toCtxQ tk ok.1 h9) (snd_E b X Wx sc N k _ c.toCtxQ tk ok.2 h10)
  | .ex e, X, Wx, sc, N, k, ps, c, tk, ok, h => by
    obtain ⟨pe, pos, rfl, h1, h2⟩ := inv_ex h
    exact ss_ex h1 (snd_E e X Wx sc N k _ c.toCtxQ tk ok h2)
  | .ife t a b, X, Wx, sc, N, k, ps, c, tk, ok, h => by
    obtain ⟨pe, pa, pb, pos, rfl, h1, h2, h3⟩ := inv_ife h
    exact ss_ife (snd_T t X Wx sc N k _ c.toCtxQ tk ok.1 h1) (snd_B a X Wx sc N k _ c tk ok.2.1 h2) (snd_B b X Wx sc N k _ c tk ok.2.2 h3)
  | .for_ t it body, X, Wx, sc, N, k, ps, c, tk, ok, h => by
    obtain ⟨pt, pit, pa, pos, rfl, h1, h2, h3, h4⟩ := inv_for h
    exact ss_for c.own c.calm (snd_It it X Wx sc N k pt pit c.toCtxQ tk ok.1 h3) (pg_of c.nm c.nd c.calm c.sto t pt h2) (snd_B body X Wx sc N k _ c tk ok.2 h4) h1
  | .whl n t body, X, Wx, sc, N, k, ps, c, tk, ok, h => by
    obtain ⟨pe, pa, pos, rfl, h1, h2⟩ := inv_whl h
    exact ss_whl n c.own (snd_T t X Wx sc N k _ c.toCtxQ tk ok.1 h1) (snd_B body X Wx sc N k _ c tk ok.2 h2)
  | .ret e, X, Wx, sc, N, k, ps, c, tk, ok, h => by
    obtain ⟨pe, pos, rfl, h1⟩ := inv_ret h
    exact ss_ret (snd_E e X Wx sc N k _ c.toCtxQ tk ok h1)
  | .retN, X, Wx, sc, N, k, ps, c, tk, ok, h => by
    obtain ⟨pos, rfl⟩ := inv_retN h
    exact ss_retN
  | .rais n x, X, Wx, sc, N, k, ps, c, tk, ok, h => by
    obtain ⟨p, m, j, p2, p3, pos, rfl, h2, h3⟩ := inv_rais h
    exact ss_rais c.calm tk (gl_of c.scE h2) (plainN_of h3).1 ok
  | .frzV i, X, Wx, sc, N, k, ps, c, tk, ok, h => (inv_frz h).elim
  | .any, X, Wx, sc, N, k, ps, c, tk, ok, h => ⟨fun _ _ _ _ _ _ ⟨_, _, _, _, _, h⟩ => h.elim⟩
  | .sto o a es e, X, Wx, sc, N, k, ps, c, tk, ok, h => by
    obtain ⟨pt, pe, pos, q, rfl, h1, h2, h3, h4, h5⟩ := inv_sto h
    exact ss_sto o c ok.1 h1 h2 (snd_E a X Wx sc N k _ c.toCtxQ tk ok.2.1 h4) (snd_A es X Wx sc N k _ c.toCtxQ tk ok.2.2.1 h5) (snd_All es X Wx sc N k c.toCtxQ tk ok.2.2.1) h5 (snd_E e X Wx sc N k _ c.toCtxQ tk ok.2.2.2 h3)
  | .unp is e, X, Wx, sc, N, k, ps, c, tk, ok, h => by
    obtain ⟨pts, j, p, pe, pos, rfl, h1, h2, h3⟩ := inv_unp h
    exact ss_unp c h1 h2 (snd_E e X Wx sc N k _ c.toCtxQ tk ok h3)
  | .tryA body i x f cs, X, Wx, sc, N, k, ps, c, tk, ok, h => by
    obtain ⟨pb, np, n, q, p, p2, p3, p4, pos, rfl, h1, h2, h3, h4, h5, h6, h7⟩ := inv_tryA h
    exact ss_tryA c tk ok.2 h1 h2 h3 h4 h5 (plainN_of h6).1 fun W pn xe tk' po => snd_B body (X.tr pn xe) W sc N k _ ⟨⟨c.scE, c.nm, c.nd, c.calm, c.room, c.bf⟩, c.kind, c.sto, po, c.stk, c.frm⟩ tk' ok.1 h7
  | .tryC body d cs, X, Wx, sc, N, k, ps, c, tk, ok, h => by
    obtain ⟨pb, np, kc, j, p, p3, p4, pos, rfl, h1, h2, h3⟩ := inv_tryC h
    exact ss_tryC c tk ok.2 h1 h2 fun W pn xe tk' po => snd_B body (X.tr pn xe) W sc N k _ ⟨⟨c.scE, c.nm, c.nd, c.calm, c.room, c.bf⟩, c.kind, c.sto, po, c.stk, c.frm⟩ tk' ok.1 h3
theorem snd_B : ∀ (s : Sts) (X : Cx) (Wx : WX) (sc : Scope) (N : List Str) (k : Nat) (ps : List Stmt), CtxS X sc N k → Takes X Wx → OkB cl X k s → chkB s sc N ps = true → SB X cl Wx ps (evB s)
  | .nil, X, Wx, sc, N, k, ps, c, tk, ok, h => by
    cases inv_nil h
    exact sb_nil
  | .cons s r, X, Wx, sc, N, k, ps, c, tk, ok, h => by
    rcases inv_cons h with ⟨i, rfl, h1⟩ | ⟨p, qs, rfl, h1, h2⟩
    · exact sb_frz (snd_B r X Wx sc N k _ c tk ok.2 h1)
    · exact sb_cons (snd_S s X Wx sc N k _ c tk ok.1 h1) (snd_B r X Wx sc N k _ c tk ok.2 h2)
end
end
/-! ### defs -/
section
variable {K : PySem.W.Frag} {mg : Str → Option Value} {ω ω' : Wd} {H H' : Hp} {S S' : Store}
mutual
theorem RepW.closed {K : PySem.W.Frag} {mg : Str → Option Value} {ω : Wd} : ∀ {w : W} {v : V}, RepW K mg ω w v → closedW ω.mu.length w = true
  | _, _, .d _ => rfl
  | _, _, .loc h => by
    simp only [closedW, decide_eq_true_eq]
    exact (List.getElem?_eq_some_iff.mp h).1
  | _, _, .at_ _ => rfl
  | _, _, .tupW _ r => by
    simp only [closedW]
    exact RepWs.closed r
theorem RepWs.closed {K : PySem.W.Frag} {mg : Str → Option Value} {ω : Wd} : ∀ {w : List W} {v : List V}, RepWs K mg ω w v → closedWs ω.mu.length w = true
  | _, _, .nil => rfl
  | _, _, .cons h r => by
    simp only [closedWs, Bool.and_eq_true]
    exact ⟨RepW.closed h, RepWs.closed r⟩
end
mutual
theorem RepW.cut {K : PySem.W.Frag} {mg : Str → Option Value} {ω' : Wd} {l t : List Addr} (m : ω'.mu = l ++ t) : ∀ {w : W} {v : V}, RepW K mg ω' w v → closedW l.length w = true → RepW K mg { ω' with mu := l } w v
  | _, _, .d h, _ => .d h
  | _, _, .loc (k := k) h, c => by
    simp only [closedW, decide_eq_true_eq] at c
    rw [m, List.getElem?_append_left c] at h
    exact .loc h
  | _, _, .at_ a, _ => .at_ a
  | _, _, .tupW h r, c => by
    simp only [closedW] at c
    exact .tupW h (RepWs.cut m r c)
theorem RepWs.cut {K : PySem.W.Frag} {mg : Str → Option Value} {ω' : Wd} {l t : List Addr} (m : ω'.mu = l ++ t) : ∀ {w : List W} {v : List V}, RepWs K mg ω' w v → closedWs l.length w = true → RepWs K mg { ω' with mu := l } w v
  | _, _, .nil, _ => .nil
  | _, _, .cons h r, c => by
    simp only [closedWs, Bool.and_eq_true] at c
    exact .cons (RepW.cut m h c.1) (RepWs.cut m r c.2)
end
theorem RepFs.closed {K : PySem.W.Frag} {mg : Str → Option Value} {ω : Wd} {fs : List (Str × W)} {vs : List (Str × V)} (r : RepFs K mg ω fs vs) : (fs.all fun p => closedW ω.mu.length p.2) = true := by
  induction r with
  | nil => rfl
  | cons h t ih => rw [List.all_cons, ih, h.2.closed]; rfl
theorem RepFs.cut {K : PySem.W.Frag} {mg : Str → Option Value} {ω' : Wd} {l t : List Addr} (m : ω'.mu = l ++ t) {fs : List (Str × W)} {vs : List (Str × V)} (r : RepFs K mg ω' fs vs) (c : (fs.all fun p => closedW l.length p.2) = true) : RepFs K mg { ω' with mu := l } fs vs := by
  induction r with
  | nil => exact .nil
  | cons h q ih =>
    simp only [List.all_cons, Bool.and_eq_true] at c
    exact .cons ⟨h.1, h.2.cut m c.1⟩ (ih c.2)
/-- what came is forgotten -/
theorem HRep.trunc (h0 : HRep K mg ω S H) (l : ω.le ω') (h : HRep K mg ω' S' H') (kp : Keeps S S') : HRep K mg { ω' with mu := ω.mu } (S'.take S.length) H' := by
  obtain ⟨t, m⟩ := l.m
  have hl : S.length ≤ S'.length := by
    rw [← h0.len, ← h.len, m, List.length_append]; omega
  have up : ∀ {k : Nat} {a : Addr}, ω.mu[k]? = some a → ω'.mu[k]? = some a := fun {k a} e => l.lo.get e
  have at_ : ∀ {k : Nat} {o : O}, (S'.take S.length)[k]? = some o → k < S.length ∧ S'[k]? = some o := fun {k o} e => by
    have hk : k < S.length := by
      have := (List.getElem?_eq_some_iff.mp e).1
      rw [List.length_take] at this; omega
    rw [List.getElem?_take_of_lt hk] at e
    exact ⟨hk, e⟩
  refine ⟨h.fz, by rw [List.length_take, h0.len]; omega, h0.nd, fun k o a e1 e2 => ?_, fun k o a e1 e2 e3 => ?_, h.fr, fun k a e => h.nfr k a (up e), h.nff⟩
  · obtain ⟨hk, e1⟩ := at_ e1
    have r := h.obj k o a e1 (up e2)
    cases r with
    | lst q1 q2 => exact .lst q1 q2
    | dct q1 q2 => exact .dct q1 q2
    | dT q1 q2 => exact .dT q1 q2
    | dead q => exact .dead q
    | @ins _ C dx fs vs q1 q2 q3 =>
      refine .ins q1 q2 (q3.cut m ?_)
      obtain ⟨o0, e0⟩ : ∃ o0, S[k]? = some o0 := ⟨_, List.getElem?_eq_getElem hk⟩
      rcases kp k o0 e0 with z | ⟨o', z, zc⟩
      · rw [e1] at z; cases z
        cases h0.obj k _ a e0 e2 with
        | ins _ _ r0 => exact r0.closed
      · rw [e1] at z; cases z
        rw [h0.len]
        exact zc
  · exact h.nfz k o a (at_ e1).2 e2 (up e3)
end
section
variable {P : Program} {w : World} {K : PySem.W.Frag} {mg : Str → Option Value} {base : Heap} {cl : Nat → Addr}
theorem sl_start {ω : Wd} {ws : List W} {vs : List V} {N : List Str} {n : Nat} (r : RepWs K mg ω ws vs) (hn : ws.length = n) : Sl K mg ω (ws.map some ++ List.replicate (N.length - n) none) (L2.start N vs) := by
  subst hn
  refine ⟨by unfold L2.start; simp [r.length], fun i w e => ?_⟩
  by_cases hi : i < ws.length
  · rw [List.getElem?_append_left (by simpa using hi), List.getElem?_map] at e
    have get : ∀ {ws : List W} {vs : List V} {i : Nat} {w : W}, RepWs K mg ω ws vs → ws[i]? = some w → ∃ x, vs[i]? = some x ∧ RepW K mg ω w x := by
      intro ws vs i w r
      induction i generalizing ws vs with
      | zero =>
        intro e
        cases r with
        | nil => simp at e
        | cons h _ => simp at e; subst e; exact ⟨_, rfl, h⟩
      | succ i ih =>
        intro e
        cases r with
        | nil => simp at e
        | cons _ t =>
          obtain ⟨x, h1, h2⟩ := ih t (by simpa using e)
          exact ⟨x, by simpa using h1, h2⟩
    cases e2 : ws[i]? with
    | none => rw [e2] at e; cases e
    | some w' =>
      rw [e2] at e
      cases e
      obtain ⟨x, h1, h2⟩ := get r e2
      refine ⟨x, ?_, h2⟩
      unfold L2.start
      rw [List.getElem?_append_left (by rw [List.length_map, ← r.length]; exact hi), List.getElem?_map, h1]
      rfl
  · rw [List.getElem?_append_right (by simpa using hi), List.getElem?_replicate] at e
    split at e <;> cases e
theorem def_ok {x qual : Str} {st : Stmt} {f : Addr} {fd : FuncData} {N ps : List Str} {k : Nat} {tr : Bool} {body : Sts} (F : L2.Fun K x qual st f fd) (Sc : FnScope N ps (defScope st)) (hc : chkB body (defScope st) N (defBody st) = true)
    (bf : ∀ x ∈ (["len", "abs", "max", "min", "int", "str", "list", "tuple", "sum", "all", "range", "enumerate", "zip", "isinstance", "bool", "dict", "sorted", "set"] : List Str), mg x = none)
    (ok : okB (fun x f => CallOk P w K mg base cl k x f) (GlOk K mg) (HallOk P w K mg base cl k) (fun c x => RaiseOk K mg (cl c) x) (TryOk P w K mg base cl k) body) :
    FnOk P w K mg base (L2.CX P w) (k + 1) f fd ps (spF K mg cl ps.length (defF tr N.length ps.length body)) := by
  refine F.okX Sc (fun vs H Q E h => h.1) fun cdv A outer s H vs Q E hr h => ?_
  obtain ⟨hl, ω, ws, S, hr0, rws, post⟩ := h
  have hwl : ws.length = ps.length := rws.length.trans hl
  refine ⟨rdS K mg cl (fun cls d _ H => E cls d H) (evB body), ?_, ?_⟩
  · refine snd_B body (cxOf (L2.CX P w) P w K mg base N qual (defScope st) f cdv A outer s H E) _ (defScope st) N k _ ⟨⟨rfl, rfl, Sc.nd, rfl, hr, bf⟩, Sc.kind, fun x hx => ⟨loc_of hx, .inl rfl⟩, passes_of rfl, rfl, rfl⟩ (takes_of rfl rfl rfl rfl) ok hc
  · refine ⟨ω, ws.map some ++ List.replicate (N.length - ps.length) none, S, hr0, sl_start rws hwl, ?_⟩
    unfold defF at post
    rw [if_pos hwl] at post
    have endW : ∀ {wv : W} {S' : Store}, Post K mg cl (fun c d _ H' => E c d H') [] ω (finW tr S wv S') (fun ω' _ H' w => ∀ x, RepW K mg ω' w x → Q x H') →
        ∀ (ω' : Wd) (H' : Hp) (x : V), ω.le ω' → HRep K mg ω' S' H' → RepW K mg ω' wv x → Q x H' := by
      intro wv S' p ω' H' x l hr' rx
      unfold finW at p
      split at p
      · split at p
        · split at p
          · rename_i kp
            exact p { ω' with mu := ω.mu } H' ⟨l.s, ⟨[], by simp⟩, l.h, l.f⟩ (hr0.trunc l hr' kp) x (.d rx.of_d)
          · exact p.elim
        · exact p.elim
      · exact p ω' H' l hr' x rx
    cases er : evB body (ws.map some ++ List.replicate (N.length - ps.length) none) S with
    | nx ρ' S' =>
      rw [er] at post
      exact fun ω' σ' H' l hr' sl' => endW post ω' H' _ l hr' (.d .non)
    | rt wv S' =>
      rw [er] at post
      exact fun ω' H' x l hr' rx => endW post ω' H' x l hr' rx
    | exc c ρ' S' =>
      rw [er] at post
      intro ω' σ' H' l hr' sl'
      have p : Post K mg cl (fun c d _ H' => E c d H') [] ω (finX tr S c S') (fun ω' _ H' w => ∀ x, RepW K mg ω' w x → Q x H') := post
      unfold finX at p
      split at p
      · split at p
        · rename_i kp
          exact p { ω' with mu := ω.mu } H' ⟨l.s, ⟨[], by simp⟩, l.h, l.f⟩ (hr0.trunc l hr' kp)
        · exact p.elim
      · exact p ω' H' l hr'
    | stuck =>
      rw [er] at post
      exact post.elim
theorem defF_len {tr : Bool} {n k : Nat} {body : Sts} : ∀ ws S, ws.length ≠ k → defF tr n k body ws S = .stuck := fun ws S h => by
  unfold defF
  rw [if_neg h]
end
end Q
set_option Elab.async false
set_option maxRecDepth 100000
set_option linter.all false
set_option maxHeartbeats 2000000
/-! The end: a law's def gives True by the small reckoner. -/
namespace Q
open PySem PySem.Spec PyProof.Rows L2
def spEnd (K : PySem.W.Frag) : Sp := fun vs H Q _ => ∃ (a : Addr) (ns : List Int), vs = [.ref a] ∧ SqL K H a (ns.map V.int) ∧ ns.length ≤ 63 ∧ ∀ H', Q (.bl true) H'
theorem end_imp {P : Program} {w : World} {K : PySem.W.Frag} {mg : Str → Option Value} {base : Heap} {cl : Nat → Addr} {k : Nat} {f : Addr} {fd : FuncData} {x : Str} {g : Fn}
    (h : FnOk P w K mg base (L2.CX P w) k f fd [x] (spF K mg cl ([x] : List Str).length g)) (hg : ∀ ns : List Int, ns.length ≤ 63 → ∃ S', g [.d (.scr ns)] [] = .ok (.d (.bl true)) S') :
    FnOk P w K mg base (L2.CX P w) k f fd [x] (spEnd K) := by
  refine h.imp fun vs H Q E sp => ?_
  obtain ⟨a, ns, rfl, hs, hl, q⟩ := sp
  obtain ⟨S', e⟩ := hg ns hl
  refine ⟨rfl, ⟨H, [], none, fun _ => none⟩, [.d (.scr ns)], [], ⟨Same.refl H, rfl, List.nodup_nil, fun k o a e => by simp at e, fun k o a e => by simp at e, (fun a v e => by cases e), fun k a e => rfl, (fun a v e => by cases e)⟩, .cons (.d (.scr hs)) .nil, ?_⟩
  rw [e]
  intro ω' H' l hr x rx
  cases rx.of_d.of_bl
  exact q H'
/-- the errors' classes by number -/
def clOf (l : List Addr) (n : Nat) : Addr := l.getD n 0
/-- a def of the text as the top leaves it -/
def Fact (K : PySem.W.Frag) (name : Str) (st : Stmt) : Prop := ∃ (f : Addr) (oc : Value) (od : Option Addr) (kV dc pm : Value) (an : Option Addr) (cd ct : Value) (sl : Array (Option Value)),
  PySem.W.nsIn K mainGlobals name = some (some (.ref f)) ∧ K.lookup f = some ⟨oc, od, .func (PySem.W.fnOf name name (defArgs st) (defBody st) (defScope st) .none kV dc pm an cd ct), sl⟩ ∧ PySem.W.codeIn K cd name = true ∧ PySem.W.keepIn K (.ref f) = true
/-- .. its parts named -/
def FactD (K : PySem.W.Frag) (name : Str) (st : Stmt) (f : Addr) (oc : Value) (od : Option Addr) (kV dc pm : Value) (an : Option Addr) (cd ct : Value) (sl : Array (Option Value)) : Prop :=
  PySem.W.nsIn K mainGlobals name = some (some (.ref f)) ∧ K.lookup f = some ⟨oc, od, .func (PySem.W.fnOf name name (defArgs st) (defBody st) (defScope st) .none kV dc pm an cd ct), sl⟩ ∧ PySem.W.codeIn K cd name = true ∧ PySem.W.keepIn K (.ref f) = true
theorem FactD.fact {K : PySem.W.Frag} {name : Str} {st : Stmt} {f : Addr} {oc : Value} {od : Option Addr} {kV dc pm : Value} {an : Option Addr} {cd ct : Value} {sl : Array (Option Value)} (d : FactD K name st f oc od kV dc pm an cd ct sl) : Fact K name st := ⟨f, oc, od, kV, dc, pm, an, cd, ct, sl, d⟩
/-- an error's class as the top leaves it -/
def FactX (K : PySem.W.Frag) (name : Str) (C : Addr) : Prop := PySem.W.nsIn K mainGlobals name = some (some (.ref C)) ∧ PySem.W.keepIn K (.ref C) = true ∧
  PySem.W.excIn K C [.type "ValueError", .type "Exception", .type "BaseException", .type "object"] "ValueError.__new__" = true ∧ PySem.W.subIn K (.ref C) (.type "BaseException") = some true ∧ PySem.W.typeIn K (.ref C) = some (.type "type")
section
variable {K : PySem.W.Frag} {mg : Str → Option Value} {h base : Heap} {P : Program} {w : World} {cl : Nat → Addr}
theorem raise_of {x : Str} {C : Addr} (X : K.In h) (G : h.Ns mainGlobals mg) (f : FactX K x C) : RaiseOk K mg C x := ⟨PySem.W.mg_of X G f.1, f.2.1, f.2.2.1, f.2.2.2.1, f.2.2.2.2⟩
theorem gl_int {x : Str} {i : Int} {t : Tok} (X : K.In h) (G : h.Ns mainGlobals mg) (f : PySem.W.nsIn K mainGlobals x = some (some (.int i t))) : GlOk K mg x (.int i) := ⟨_, .int i, PySem.W.mg_of X G f, ⟨t, rfl⟩, fun F => .int i⟩
theorem gl_str {x : Str} {i : Str} {t : Tok} (X : K.In h) (G : h.Ns mainGlobals mg) (f : PySem.W.nsIn K mainGlobals x = some (some (.str i t))) : GlOk K mg x (.str i) := ⟨_, .str i, PySem.W.mg_of X G f, ⟨t, rfl⟩, fun F => .str i⟩
/-- a def's call, from its facts and its look -/
theorem call_ok {x : Str} {st : Stmt} {N ps : List Str} {k : Nat} {tr : Bool} {body : Sts} (X : K.In h) (G : h.Ns mainGlobals mg) (f : Fact K x st) (Sc : FnScope N ps (defScope st)) (hc : chkB body (defScope st) N (defBody st) = true)
    (bf : ∀ x ∈ (["len", "abs", "max", "min", "int", "str", "list", "tuple", "sum", "all", "range", "enumerate", "zip", "isinstance", "bool", "dict", "sorted", "set"] : List Str), mg x = none)
    (hb : ∀ (kV doc pm : Value) (an : Option Addr) (cdv ct : Value) (us : List Value), us.length = ps.length → bindArgs (PySem.W.fnOf x x (defArgs st) (defBody st) (defScope st) .none kV doc pm an cdv ct) ⟨us, []⟩ = pure (ps.zip us))
    (ok : okB (fun x f => CallOk P w K mg base cl k x f) (GlOk K mg) (HallOk P w K mg base cl k) (fun c x => RaiseOk K mg (cl c) x) (TryOk P w K mg base cl k) body) : CallOk P w K mg base cl (k + 1) x (defF tr N.length ps.length body) := by
  obtain ⟨f, oc, od, kV, dc, pm, an, cd, ct, sl, h1, h2, h3, h4⟩ := f
  have F := fun_mk (st := st) h2 h3 h4
  exact ⟨f, _, ps, PySem.W.mg_of X G h1, h4, F.binds hb, defF_len, def_ok F Sc hc bf ok⟩
theorem CallOk.mono {x : Str} {f : Fn} {j k : Nat} (c : CallOk P w K mg base cl j x f) (hjk : j ≤ k) : CallOk P w K mg base cl k x f := by
  obtain ⟨a, fd, ps, h1, h2, h3, h4, h5⟩ := c
  exact ⟨a, fd, ps, h1, h2, h3, h4, h5.mono hjk⟩
/-- a method as the top leaves it -/
def FactM (K : PySem.W.Frag) (C : Addr) (m qual : Str) (st : Stmt) (f : Addr) (oc : Value) (od : Option Addr) (kV dc pm : Value) (an : Option Addr) (cd ct : Value) (sl : Array (Option Value)) : Prop :=
  PySem.W.findIn K (.ref C) m = some (some (.ref f)) ∧ PySem.W.typeIn K (.ref f) = some (.type "function") ∧ K.lookup f = some ⟨oc, od, .func (PySem.W.fnOf m qual (defArgs st) (defBody st) (defScope st) .none kV dc pm an cd ct), sl⟩ ∧ PySem.W.codeIn K cd qual = true ∧ PySem.W.keepIn K (.ref f) = true
def FactC (K : PySem.W.Frag) (C : Addr) : Prop := PySem.W.nsIn K mainGlobals "Hall" = some (some (.ref C)) ∧ PySem.W.findIn K (.ref C) "__getattribute__" = some (some (.builtin "object.__getattribute__")) ∧ PySem.W.findIn K (.ref C) "__getattr__" = some none ∧
  PySem.W.hasDictIn K C = true ∧ PySem.W.plainOver K C = true ∧ PySem.W.findIn K (.ref C) "__setattr__" = some (some (.builtin "object.__setattr__"))
def FactK (K : PySem.W.Frag) (C : Addr) : Prop := PySem.W.makesIn K C = true ∧ PySem.W.keepIn K (.ref C) = true
theorem FactC.cls {C : Addr} (f : FactC K C) : Cls K C := ⟨by unfold PySem.W.plainGet; rw [f.2.1, f.2.2.1]; simp, f.2.2.2.1, f.2.2.2.2.1, f.2.2.2.2.2⟩
theorem fld_ok {C : Addr} {x : Str} {k : Nat} (X : K.In h) (G : h.Ns mainGlobals mg) (f : FactC K C) (n : PySem.W.findIn K (.ref C) x = some none) : HallOk P w K mg base cl k (.fld x) := ⟨C, PySem.W.mg_of X G f.1, f.cls, n⟩
theorem meth_okH {C f : Addr} {m qual : Str} {st : Stmt} {oc : Value} {od : Option Addr} {kV dc pm : Value} {an : Option Addr} {cd ct : Value} {sl : Array (Option Value)} {N ps : List Str} {k : Nat} {tr : Bool} {body : Sts} (X : K.In h) (G : h.Ns mainGlobals mg) (fc : FactC K C) (fm : FactM K C m qual st f oc od kV dc pm an cd ct sl) (Sc : FnScope N ps (defScope st)) (hc : chkB body (defScope st) N (defBody st) = true)
    (bf : ∀ x ∈ (["len", "abs", "max", "min", "int", "str", "list", "tuple", "sum", "all", "range", "enumerate", "zip", "isinstance", "bool", "dict", "sorted", "set"] : List Str), mg x = none)
    (hb : ∀ (kV doc pm : Value) (an : Option Addr) (cdv ct : Value) (us : List Value), us.length = ps.length → bindArgs (PySem.W.fnOf m qual (defArgs st) (defBody st) (defScope st) .none kV doc pm an cdv ct) ⟨us, []⟩ = pure (ps.zip us))
    (ok : okB (fun x f => CallOk P w K mg base cl k x f) (GlOk K mg) (HallOk P w K mg base cl k) (fun c x => RaiseOk K mg (cl c) x) (TryOk P w K mg base cl k) body) : HallOk P w K mg base cl (k + 1) (.meth m (defF tr N.length ps.length body)) := by
  obtain ⟨h1, h2, h3, h4, h5⟩ := fm
  have F := fun_mk (x := m) (qual := qual) (st := st) h3 h4 h5
  exact ⟨C, f, _, ps, PySem.W.mg_of X G fc.1, fc.cls, ⟨h1, by unfold PySem.W.isFn; rw [h2]; rfl, h5⟩, F.binds hb, defF_len, def_ok F Sc hc bf ok⟩
theorem mk_ok {C f : Addr} {qual : Str} {st : Stmt} {oc : Value} {od : Option Addr} {kV dc pm : Value} {an : Option Addr} {cd ct : Value} {sl : Array (Option Value)} {N ps : List Str} {k : Nat} {tr : Bool} {body : Sts} (X : K.In h) (G : h.Ns mainGlobals mg) (fc : FactC K C) (fk : FactK K C) (fm : FactM K C "__init__" qual st f oc od kV dc pm an cd ct sl) (Sc : FnScope N ps (defScope st)) (hc : chkB body (defScope st) N (defBody st) = true)
    (bf : ∀ x ∈ (["len", "abs", "max", "min", "int", "str", "list", "tuple", "sum", "all", "range", "enumerate", "zip", "isinstance", "bool", "dict", "sorted", "set"] : List Str), mg x = none)
    (hb : ∀ (kV doc pm : Value) (an : Option Addr) (cdv ct : Value) (us : List Value), us.length = ps.length → bindArgs (PySem.W.fnOf "__init__" qual (defArgs st) (defBody st) (defScope st) .none kV doc pm an cdv ct) ⟨us, []⟩ = pure (ps.zip us))
    (ok : okB (fun x f => CallOk P w K mg base cl k x f) (GlOk K mg) (HallOk P w K mg base cl k) (fun c x => RaiseOk K mg (cl c) x) (TryOk P w K mg base cl k) body) : HallOk P w K mg base cl (k + 2) (.mk "Hall" (defF tr N.length ps.length body)) := by
  obtain ⟨h1, h2, h3, h4, h5⟩ := fm
  have F := fun_mk (x := "__init__") (qual := qual) (st := st) h3 h4 h5
  exact ⟨rfl, C, f, _, ps, k + 1, Nat.le_refl _, PySem.W.mg_of X G fc.1, ⟨fk.1, h1, by unfold PySem.W.isFn; rw [h2]; rfl, fk.2⟩, F.binds hb, defF_len, def_ok F Sc hc bf ok⟩
/-- a dict of the module, texts to whole numbers, as the top leaves it -/
def entOf (e : DictEntry) : Option (Str × Int) := match e.key, e.val with
  | .str x _, .int i _ => some (x, i)
  | _, _ => none
structure FactKD (K : PySem.W.Frag) (w : World) (x : Str) (d : Addr) (es : Array DictEntry) (n : Nat) (tab : List (Str × Int)) : Prop where
  a : PySem.W.nsIn K mainGlobals x = some (some (.ref d))
  l : K.lookup d = some ⟨.type "dict", none, .dict es n, #[]⟩
  lit : PySem.W.KeysLit w.params es.toList
  low : (d == sysModules) = false
  v : es.toList.map entOf = tab.map some
theorem ent_find (z : Str) : ∀ {l : List DictEntry} {tab : List (Str × Int)}, l.map entOf = tab.map some →
    (∃ e p t, l.find? (·.key.isStr z) = some e ∧ (tab.find? fun p => decide (p.1 = z)) = some p ∧ e.val = .int p.2 t) ∨ (l.find? (·.key.isStr z) = none ∧ (tab.find? fun p => decide (p.1 = z)) = none ∧ l.any (·.refKey) = false)
  | [], [], _ => .inr ⟨rfl, rfl, rfl⟩
  | [], _ :: _, h => by cases h
  | _ :: _, [], h => by cases h
  | e :: l, p :: tab, h => by
    rw [List.map_cons, List.map_cons] at h
    injection h with h1 h2
    obtain ⟨hs, key, val⟩ := e
    unfold entOf at h1
    split at h1
    · rename_i x t i t' e1 e2
      cases h1
      have e1' : key = Value.str x t := e1
      have e2' : val = Value.int i t' := e2
      subst e1' e2'
      by_cases q : x = z
      · refine .inl ⟨⟨hs, .str x t, .int i t'⟩, (x, i), t', ?_, ?_, rfl⟩
        · rw [List.find?_cons]; simp [Value.isStr, q]
        · rw [List.find?_cons]; simp [q]
      · have b1 : (x == z) = false := by simpa using q
        rcases ent_find z h2 with ⟨e', p', t2, z1, z2, z3⟩ | ⟨z1, z2, z3⟩
        · refine .inl ⟨e', p', t2, ?_, ?_, z3⟩
          · rw [List.find?_cons]; simp [Value.isStr, b1]; exact z1
          · rw [List.find?_cons]; simp [q]; exact z2
        · refine .inr ⟨?_, ?_, ?_⟩
          · rw [List.find?_cons]; simp only [Value.isStr, b1]; exact z1
          · rw [List.find?_cons]; simp only [q, decide_false]; exact z2
          · rw [List.any_cons, z3]; rfl
    · cases h1
theorem kd_ok {x : Str} {d : Addr} {es : Array DictEntry} {n : Nat} {tab : List (Str × Int)} {k : Nat} (X : K.In h) (G : h.Ns mainGlobals mg) (f : FactKD K w x d es n tab) : HallOk P w K mg base cl k (.kd x tab) := by
  refine ⟨d, es, n, PySem.W.mg_of X G f.a, ⟨f.l, f.lit, f.low⟩, fun z => ?_⟩
  unfold PySem.W.nsIn
  rw [f.l]
  dsimp only
  rcases ent_find z f.v with ⟨e, p, t, z1, z2, z3⟩ | ⟨z1, z2, z3⟩
  · rw [z1, z2]; exact ⟨_, rfl, t, by rw [z3]⟩
  · rw [z1, z2, z3]; exact ⟨_, rfl, rfl⟩
theorem HallOk.mono {m : MK} {j k : Nat} (c : HallOk P w K mg base cl j m) (hjk : j ≤ k) : HallOk P w K mg base cl k m := by
  cases m with
  | fld x => exact c
  | kd x tab => exact c
  | meth x f =>
    obtain ⟨C, g, fd, ps, h1, h2, h3, h4, h5, h6⟩ := c
    exact ⟨C, g, fd, ps, h1, h2, h3, h4, h5, h6.mono hjk⟩
  | mk x f =>
    obtain ⟨h0, C, g, fd, ps, i, hi, h1, h2, h3, h4, h5⟩ := c
    exact ⟨h0, C, g, fd, ps, i, by omega, h1, h2, h3, h4, h5⟩
theorem bf_of (X : K.In h) (G : h.Ns mainGlobals mg) (z : ∀ x ∈ (["len", "abs", "max", "min", "int", "str", "list", "tuple", "sum", "all", "range", "enumerate", "zip", "isinstance", "bool", "dict", "sorted", "set"] : List Str), PySem.W.nsIn K mainGlobals x = some none) :
    ∀ x ∈ (["len", "abs", "max", "min", "int", "str", "list", "tuple", "sum", "all", "range", "enumerate", "zip", "isinstance", "bool", "dict", "sorted", "set"] : List Str), mg x = none := fun x hx => PySem.W.mg_none_of X G (z x hx)
end
theorem drop_base {P : Program} {w : World} {K : PySem.W.Frag} {mg : Str → Option Value} {CX : CXT} {k : Nat} {fa : Addr} {x : Str} {sp : Sp}
    (h : ∃ fd : FuncData, (∀ (s : Shared) (u : Value), BindsTo s fd ⟨[u], []⟩ [(x, u)]) ∧ ∀ base : Heap, FnOk P w K mg base CX k fa fd [x] sp) :
    ∃ fd : FuncData, (∀ (s : Shared) (u : Value), BindsTo s fd ⟨[u], []⟩ [(x, u)]) ∧ ∀ base : Heap, K.In base → base.Ns mainGlobals mg → FnOk P w K mg base CX k fa fd [x] sp := by
  obtain ⟨fd, h1, h2⟩ := h
  exact ⟨fd, h1, fun base _ _ => h2 base⟩
theorem q_walk {l : PySem.W.OpenLaw} {k : Nat} {q : Program} {loose : List Str} {XP : (Str → Option Value) → Heap → Prop} {YP : World → Heap → Prop} {d : DefRec} {K : Params → PySem.W.Frag} {x : Str}
    (hn : l.most = some 63) (hdf : d.params.defaults = []) (hr : Room k callerA) (hY : ∀ (w : World) (h : Heap), YP w h → (K w.params).In h)
    (F : ∀ (w : World) (mg : Str → Option Value) (fa : Addr) (h : Heap), (K w.params).In h → h.Ns mainGlobals mg → mg d.name = some (.ref fa) →
      ∃ fd : FuncData, (∀ (s : Shared) (u : Value), BindsTo s fd ⟨[u], []⟩ [(x, u)]) ∧
        ∀ base : Heap, (K w.params).In base → base.Ns mainGlobals mg → FnOk l.prog w (K w.params) mg base (L2.CX l.prog w) k fa fd [x] (spEnd (K w.params))) :
    PySem.W.WalkO q loose XP YP l.row.toRowW d [] (fun f vs => PySem.call f vs) :=
  L2.walk_of (n := 63) (k := k) (x := x) (CX := fun w => L2.CX l.prog w) (sp := fun w => spEnd (K w.params)) hn (by decide) hdf hr hY F (fun _ _ a ns hl _ hS => ⟨a, ns, rfl, hS, hl, fun _ => rfl⟩) fun w H s e s' ⟨_, _, _, _, _, _, _, _, _, _, _, _, z⟩ => z
end Q
set_option Elab.async false
set_option maxRecDepth 100000
set_option linter.all false
set_option maxHeartbeats 2000000
/-! A def that is called on the error that is handled: its trees are read there. -/
namespace Q
open PySem PySem.Spec PyProof.Rows L2
structure CtxU (X : Cx) (sc : Scope) (N : List Str) : Prop where
  scE : X.env.scope = sc
  nm : X.N = N
  nd : N.Nodup
  hu : X.A.units + 65 < cLine
  bf : X.mg "isinstance" = none
  kind : sc.kind = .function
  sto : Stores X sc
/-- it is told whether the error is of that class -/
def IskOk (X : Cx) (p : Addr) (b : Bool) (x : Str) : Prop := ∃ (D : Addr) (oe : Obj), (p, oe) ∈ X.pn ∧ Zc (.ref D) none oe ∧ (∃ vs, oe.data = .fields vs) ∧ ExcC X.K D ∧
  ((∃ C, X.mg x = some (.ref C) ∧ PySem.W.kitOne X.K (.ref D) (.ref C) = some b) ∨ (X.mg x = none ∧ x = "ValueError" ∧ PySem.W.kitOne X.K (.ref D) (.type "ValueError") = some b))
section
variable {X : Cx} {cl : Nat → Addr} {Wx : WX}
theorem call_isk {a D : Addr} {oe : Obj} (C : ExcC X.K D) (hz : Zc (.ref D) none oe) (hf : ∃ vs, oe.data = .fields vs) (hp : (a, oe) ∈ X.pn) : CallR X (.builtin "isinstance") (rIsE X.K D a) := by
  intro pins s σ H xs us Q I r h
  obtain ⟨c, cv, b, rfl, hcv, e, q⟩ := h
  rcases r with _ | ⟨rx, _ | ⟨rt, rr⟩⟩
  cases rr
  cases rx
  obtain rfl := hcv _ rt
  have hget := (I.pin (a, oe) (List.mem_append_left _ hp)).1
  obtain ⟨vs, hv⟩ := hf
  have J : PySem.W.InstAt s.heap a oe D none := by
    rcases oe with ⟨oc, od, oda, osl⟩
    rcases hz with ⟨h1, h2⟩
    dsimp only at h1 h2 hv hget
    subst h1; subst h2; subst hv
    exact ⟨hget, rfl, rfl, trivial⟩
  refine PySem.W.kia_one (PySem.W.handS_kitx_exc C.hg C.hk C.hs C.hd C.ha C.hn C.ht C.hm) I.kIn J e (fun z => nomatch z) fun tk => ?_
  exact ⟨.bl b, H, I.kept (t' := tk) fun _ _ z => z, rfl, q⟩
theorem se_isk {pa : Expr} {fa : Env → Store → R W} {p0 : Addr} {b : Bool} {x : Str} {p q pos : Pos} (ok : IskOk X p0 b x) (hg : Gl X "isinstance") (hm : X.mg "isinstance" = none) (hx : Gl X x) (hd : (x == ("__debug__" : Str)) = false) (ha : SE X cl Wx pa fa) (hp : plainE pa = true) :
    SE X cl Wx (.Call (.Name "isinstance" p) [pa, .Name x q] [] pos) (fun ρ S => (fa ρ S).bind fun w S1 => iskW w p0 b S1) := by
  obtain ⟨D, oe, hpn, hz, hf, C, hcl⟩ := ok
  have key : ∀ {σ : L2.St} {H : Hp} {Q : VK}, rdE X.K X.mg cl Wx (fun ρ S => (fa ρ S).bind fun w S1 => iskW w p0 b S1) σ H Q → ∀ (c : V) (cv : Value), (∀ u, RelV c u → u = cv) → PySem.W.kitOne X.K (.ref D) cv = some b →
      tCB (rIsE X.K D p0) (tCons (rdE X.K X.mg cl Wx fa) (tCons (tC c) tNil)) σ H Q := by
    rintro σ H Q ⟨ω, ρ, S, hr, sl, h⟩ c cv hcv hk
    refine ⟨ω, ρ, S, hr, sl, h.bind.mono fun ω1 S1 H1 w l1 hr1 h1 vx rx => ?_⟩
    unfold iskW at h1
    split at h1
    · split at h1
      · rename_i e
        subst e
        cases rx
        exact ⟨c, cv, b, rfl, hcv, hk, h1.now hr1 _ (.d (.bl _))⟩
      · exact h1.elim
    · exact h1.elim
  rcases hcl with ⟨Cx, hC, hk⟩ | ⟨hn, rfl, hk⟩
  · have hty : PE X (.Name x q) (tC (.ref Cx)) := pe_glob hx hC (show RelV (.ref Cx) (.ref Cx) from rfl) hd
    exact L2PE.weaken (pe_callB (call_isk C hz hf hpn) hg hm (by decide +kernel) (pa_cons ha (pa_cons hty pa_nil (star_cons rfl)) (star_cons hp)) (by decide +kernel) (by decide +kernel) (star_cons hp) (star_any rfl)) fun σ H Q h => key h _ _ (fun u r => r) hk
  · have hty : PE X (.Name "ValueError" q) (tC (.ty "ValueError")) := pe_bltn hx hn (by decide +kernel) rfl (by decide +kernel) (by decide +kernel)
    exact L2PE.weaken (pe_callB (call_isk C hz hf hpn) hg hm (by decide +kernel) (pa_cons ha (pa_cons hty pa_nil (star_cons rfl)) (star_cons hp)) (by decide +kernel) (by decide +kernel) (star_cons hp) (star_any rfl)) fun σ H Q h => key h _ _ (fun u r => r) hk
end
mutual
def hotE : E → Bool
  | .var _ => true
  | .c _ => true
  | .cmp _ a b => hotE a && hotE b
  | .neg a => hotE a
  | .tup es => hotEs es
  | .lst es => hotEs es
  | .newl es => hotEs es
  | .isk a _ _ _ => hotE a
  | .cnt a b => hotE a && hotE b
  | .idx a b => hotE a && hotE b
  | .ext a b => hotE a && hotE b
  | _ => false
def hotEs : Es → Bool
  | .nil => true
  | .cons e es => hotE e && hotEs es
end
def hotT : E → Bool
  | .nt a => hotT a
  | .cmp o a b => hotE (.cmp o a b)
  | .isk a p b x => hotE (.isk a p b x)
  | .or (.cons a (.cons b .nil)) => hotT a && hotT b
  | _ => false
mutual
def okHE (I : Addr → Bool → Str → Prop) : E → Prop
  | .cmp _ a b => okHE I a ∧ okHE I b
  | .neg a => okHE I a
  | .tup es => okHEs I es
  | .lst es => okHEs I es
  | .newl es => okHEs I es
  | .isk a p b x => okHE I a ∧ I p b x
  | .cnt a b => okHE I a ∧ okHE I b
  | .idx a b => okHE I a ∧ okHE I b
  | .ext a b => okHE I a ∧ okHE I b
  | .nt a => okHE I a
  | .or es => okHEs I es
  | _ => True
def okHEs (I : Addr → Bool → Str → Prop) : Es → Prop
  | .nil => True
  | .cons e es => okHE I e ∧ okHEs I es
end
section
variable {cl : Nat → Addr}
mutual
theorem hot_E : ∀ (e : E) (X : Cx) (sc : Scope) (N : List Str) (pe : Expr), CtxU X sc N → hotE e = true → okHE (IskOk X) e → chk e sc N pe = true → SE X cl WF pe (ev e)
  | .var i, X, sc, N, pe, c, hh, ok, h => by
    cases pe <;> try (simp [chk] at h; done)
    simp only [chk, Bool.and_eq_true, decide_eq_true_eq] at h
    obtain ⟨⟨h1, h2⟩, h3⟩ := h
    have q := plainN_of h3
    exact se_var (by rw [c.nm]; exact h1) (by rw [c.scE]; exact vis_of h2) q.1 q.2
  | .c x, X, sc, N, pe, c, hh, ok, h => by
    cases pe <;> try (simp [chk] at h; done)
    exact se_c (by simpa [chk] using h)
  | .cmp o a b, X, sc, N, pe, c, hh, ok, h => by
    cases pe <;> try (simp [chk] at h; done)
    rename_i l ops cs pos
    rcases ops with _ | ⟨op, _ | ⟨op2, ops⟩⟩ <;> rcases cs with _ | ⟨pb, _ | ⟨pb2, cs⟩⟩ <;> try (simp [chk] at h; done)
    simp only [chk, Bool.and_eq_true, decide_eq_true_eq] at h
    obtain ⟨⟨⟨rfl, h1⟩, h2⟩, h3⟩ := h
    simp only [hotE, Bool.and_eq_true] at hh
    exact se_cmp (by have := c.hu; omega) o (hot_E a X sc N _ c hh.1 ok.1 h2) (hot_E b X sc N _ c hh.2 ok.2 h3) h1
  | .tup es, X, sc, N, pe, c, hh, ok, h => by
    cases pe <;> try (simp [chk] at h; done)
    simp only [hotE] at hh
    exact se_tup (hot_A es X sc N _ c hh ok (by simpa [chk] using h))
  | .lst es, X, sc, N, pe, c, hh, ok, h => by
    cases pe <;> try (simp [chk] at h; done)
    simp only [hotE] at hh
    exact se_lst (hot_A es X sc N _ c hh ok (by simpa [chk] using h))
  | .newl es, X, sc, N, pe, c, hh, ok, h => by
    cases pe <;> try (simp [chk] at h; done)
    simp only [hotE] at hh
    exact se_newl (hot_A es X sc N _ c hh ok (by simpa [chk] using h))
  | .isk a p b x, X, sc, N, pe, c, hh, ok, h => by
    cases pe <;> try (simp [chk] at h; done)
    rename_i pf pes kws pos
    rcases pes with _ | ⟨pa, _ | ⟨px, _ | ⟨_, _⟩⟩⟩ <;> rcases kws with _ | ⟨_, _⟩ <;> try (simp [chk] at h; done)
    simp only [chk, Bool.and_eq_true, decide_eq_true_eq] at h
    obtain ⟨⟨⟨⟨⟨⟨h1, h2⟩, h3⟩, h4⟩, h5⟩, h6⟩, h7⟩ := h
    simp only [hotE] at hh
    obtain ⟨p, rfl⟩ := nm_of h1
    obtain ⟨q, rfl⟩ := nm_of h3
    exact se_isk ok.2 (gl_of c.scE h2) c.bf (gl_of c.scE h4) (plainN_of h5).1 (hot_E a X sc N _ c hh ok.1 h7) h6
  | .cnt a b, X, sc, N, pe, c, hh, ok, h => by
    cases pe <;> try (simp [chk] at h; done)
    rename_i pf pes kws pos
    rcases pes with _ | ⟨pb, _ | ⟨_, _⟩⟩ <;> rcases kws with _ | ⟨_, _⟩ <;> try (simp [chk] at h; done)
    cases pf <;> try (simp [chk] at h; done)
    simp only [chk, Bool.and_eq_true, decide_eq_true_eq] at h
    obtain ⟨⟨⟨⟨⟨h1, h2⟩, h3⟩, h4⟩, h5⟩, h6⟩ := h
    simp only [hotE, Bool.and_eq_true] at hh
    exact se_cnt c.hu h1 h2 h3 h4 (hot_E a X sc N _ c hh.1 ok.1 h5) (hot_E b X sc N _ c hh.2 ok.2 h6)
  | .idx a b, X, sc, N, pe, c, hh, ok, h => by
    cases pe <;> try (simp [chk] at h; done)
    rename_i pf pes kws pos
    rcases pes with _ | ⟨pb, _ | ⟨_, _⟩⟩ <;> rcases kws with _ | ⟨_, _⟩ <;> try (simp [chk] at h; done)
    cases pf <;> try (simp [chk] at h; done)
    simp only [chk, Bool.and_eq_true, decide_eq_true_eq] at h
    obtain ⟨⟨⟨⟨⟨h1, h2⟩, h3⟩, h4⟩, h5⟩, h6⟩ := h
    simp only [hotE, Bool.and_eq_true] at hh
    exact se_idx c.hu h1 h2 h3 h4 (hot_E a X sc N _ c hh.1 ok.1 h5) (hot_E b X sc N _ c hh.2 ok.2 h6)
  | .ext a b, X, sc, N, pe, c, hh, ok, h => by
    cases pe <;> try (simp [chk] at h; done)
    rename_i pf pes kws pos
    rcases pes with _ | ⟨pb, _ | ⟨_, _⟩⟩ <;> rcases kws with _ | ⟨_, _⟩ <;> try (simp [chk] at h; done)
    cases pf <;> try (simp [chk] at h; done)
    simp only [chk, Bool.and_eq_true, decide_eq_true_eq] at h
    obtain ⟨⟨⟨⟨⟨h1, h2⟩, h3⟩, h4⟩, h5⟩, h6⟩ := h
    simp only [hotE, Bool.and_eq_true] at hh
    exact se_ext h1 h2 h3 h4 (hot_E a X sc N _ c hh.1 ok.1 h5) (hot_E b X sc N _ c hh.2 ok.2 h6)
  | .gl _ _, X, sc, N, pe, c, hh, ok, h => by simp [hotE] at hh
  | .bin _ _ _, X, sc, N, pe, c, hh, ok, h => by simp [hotE] at hh
  | .neg a, X, sc, N, pe, c, hh, ok, h => by
    cases pe <;> try (simp [chk] at h; done)
    simp only [chk, Bool.and_eq_true, decide_eq_true_eq] at h
    obtain ⟨rfl, h2⟩ := h
    simp only [hotE] at hh
    exact se_neg (hot_E a X sc N _ c hh ok h2)
  | .chain _ _ _ _ _, X, sc, N, pe, c, hh, ok, h => by simp [hotE] at hh
  | .chain3 _ _ _ _ _ _ _, X, sc, N, pe, c, hh, ok, h => by simp [hotE] at hh
  | .nt _, X, sc, N, pe, c, hh, ok, h => by simp [hotE] at hh
  | .and _, X, sc, N, pe, c, hh, ok, h => by simp [hotE] at hh
  | .or _, X, sc, N, pe, c, hh, ok, h => by simp [hotE] at hh
  | .ite _ _ _, X, sc, N, pe, c, hh, ok, h => by simp [hotE] at hh
  | .ix _ _, X, sc, N, pe, c, hh, ok, h => by simp [hotE] at hh
  | .sl _ _ _, X, sc, N, pe, c, hh, ok, h => by simp [hotE] at hh
  | .bi _ _, X, sc, N, pe, c, hh, ok, h => by simp [hotE] at hh
  | .isi _ _, X, sc, N, pe, c, hh, ok, h => by simp [hotE] at hh
  | .app _ _, X, sc, N, pe, c, hh, ok, h => by simp [hotE] at hh
  | .call _ _ _, X, sc, N, pe, c, hh, ok, h => by simp [hotE] at hh
  | .comp _ _ _ _ _, X, sc, N, pe, c, hh, ok, h => by simp [hotE] at hh
  | .frz _, X, sc, N, pe, c, hh, ok, h => by simp [hotE] at hh
  | .lrg1 _, X, sc, N, pe, c, hh, ok, h => by simp [hotE] at hh
  | .lrg2 _ _, X, sc, N, pe, c, hh, ok, h => by simp [hotE] at hh
  | .lrg3 _ _ _, X, sc, N, pe, c, hh, ok, h => by simp [hotE] at hh
  | .sl2 _, X, sc, N, pe, c, hh, ok, h => by simp [hotE] at hh
  | .any, X, sc, N, pe, c, hh, ok, h => by simp [hotE] at hh
  | .callE _ _ _, X, sc, N, pe, c, hh, ok, h => by simp [hotE] at hh
  | .opn _ _ _, X, sc, N, pe, c, hh, ok, h => by simp [hotE] at hh
  | .inT _ _, X, sc, N, pe, c, hh, ok, h => by simp [hotE] at hh
  | .newd _, X, sc, N, pe, c, hh, ok, h => by simp [hotE] at hh
  | .meth _ _ _ _, X, sc, N, pe, c, hh, ok, h => by simp [hotE] at hh
  | .mk _ _ _, X, sc, N, pe, c, hh, ok, h => by simp [hotE] at hh
  | .tupw _, X, sc, N, pe, c, hh, ok, h => by simp [hotE] at hh
theorem hot_A : ∀ (es : Es) (X : Cx) (sc : Scope) (N : List Str) (pes : List Expr), CtxU X sc N → hotEs es = true → okHEs (IskOk X) es → chks es sc N pes = true → SA X cl WF pes (evs es)
  | .nil, X, sc, N, pes, c, hh, ok, h => by
    cases pes <;> try (simp [chks] at h; done)
    exact sa_nil
  | .cons e es, X, sc, N, pes, c, hh, ok, h => by
    rcases pes with _ | ⟨pe, pes⟩ <;> try (simp [chks] at h; done)
    simp only [chks, Bool.and_eq_true] at h
    simp only [hotEs, Bool.and_eq_true] at hh
    exact sa_cons h.1.1 (hot_E e X sc N _ c hh.1 ok.1 h.1.2) (hot_A es X sc N _ c hh.2 ok.2 h.2)
end
theorem hot_T : ∀ (e : E) (X : Cx) (sc : Scope) (N : List Str) (pe : Expr), CtxU X sc N → hotT e = true → okHE (IskOk X) e → chk e sc N pe = true → ST X cl WF pe (evT e)
  | .nt a, X, sc, N, pe, c, hh, ok, h => by
    cases pe <;> try (simp [chk] at h; done)
    simp only [chk, Bool.and_eq_true, decide_eq_true_eq] at h
    obtain ⟨rfl, h2⟩ := h
    exact st_not (hot_T a X sc N _ c (by simpa [hotT] using hh) ok h2)
  | .cmp o a b, X, sc, N, pe, c, hh, ok, h => by
    cases pe <;> try (simp [chk] at h; done)
    rename_i l ops cs pos
    rcases ops with _ | ⟨op, _ | ⟨op2, ops⟩⟩ <;> rcases cs with _ | ⟨pb, _ | ⟨pb2, cs⟩⟩ <;> try (simp [chk] at h; done)
    simp only [chk, Bool.and_eq_true, decide_eq_true_eq] at h
    obtain ⟨⟨⟨rfl, h1⟩, h2⟩, h3⟩ := h
    simp only [hotT, hotE, Bool.and_eq_true] at hh
    exact st_cmp (by have := c.hu; omega) o (hot_E a X sc N _ c hh.1 ok.1 h2) (hot_E b X sc N _ c hh.2 ok.2 h3) h1
  | .isk a p b x, X, sc, N, pe, c, hh, ok, h => by
    have e := hot_E (cl := cl) (.isk a p b x) X sc N pe c (by simpa [hotT] using hh) ok h
    cases pe <;> try (simp [chk] at h; done)
    rename_i pf pes kws pos
    rcases pes with _ | ⟨pa, _ | ⟨px, _ | ⟨_, _⟩⟩⟩ <;> rcases kws with _ | ⟨_, _⟩ <;> try (simp [chk] at h; done)
    simp only [chk, Bool.and_eq_true, decide_eq_true_eq] at h
    obtain ⟨p, rfl⟩ := nm_of h.1.1.1.1.1.1
    refine L2PT.weaken (st_val e (by intro _; rfl)) ?_
    rintro σ H Q ⟨ω, ρ, S, hr, sl, h⟩
    exact ⟨ω, ρ, S, hr, sl, h⟩
  | .or (.cons a (.cons b .nil)), X, sc, N, pe, c, hh, ok, h => by
    cases pe <;> try (simp [chk] at h; done)
    rename_i op pes pos
    simp only [chk, Bool.and_eq_true, decide_eq_true_eq] at h
    obtain ⟨rfl, h2⟩ := h
    rcases pes with _ | ⟨pe, _ | ⟨pe2, _ | ⟨_, _⟩⟩⟩ <;> try (simp [chks] at h2; done)
    simp only [chks, Bool.and_eq_true] at h2
    simp only [hotT, Bool.and_eq_true] at hh
    have A := hot_T a X sc N _ c hh.1 ok.1 h2.1.2
    have B := hot_T b X sc N _ c hh.2 ok.2.1 h2.2.1.2
    exact (sw_or A (sw_or1 B)).pt
  | .or .nil, X, sc, N, pe, c, hh, ok, h => by simp [hotT] at hh
  | .or (.cons _ .nil), X, sc, N, pe, c, hh, ok, h => by simp [hotT] at hh
  | .or (.cons _ (.cons _ (.cons _ _))), X, sc, N, pe, c, hh, ok, h => by simp [hotT] at hh
  | .var _, X, sc, N, pe, c, hh, ok, h => by simp [hotT] at hh
  | .c _, X, sc, N, pe, c, hh, ok, h => by simp [hotT] at hh
  | .gl _ _, X, sc, N, pe, c, hh, ok, h => by simp [hotT] at hh
  | .bin _ _ _, X, sc, N, pe, c, hh, ok, h => by simp [hotT] at hh
  | .neg _, X, sc, N, pe, c, hh, ok, h => by simp [hotT] at hh
  | .chain _ _ _ _ _, X, sc, N, pe, c, hh, ok, h => by simp [hotT] at hh
  | .chain3 _ _ _ _ _ _ _, X, sc, N, pe, c, hh, ok, h => by simp [hotT] at hh
  | .and _, X, sc, N, pe, c, hh, ok, h => by simp [hotT] at hh
  | .ite _ _ _, X, sc, N, pe, c, hh, ok, h => by simp [hotT] at hh
  | .tup _, X, sc, N, pe, c, hh, ok, h => by simp [hotT] at hh
  | .lst _, X, sc, N, pe, c, hh, ok, h => by simp [hotT] at hh
  | .newl _, X, sc, N, pe, c, hh, ok, h => by simp [hotT] at hh
  | .ix _ _, X, sc, N, pe, c, hh, ok, h => by simp [hotT] at hh
  | .sl _ _ _, X, sc, N, pe, c, hh, ok, h => by simp [hotT] at hh
  | .bi _ _, X, sc, N, pe, c, hh, ok, h => by simp [hotT] at hh
  | .isi _ _, X, sc, N, pe, c, hh, ok, h => by simp [hotT] at hh
  | .app _ _, X, sc, N, pe, c, hh, ok, h => by simp [hotT] at hh
  | .ext _ _, X, sc, N, pe, c, hh, ok, h => by simp [hotT] at hh
  | .call _ _ _, X, sc, N, pe, c, hh, ok, h => by simp [hotT] at hh
  | .comp _ _ _ _ _, X, sc, N, pe, c, hh, ok, h => by simp [hotT] at hh
  | .frz _, X, sc, N, pe, c, hh, ok, h => by simp [hotT] at hh
  | .lrg1 _, X, sc, N, pe, c, hh, ok, h => by simp [hotT] at hh
  | .lrg2 _ _, X, sc, N, pe, c, hh, ok, h => by simp [hotT] at hh
  | .lrg3 _ _ _, X, sc, N, pe, c, hh, ok, h => by simp [hotT] at hh
  | .sl2 _, X, sc, N, pe, c, hh, ok, h => by simp [hotT] at hh
  | .any, X, sc, N, pe, c, hh, ok, h => by simp [hotT] at hh
  | .cnt _ _, X, sc, N, pe, c, hh, ok, h => by simp [hotT] at hh
  | .idx _ _, X, sc, N, pe, c, hh, ok, h => by simp [hotT] at hh
  | .callE _ _ _, X, sc, N, pe, c, hh, ok, h => by simp [hotT] at hh
  | .opn _ _ _, X, sc, N, pe, c, hh, ok, h => by simp [hotT] at hh
  | .inT _ _, X, sc, N, pe, c, hh, ok, h => by simp [hotT] at hh
  | .newd _, X, sc, N, pe, c, hh, ok, h => by simp [hotT] at hh
  | .meth _ _ _ _, X, sc, N, pe, c, hh, ok, h => by simp [hotT] at hh
  | .mk _ _ _, X, sc, N, pe, c, hh, ok, h => by simp [hotT] at hh
  | .tupw _, X, sc, N, pe, c, hh, ok, h => by simp [hotT] at hh
mutual
def hotS : St → Bool
  | .set _ e => hotE e
  | .ex e => hotE e
  | .ife c a b => hotT c && hotB a && hotB b
  | .ret e => hotE e
  | _ => false
def hotB : Sts → Bool
  | .nil => true
  | .cons s r => hotS s && hotB r
end
mutual
def okHS (I : Addr → Bool → Str → Prop) : St → Prop
  | .set _ e => okHE I e
  | .ex e => okHE I e
  | .ife c a b => okHE I c ∧ okHB I a ∧ okHB I b
  | .ret e => okHE I e
  | _ => True
def okHB (I : Addr → Bool → Str → Prop) : Sts → Prop
  | .nil => True
  | .cons s r => okHS I s ∧ okHB I r
end
theorem hs_set {X : Cx} {i : Nat} {x : Str} {py pos : Pos} {pa : Expr} {fa : Env → Store → R W} {sc : Scope} {N : List Str} (c : CtxU X sc N) (hi : N[i]? = some x) (hx : locB sc x = true) (hw : setOk sc x py pa = true) (ha : SE X cl WF pa fa) :
    SS X cl WF (.Assign [.Name x py] pa pos) (fun ρ S => (fa ρ S).flE ρ fun w S1 => .nx (ρ.set i (some w)) S1) := by
  obtain ⟨h1, h2⟩ := c.sto x hx
  refine L2PS.weaken (ps_set (i := i) (by rw [c.nm]; exact c.nd) (by rw [c.nm]; exact hi) h1 ha (set_sw c.scE c.kind hw) h2) ?_
  rintro D σ H ⟨ω, ρ, S, hr, sl, h⟩
  exact ⟨ω, ρ, S, hr, sl, (h.flE sl).mono fun ω1 S1 H1 w l1 hr1 h1 x rx => PostS.now h1 hr1 ((sl.mono l1).set i rx)⟩
mutual
theorem hot_S : ∀ (s : St) (X : Cx) (sc : Scope) (N : List Str) (ps : Stmt), CtxU X sc N → hotS s = true → okHS (IskOk X) s → chkS s sc N ps = true → SS X cl WF ps (evS s)
  | .set i e, X, sc, N, ps, c, hh, ok, h => by
    obtain ⟨x, py, pe, pos, rfl, h1, h2, h3, h4⟩ := inv_set h
    simp only [hotS] at hh
    exact hs_set c h1 h2 h3 (hot_E e X sc N _ c hh ok h4)
  | .ex e, X, sc, N, ps, c, hh, ok, h => by
    obtain ⟨pe, pos, rfl, h1, h2⟩ := inv_ex h
    simp only [hotS] at hh
    exact ss_ex h1 (hot_E e X sc N _ c hh ok h2)
  | .ife t a b, X, sc, N, ps, c, hh, ok, h => by
    obtain ⟨pe, pa, pb, pos, rfl, h1, h2, h3⟩ := inv_ife h
    simp only [hotS, Bool.and_eq_true] at hh
    exact ss_ife (hot_T t X sc N _ c hh.1.1 ok.1 h1) (hot_B a X sc N _ c hh.1.2 ok.2.1 h2) (hot_B b X sc N _ c hh.2 ok.2.2 h3)
  | .ret e, X, sc, N, ps, c, hh, ok, h => by
    obtain ⟨pe, pos, rfl, h1⟩ := inv_ret h
    simp only [hotS] at hh
    exact ss_ret (hot_E e X sc N _ c hh ok h1)
  | .setc .., X, sc, N, ps, c, hh, ok, h => by simp [hotS] at hh
  | .tgt .., X, sc, N, ps, c, hh, ok, h => by simp [hotS] at hh
  | .par .., X, sc, N, ps, c, hh, ok, h => by simp [hotS] at hh
  | .for_ .., X, sc, N, ps, c, hh, ok, h => by simp [hotS] at hh
  | .whl .., X, sc, N, ps, c, hh, ok, h => by simp [hotS] at hh
  | .retN, X, sc, N, ps, c, hh, ok, h => by simp [hotS] at hh
  | .rais .., X, sc, N, ps, c, hh, ok, h => by simp [hotS] at hh
  | .frzV .., X, sc, N, ps, c, hh, ok, h => by simp [hotS] at hh
  | .any, X, sc, N, ps, c, hh, ok, h => by simp [hotS] at hh
  | .tryA .., X, sc, N, ps, c, hh, ok, h => by simp [hotS] at hh
  | .tryC .., X, sc, N, ps, c, hh, ok, h => by simp [hotS] at hh
  | .sto .., X, sc, N, ps, c, hh, ok, h => by simp [hotS] at hh
  | .unp .., X, sc, N, ps, c, hh, ok, h => by simp [hotS] at hh
theorem hot_B : ∀ (s : Sts) (X : Cx) (sc : Scope) (N : List Str) (ps : List Stmt), CtxU X sc N → hotB s = true → okHB (IskOk X) s → chkB s sc N ps = true → SB X cl WF ps (evB s)
  | .nil, X, sc, N, ps, c, hh, ok, h => by
    cases inv_nil h
    exact sb_nil
  | .cons s r, X, sc, N, ps, c, hh, ok, h => by
    simp only [hotB, Bool.and_eq_true] at hh
    rcases inv_cons h with ⟨i, rfl, h1⟩ | ⟨p, qs, rfl, h1, h2⟩
    · simp [hotS] at hh
    · exact sb_cons (hot_S s X sc N _ c hh.1 ok.1 h1) (hot_B r X sc N _ c hh.2 ok.2 h2)
end
end
section
variable {P : Program} {w : World} {K : PySem.W.Frag} {mg : Str → Option Value} {base : Heap} {cl : Nat → Addr}
theorem def_okC {x qual p0 : Str} {st : Stmt} {f : Addr} {fd : FuncData} {N : List Str} {k : Nat} {body : Nat → Addr → Sts} {cs : List Nat} (F : L2.Fun K x qual st f fd) (Sc : FnScope N [p0] (defScope st)) (hc : ∀ c a, chkB (body c a) (defScope st) N (defBody st) = true)
    (bf : mg "isinstance" = none) (hot : ∀ c a, hotB (body c a) = true)
    (isk : ∀ c ∈ cs, ∀ (a : Addr) (oe : Obj) (X : Cx), X.K = K → X.mg = mg → (a, oe) ∈ X.pn → Zc (.ref (cl c)) none oe → (∃ vs, oe.data = .fields vs) → okHB (IskOk X) (body c a)) :
    FnC P w K mg base (k + 1) f fd [p0] (spC K mg cl cs (fun c a => defF true N.length 1 (body c a))) := by
  obtain ⟨oc, od, kV, doc, pm, an, cdv, ct, osl, rfl, lk, hcd⟩ := F.ex
  refine ⟨fun p vs H Q sp => by rw [sp.1]; rfl, fun A outer s H args us vs Q p hr hpin e0 hb r hsp => ?_⟩
  have KX : K.In s.heap := e0.mod.kin.keeps fun b o e => (e0.bs b o e).1
  have lim : s.heap.NoLimit := e0.mod.nolimit.keeps fun b o e => (e0.bs b o e).1
  have par : ∀ y ∈ [p0].zip us, (defScope st).names.lookup y.1 = some .local ∨ ((defScope st).names.lookup y.1 = some .cell ∧ ((cellsFrom (s.heap.objs.size + 1) (defScope st).names []).lookup y.1).isSome = true) := by
    rintro ⟨n, v⟩ hy
    rcases Sc.par n (List.of_mem_zip hy).1 with q | q
    · exact .inl q
    · exact .inr ⟨q, PySem.W.cellsFrom_some _ _ _ (.inl q)⟩
  have hl : vs.length = [p0].length := by rw [hsp.1]; rfl
  refine codeAny_call_function hr.depth (KX _ _ lk) rfl Sc.co Sc.gen rfl (PySem.W.codeRec_of KX hcd) (hb _ _ _ _ (wpAny_newFunctionEnv_cells Sc.kind par fun env he s1 inC => ?_))
  subst he
  refine ⟨lim.keeps inC.toInCall.keep, codeAny_func ?_⟩
  have I := L2H.inv_startH (CX := L2.CX P w) (P := P) (w := w) (K := K) (mg := mg) (base := base) (N := N) (qual := qual) (scope := defScope st) (E := fun _ _ _ => False) Sc hpin e0 hl r inC
  obtain ⟨ev, c, ω, S, d, S2, hcs, hz, hfl, hr0, hf, hq⟩ := hsp
  subst ev
  have rm := hr.deeper (envOfC qual (defScope st) s.heap.objs.size f cdv)
  have cx : CtxU (L2H.cxH (L2.CX P w) P w K mg base N qual (defScope st) f cdv A outer s H (fun _ _ _ => False) p) (defScope st) N :=
    ⟨rfl, rfl, Sc.nd, by have := rm.un; show (A.deeper _).units + 65 < _; omega, bf, Sc.kind, fun x hx => ⟨loc_of hx, .inl rfl⟩⟩
  have run := hot_B (cl := cl) (body c p.1) _ _ _ (defBody st) cx (hot c p.1) (isk c hcs p.1 p.2 _ rfl rfl (List.mem_cons_self ..) hz hfl) (hc c p.1)
  have rws : RepWs K mg ω [.at_ p.1] [.ref p.1] := .cons (.at_ _) .nil
  have sl := sl_start (N := N) rws (show ([W.at_ p.1] : List W).length = 1 from rfl)
  have hff : fin true S (evB (body c p.1) ([W.at_ p.1].map some ++ List.replicate (N.length - 1) none) S) = .ok (.d d) S2 := by
    have hf' : defF true N.length 1 (body c p.1) [.at_ p.1] S = .ok (.d d) S2 := hf
    unfold defF at hf'
    rw [if_pos (show ([W.at_ p.1] : List W).length = 1 from rfl)] at hf'
    exact hf'
  have endW : ∀ {wv : W} {S' : Store}, finW true S wv S' = .ok (.d d) S2 → ∀ (ω' : Wd) (H' : Hp) (x : V), ω.le ω' → HRep K mg ω' S' H' → RepW K mg ω' wv x → Q x H' := by
    intro wv S' e ω' H' x l hr' rx
    unfold finW at e
    rw [if_pos rfl] at e
    split at e
    · split at e
      · rename_i kp
        cases e
        exact hq { ω' with mu := ω.mu } H' x ⟨l.s, ⟨[], by simp⟩, l.h, l.f⟩ (hr0.trunc l hr' kp) rx.of_d
      · cases e
    · cases e
  refine wpAny_mono (run.run [] s1 _ H { nx := fun _ H' => Q .non H', rt := Q } I ⟨ω, _, S, hr0, sl, ?_⟩) (fun fl s' hs => ?_) fun e s' hs => hs
  · cases er : evB (body c p.1) ([W.at_ p.1].map some ++ List.replicate (N.length - 1) none) S with
    | nx ρ' S' =>
      rw [er] at hff
      exact fun ω' σ' H' l hr' sl' => endW (wv := .d .non) (S' := S') hff ω' H' _ l hr' (.d .non)
    | rt wv S' =>
      rw [er] at hff
      exact fun ω' H' x l hr' rx => endW (wv := wv) (S' := S') hff ω' H' x l hr' rx
    | exc n ρ' S' =>
      rw [er] at hff
      have z : finX true S n S' = .ok (.d d) S2 := hff
      unfold finX at z
      rw [if_pos rfl] at z
      split at z <;> cases z
    | stuck =>
      rw [er] at hff
      cases hff
  · rcases fl with _ | _ | _ | u
    · obtain ⟨σ', H', J, q⟩ := hs
      exact ⟨.non, H', J.os, J.bare, J.base, J.hok, rfl, q⟩
    · obtain ⟨_, _, _, q⟩ := hs
      exact q.elim
    · obtain ⟨_, _, _, q⟩ := hs
      exact q.elim
    · obtain ⟨v, σ', H', J, rv, q⟩ := hs
      exact ⟨v, H', J.os, J.bare, J.base, J.hok, rv, q⟩
end
end Q
set_option Elab.async false
set_option maxRecDepth 100000
set_option linter.all false
set_option maxHeartbeats 2000000
/-! The errors' classes as the top leaves them; the def that is called on an error. -/
namespace Q
open PySem PySem.Spec PyProof.Rows L2
/-- is class c a class n -/
def isC (c n : Nat) : Bool := decide (c = n) || decide (n = 0)
/-- a class that is named -/
def FactN (K : PySem.W.Frag) (x : Str) (C : Addr) : Prop := PySem.W.nsIn K mainGlobals x = some (some (.ref C)) ∧ PySem.W.hasDictIn K C = true ∧ PySem.W.typeIn K (.ref C) = some (.type "type") ∧
  PySem.W.subIn K (.ref C) (.ref C) = some true ∧ PySem.W.subIn K (.ref C) (.type "BaseException") = some true
/-- a class whose errors are asked -/
def FactR (K : PySem.W.Frag) (C : Addr) : Prop := PySem.W.findIn K (.ref C) "__getattribute__" = some (some (.builtin "BaseException.__getattribute__")) ∧ PySem.W.findIn K (.ref C) "__getattr__" = some none ∧
  PySem.W.findIn K (.ref C) "__class__" = some (some (.builtin "object.__class__")) ∧ PySem.W.mroIn K C (.type "object") = some true ∧ PySem.W.subIn K (.ref C) (.type "ValueError") = some true
def FactG (K : PySem.W.Frag) : Prop := PySem.W.specialIn K (.builtin "object.__class__") "__get__" = some (some (.builtin "getset_descriptor.__get__")) ∧ PySem.W.takesIn K (.builtin "object.__class__") = some true
section
variable {K : PySem.W.Frag} {mg : Str → Option Value} {h base : Heap} {P : Program} {w : World} {cl : Nat → Addr}
theorem excC_of {x : Str} {C : Addr} (g : FactG K) (n : FactN K x C) (r : FactR K C) : ExcC K C := ⟨r.1, r.2.1, n.2.2.2.2, n.2.1, r.2.2.1, g.1, g.2, r.2.2.2.1⟩
theorem kit_of {x : Str} {C D : Addr} {b : Bool} (n : FactN K x C) (s : PySem.W.subIn K (.ref D) (.ref C) = some b) : PySem.W.kitOne K (.ref D) (.ref C) = some b := by
  obtain ⟨_, h2, h3, h4, _⟩ := n
  unfold PySem.W.kitOne
  by_cases e : D = C
  · subst e
    rw [h4] at s
    rw [if_pos (by simp), s]
  · rw [if_neg (by simpa using e)]
    unfold PySem.W.kitCls
    obtain ⟨cd, hc, _⟩ := PySem.W.any_some h2
    have e2 : ((PySem.W.clsIn K C).isSome && PySem.W.typeIn K (.ref C) == some (.type "type")) = true := by rw [hc, h3]; rfl
    dsimp only
    rw [if_pos e2]
    exact s
theorem kit_ve {C : Addr} (r : FactR K C) : PySem.W.kitOne K (.ref C) (.type "ValueError") = some true := by
  unfold PySem.W.kitOne
  rw [if_neg (by simp)]
  unfold PySem.W.kitCls
  dsimp only
  rw [if_pos (by decide +kernel)]
  exact r.2.2.2.2
theorem isk_of {X : Cx} {a D C : Addr} {oe : Obj} {x y : Str} {b : Bool} (Y : K.In h) (G : h.Ns mainGlobals mg) (hK : X.K = K) (hm : X.mg = mg) (hp : (a, oe) ∈ X.pn) (hz : Zc (.ref D) none oe) (hf : ∃ vs, oe.data = .fields vs) (g : FactG K) (n : FactN K y D) (r : FactR K D)
    (m : FactN K x C) (s : PySem.W.subIn K (.ref D) (.ref C) = some b) : IskOk X a b x := by
  refine ⟨D, oe, hp, hz, hf, by rw [hK]; exact excC_of g n r, .inl ⟨C, by rw [hm]; exact PySem.W.mg_of Y G m.1, by rw [hK]; exact kit_of m s⟩⟩
theorem isk_ve {X : Cx} {a D : Addr} {oe : Obj} {y : Str} (Y : K.In h) (G : h.Ns mainGlobals mg) (hK : X.K = K) (hm : X.mg = mg) (hp : (a, oe) ∈ X.pn) (hz : Zc (.ref D) none oe) (hf : ∃ vs, oe.data = .fields vs) (g : FactG K) (n : FactN K y D) (r : FactR K D)
    (v : PySem.W.nsIn K mainGlobals "ValueError" = some none) : IskOk X a true "ValueError" :=
  ⟨D, oe, hp, hz, hf, by rw [hK]; exact excC_of g n r, .inr ⟨by rw [hm]; exact PySem.W.mg_none_of Y G v, rfl, by rw [hK]; exact kit_ve r⟩⟩
theorem exm_of {D C : Addr} {x : Str} (m : FactN K x C) (s : PySem.W.subIn K (.ref D) (.ref C) = some true) : PySem.W.exmOne K (.ref D) (.ref C) = some true := PySem.W.exm_ref m.2.2.2.2 m.2.1 m.2.2.1 s
/-- the def that is called on an error, from its facts and its look -/
theorem hot_call {x p0 : Str} {st : Stmt} {N : List Str} {k : Nat} {body : Nat → Addr → Sts} {cs : List Nat} (X : K.In h) (G : h.Ns mainGlobals mg) (f : Fact K x st) (Sc : FnScope N [p0] (defScope st)) (hc : ∀ c a, chkB (body c a) (defScope st) N (defBody st) = true)
    (bf : mg "isinstance" = none) (hot : ∀ c a, hotB (body c a) = true)
    (hb : ∀ (kV doc pm : Value) (an : Option Addr) (cdv ct : Value) (us : List Value), us.length = [p0].length → bindArgs (PySem.W.fnOf x x (defArgs st) (defBody st) (defScope st) .none kV doc pm an cdv ct) ⟨us, []⟩ = pure ([p0].zip us))
    (isk : ∀ c ∈ cs, ∀ (a : Addr) (oe : Obj) (X : Cx), X.K = K → X.mg = mg → (a, oe) ∈ X.pn → Zc (.ref (cl c)) none oe → (∃ vs, oe.data = .fields vs) → okHB (IskOk X) (body c a))
    (res : Nat → D) (hr : ∀ c ∈ cs, ∀ (a : Addr) (S : Store), defF true N.length 1 (body c a) [.at_ a] S = .ok (.d (res c)) S) :
    HotCall P w K mg base cl (k + 1) x (fun c a => defF true N.length 1 (body c a)) cs := by
  obtain ⟨f, oc, od, kV, dc, pm, an, cd, ct, sl, h1, h2, h3, h4⟩ := f
  have F := fun_mk (st := st) h2 h3 h4
  exact ⟨f, _, [p0], PySem.W.mg_of X G h1, h4, F.binds hb, def_okC F Sc hc bf hot isk, fun c hc a S => (hr c hc a S).trans (hr c hc 0 S).symm⟩
theorem HotCall.mono {x : Str} {f : Nat → Addr → Fn} {cs : List Nat} {j k : Nat} (c : HotCall P w K mg base cl j x f cs) (hjk : j ≤ k) : HotCall P w K mg base cl k x f cs := by
  obtain ⟨a, fd, ps, h1, h2, h3, h4, h5⟩ := c
  exact ⟨a, fd, ps, h1, h2, h3, ⟨h4.len, fun A outer s H args us vs Q p hr => h4.run A outer s H args us vs Q p (hr.mono hjk)⟩, h5⟩
end
end Q
set_option Elab.async false
set_option maxRecDepth 100000
set_option linter.all false
set_option maxHeartbeats 1000000
/-! Reckoning by simp. -/
namespace Q
open PySem
section
variable (ρ : Env) (S : Store) (a b c : E) (es : Es)
@[simp] theorem lookV_zero (w : W) (ρ : Env) (S : Store) : lookV (some w :: ρ) 0 S = .ok w S := nf rfl
@[simp] theorem lookV_succ (x : Option W) (ρ : Env) (i : Nat) (S : Store) : lookV (x :: ρ) (i + 1) S = lookV ρ i S := nf rfl
@[simp] theorem ev_var (i : Nat) : ev (.var i) ρ S = lookV ρ i S := nf rfl
@[simp] theorem ev_c (x : D) : ev (.c x) ρ S = .ok (.d x) S := nf rfl
@[simp] theorem ev_gl (x : Str) (v : D) : ev (.gl x v) ρ S = .ok (.d v) S := nf rfl
@[simp] theorem ev_bin (o : Bop) : ev (.bin o a b) ρ S = (ev a ρ S).bind fun x S1 => (ev b ρ S1).bind fun y S2 => op2 (bop o) x y S2 := nf rfl
@[simp] theorem ev_neg : ev (.neg a) ρ S = (ev a ρ S).bind fun x S1 => op1 negD x S1 := nf rfl
@[simp] theorem ev_cmp (o : Cop) : ev (.cmp o a b) ρ S = (ev a ρ S).bind fun x S1 => (ev b ρ S1).bind fun y S2 => op2b (cop o) x y S2 := nf rfl
@[simp] theorem ev_chain (o o' : Cop) : ev (.chain o o' a b c) ρ S = (ev a ρ S).bind fun x S1 => (ev b ρ S1).bind fun y S2 => (op2b (cop o) x y S2).bind fun r S3 => (asB r S3).bind fun k S4 =>
      if k = true then (ev c ρ S4).bind fun z S5 => op2b (cop o') y z S5 else .ok (.d (.bl false)) S4 := nf rfl
@[simp] theorem ev_chain3 {d : E} (o o' o'' : Cop) : ev (.chain3 o o' o'' a b c d) ρ S = (ev a ρ S).bind fun x S1 => (ev b ρ S1).bind fun y S2 => (op2b (cop o) x y S2).bind fun r S3 => (asB r S3).bind fun k S4 =>
      if k = true then (ev c ρ S4).bind fun z S5 => (op2b (cop o') y z S5).bind fun r S6 => (asB r S6).bind fun k S7 => if k = true then (ev d ρ S7).bind fun u S8 => op2b (cop o'') z u S8 else .ok (.d (.bl false)) S7
      else .ok (.d (.bl false)) S4 := nf rfl
@[simp] theorem ev_nt : ev (.nt a) ρ S = (ev a ρ S).bind fun x S1 => (asB x S1).bind fun k S2 => .ok (.d (.bl (!k))) S2 := nf rfl
@[simp] theorem ev_and : ev (.and es) ρ S = evAnd es ρ S := nf rfl
@[simp] theorem ev_or : ev (.or es) ρ S = evOr es ρ S := nf rfl
@[simp] theorem ev_ite : ev (.ite c a b) ρ S = (evT c ρ S).bind fun k S1 => if k = true then ev a ρ S1 else ev b ρ S1 := nf rfl
@[simp] theorem ev_tup : ev (.tup es) ρ S = (evs es ρ S).bind fun ws S1 => tupOf ws S1 := nf rfl
@[simp] theorem ev_lst : ev (.lst es) ρ S = (evs es ρ S).bind fun ws S1 => lstOf ws S1 := nf rfl
@[simp] theorem ev_newl : ev (.newl es) ρ S = (evs es ρ S).bind fun ws S1 => newlOf ws S1 := nf rfl
@[simp] theorem ev_ix : ev (.ix a b) ρ S = (ev a ρ S).bind fun x S1 => (ev b ρ S1).bind fun y S2 => ixW x y S2 := nf rfl
@[simp] theorem ev_sl (lo hi : Eo) : ev (.sl a lo hi) ρ S = (ev a ρ S).bind fun x S1 => (evo lo ρ S1).bind fun l S2 => (evo hi ρ S2).bind fun h S3 => slW x l h S3 := nf rfl
@[simp] theorem ev_bi (f : Bi) : ev (.bi f es) ρ S = (evs es ρ S).bind fun ws S1 => biW f ws S1 := nf rfl
@[simp] theorem ev_isi (t : Ty) : ev (.isi a t) ρ S = (ev a ρ S).bind fun x S1 => isiW x t S1 := nf rfl
@[simp] theorem ev_app : ev (.app a b) ρ S = (ev a ρ S).bind fun x S1 => (recvL x S1).bind fun x S2 => (ev b ρ S2).bind fun y S3 => appW x y S3 := nf rfl
@[simp] theorem ev_ext : ev (.ext a b) ρ S = (ev a ρ S).bind fun x S1 => (recvL x S1).bind fun x S2 => (ev b ρ S2).bind fun y S3 => extW x y S3 := nf rfl
@[simp] theorem ev_call (x : Str) (f : Fn) : ev (.call x f es) ρ S = (evs es ρ S).bind fun ws S1 => f ws S1 := nf rfl
@[simp] theorem ev_comp (own : List (Str × Nat)) (tg : Tg) (it : It) (cond : Eo) (elt : E) : ev (.comp own tg it cond elt) ρ S = (evIt it ρ S).bind fun items S1 => if items.length ≤ sizeLine then (compL tg (own.map (·.2)) (evC cond) (ev elt) ρ items S1).bind fun ys S2 => .ok (.d (.lst ys)) S2 else .stuck := nf rfl
@[simp] theorem ev_frz : ev (.frz a) ρ S = (ev a ρ S).bind fun x S1 => frzW x S1 := nf rfl
@[simp] theorem ev_any : ev .any ρ S = .stuck := nf rfl
@[simp] theorem ev_isk (p : PySem.Addr) (k : Bool) (x : Str) : ev (.isk a p k x) ρ S = (ev a ρ S).bind fun w S1 => iskW w p k S1 := nf rfl
@[simp] theorem ev_cnt : ev (.cnt a b) ρ S = (ev a ρ S).bind fun x S1 => (recvL x S1).bind fun x S2 => (ev b ρ S2).bind fun y S3 => cntW x y S3 := nf rfl
@[simp] theorem ev_idx : ev (.idx a b) ρ S = (ev a ρ S).bind fun x S1 => (recvL x S1).bind fun x S2 => (ev b ρ S2).bind fun y S3 => idxW x y S3 := nf rfl
@[simp] theorem ev_callE (tab : List (Str × Fn)) : ev (.callE a tab es) ρ S = (ev a ρ S).bind fun w S1 => match tabW w tab with
    | some f => (evs es ρ S1).bind fun ws S2 => f ws S2
    | none => .stuck := nf rfl
@[simp] theorem ev_opn (o : Opr) : ev (.opn o a es) ρ S = (ev a ρ S).bind fun w S1 => (preW o w S1).bind fun w S2 => (evs es ρ S2).bind fun ws S3 => opW o w ws S3 := nf rfl
@[simp] theorem ev_inT : ev (.inT es a) ρ S = (evs es ρ S).bind fun ks S1 => (ev a ρ S1).bind fun w S2 => inTW ks w S2 := nf rfl
@[simp] theorem ev_newdT : ev (.newd true) ρ S = .ok (.loc S.length) (S ++ [.dT []]) := nf rfl
@[simp] theorem ev_newdK : ev (.newd false) ρ S = .ok (.loc S.length) (S ++ [.dct []]) := nf rfl
@[simp] theorem ev_meth (x : Str) (f : Fn) : ev (.meth a x f es) ρ S = (ev a ρ S).bind fun w S1 => (methW w x S1).bind fun w S2 => (evs es ρ S2).bind fun ws S3 => f (w :: ws) S3 := nf rfl
@[simp] theorem ev_mk (x : Str) (f : Fn) : ev (.mk x f es) ρ S = (evs es ρ S).bind fun ws S1 => mkW f ws S1 := nf rfl
@[simp] theorem ev_tupw : ev (.tupw es) ρ S = (evs es ρ S).bind fun ws S1 => tupwW ws S1 := nf rfl
@[simp] theorem evT_inT : evT (.inT es a) ρ S = ((evs es ρ S).bind fun ks S1 => (ev a ρ S1).bind fun w S2 => inTW ks w S2).bind fun r S3 => asB r S3 := nf rfl
@[simp] theorem evT_meth (x : Str) (f : Fn) : evT (.meth a x f es) ρ S = ((ev a ρ S).bind fun w S1 => (methW w x S1).bind fun w S2 => (evs es ρ S2).bind fun ws S3 => f (w :: ws) S3).bind fun r S4 => asB r S4 := nf rfl
@[simp] theorem evT_isk (p : PySem.Addr) (k : Bool) (x : Str) : evT (.isk a p k x) ρ S = ((ev a ρ S).bind fun w S1 => iskW w p k S1).bind fun r S2 => asB r S2 := nf rfl
@[simp] theorem evT_and : evT (.and es) ρ S = evAndT es ρ S := nf rfl
@[simp] theorem evT_or : evT (.or es) ρ S = evOrT es ρ S := nf rfl
@[simp] theorem evT_nt : evT (.nt a) ρ S = (evT a ρ S).bind fun k S1 => .ok (!k) S1 := nf rfl
@[simp] theorem evT_var (i : Nat) : evT (.var i) ρ S = (lookV ρ i S).bind fun x S1 => truth x S1 := nf rfl
@[simp] theorem evT_cmp (o : Cop) : evT (.cmp o a b) ρ S = (ev a ρ S).bind fun x S1 => (ev b ρ S1).bind fun y S2 => (op2b (cop o) x y S2).bind fun r S3 => asB r S3 := nf rfl
@[simp] theorem evT_chain (o o' : Cop) : evT (.chain o o' a b c) ρ S = (ev a ρ S).bind fun x S1 => (ev b ρ S1).bind fun y S2 => (op2b (cop o) x y S2).bind fun r S3 => (asB r S3).bind fun k S4 =>
      if k = true then (ev c ρ S4).bind fun z S5 => (op2b (cop o') y z S5).bind fun r S6 => asB r S6 else .ok false S4 := nf rfl
@[simp] theorem evT_isi (t : Ty) : evT (.isi a t) ρ S = ((ev a ρ S).bind fun x S1 => isiW x t S1).bind fun r S2 => asB r S2 := nf rfl
@[simp] theorem evT_call (x : Str) (f : Fn) : evT (.call x f es) ρ S = ((evs es ρ S).bind fun ws S1 => f ws S1).bind fun r S2 => asB r S2 := nf rfl
@[simp] theorem evT_bi (f : Bi) : evT (.bi f es) ρ S = ((evs es ρ S).bind fun ws S1 => biW f ws S1).bind fun r S2 => asB r S2 := nf rfl
@[simp] theorem evT_c (k : Bool) : evT (.c (.bl k)) ρ S = .ok k S := nf rfl
@[simp] theorem evAnd_one : evAnd (.cons a .nil) ρ S = ev a ρ S := nf rfl
@[simp] theorem evAnd_cons : evAnd (.cons a (.cons b es)) ρ S = (ev a ρ S).bind fun x S1 => (asB x S1).bind fun k S2 => if k = true then evAnd (.cons b es) ρ S2 else .ok (.d (.bl false)) S2 := nf rfl
@[simp] theorem evOr_one : evOr (.cons a .nil) ρ S = ev a ρ S := nf rfl
@[simp] theorem evOr_cons : evOr (.cons a (.cons b es)) ρ S = (ev a ρ S).bind fun x S1 => (asB x S1).bind fun k S2 => if k = true then .ok (.d (.bl true)) S2 else evOr (.cons b es) ρ S2 := nf rfl
@[simp] theorem evAndT_one : evAndT (.cons a .nil) ρ S = evT a ρ S := nf rfl
@[simp] theorem evAndT_cons : evAndT (.cons a (.cons b es)) ρ S = (evT a ρ S).bind fun k S1 => if k = true then evAndT (.cons b es) ρ S1 else .ok false S1 := nf rfl
@[simp] theorem evOrT_one : evOrT (.cons a .nil) ρ S = evT a ρ S := nf rfl
@[simp] theorem evOrT_cons : evOrT (.cons a (.cons b es)) ρ S = (evT a ρ S).bind fun k S1 => if k = true then .ok true S1 else evOrT (.cons b es) ρ S1 := nf rfl
@[simp] theorem evs_nil : evs .nil ρ S = .ok [] S := nf rfl
@[simp] theorem evs_cons : evs (.cons a es) ρ S = (ev a ρ S).bind fun x S1 => (evs es ρ S1).bind fun xs S2 => .ok (x :: xs) S2 := nf rfl
@[simp] theorem evo_non : evo .non ρ S = .ok none S := nf rfl
@[simp] theorem evo_som : evo (.som a) ρ S = (ev a ρ S).bind fun x S1 => match x with
    | .d (.int i) => .ok (some i) S1
    | _ => .stuck := nf rfl
@[simp] theorem evC_non : evC .non ρ S = .ok true S := nf rfl
@[simp] theorem evC_som : evC (.som a) ρ S = evT a ρ S := nf rfl
@[simp] theorem evIt_seq : evIt (.seq a) ρ S = (ev a ρ S).bind fun x S1 => itSeq x S1 := nf rfl
@[simp] theorem evIt_rng1 : evIt (.rng1 a) ρ S = (ev a ρ S).bind fun x S1 => itR1 x S1 := nf rfl
@[simp] theorem evIt_rng2 : evIt (.rng2 a b) ρ S = (ev a ρ S).bind fun x S1 => (ev b ρ S1).bind fun y S2 => itR2 x y S2 := nf rfl
@[simp] theorem evIt_enum : evIt (.enum a) ρ S = (ev a ρ S).bind fun x S1 => itEnum x S1 := nf rfl
@[simp] theorem evIt_enumN : evIt (.enumN a) ρ S = (ev a ρ S).bind fun x S1 => itEnumN x S1 := nf rfl
@[simp] theorem evIt_zip : evIt (.zip a b) ρ S = (ev a ρ S).bind fun x S1 => (ev b ρ S1).bind fun y S2 => itZip x y S2 := nf rfl
end
section
variable (ρ : Env) (S : Store) (e : E) (s : St) (r : Sts)
@[simp] theorem evS_sto (o : StOp) (a : E) (es : Es) : evS (.sto o a es e) ρ S = (ev e ρ S).flE ρ fun v S1 => (ev a ρ S1).flE ρ fun w S2 => (evs es ρ S2).flE ρ fun ws S3 => (stoW o w ws v S3).flE ρ fun _ S4 => .nx ρ S4 := nf rfl
@[simp] theorem evS_unp (is : List Nat) : evS (.unp is e) ρ S = (ev e ρ S).flE ρ fun w S1 => ofEnv (unpW is w ρ) S1 := nf rfl
@[simp] theorem evS_set (i : Nat) : evS (.set i e) ρ S = (ev e ρ S).flE ρ fun w S1 => .nx (ρ.set i (some w)) S1 := nf rfl
@[simp] theorem evS_setc (i : Nat) (own : List (Str × Nat)) (tg : Tg) (it : It) (cond : Eo) (elt : E) : evS (.setc i own tg it cond elt) ρ S = (ev (.comp own tg it cond elt) ρ S).flE ρ fun w S1 => .nx (ρ.set i (some w)) S1 := nf rfl
@[simp] theorem evS_tgt (t : Tg) : evS (.tgt t e) ρ S = (ev e ρ S).flE ρ fun w S1 => ofEnv (tgW t w ρ) S1 := nf rfl
@[simp] theorem evS_par (i j : Nat) (a b : E) : evS (.par i j a b) ρ S = (ev a ρ S).flE ρ fun x S1 => (ev b ρ S1).flE ρ fun y S2 => .nx ((ρ.set i (some x)).set j (some y)) S2 := nf rfl
@[simp] theorem evS_ex : evS (.ex e) ρ S = (ev e ρ S).flE ρ fun _ S1 => .nx ρ S1 := nf rfl
@[simp] theorem evS_ife (a b : Sts) : evS (.ife e a b) ρ S = (evT e ρ S).flE ρ fun k S1 => if k = true then evB a ρ S1 else evB b ρ S1 := nf rfl
@[simp] theorem evS_for (t : Tg) (it : It) (b : Sts) : evS (.for_ t it b) ρ S = (evIt it ρ S).flE ρ fun items S1 => forL t (evB b) items ρ S1 := nf rfl
@[simp] theorem evS_whl (n : Nat) (b : Sts) : evS (.whl n e b) ρ S = whileL (evT e) (evB b) n ρ S := nf rfl
@[simp] theorem evS_ret : evS (.ret e) ρ S = (ev e ρ S).flE ρ fun w S1 => .rt w S1 := nf rfl
@[simp] theorem evS_retN : evS .retN ρ S = .rt (.d .non) S := nf rfl
@[simp] theorem evS_rais (c : Nat) (x : Str) : evS (.rais c x) ρ S = .exc c ρ S := nf rfl
@[simp] theorem evS_frzV (i : Nat) : evS (.frzV i) ρ S = frzE ρ i S := nf rfl
@[simp] theorem evS_any : evS .any ρ S = .stuck := nf rfl
@[simp] theorem evS_tryA (b : Sts) (i : Nat) (x : Str) (f : Nat → PySem.Addr → Fn) (cs : List Nat) : evS (.tryA b i x f cs) ρ S = catchA (evB b ρ S) i f cs := nf rfl
@[simp] theorem evS_tryC (b : Sts) (d : D) (cs : List Nat) : evS (.tryC b d cs) ρ S = catchC (evB b ρ S) d cs := nf rfl
@[simp] theorem evB_nil : evB .nil ρ S = .nx ρ S := nf rfl
@[simp] theorem evB_cons : evB (.cons s r) ρ S = (evS s ρ S).andThen fun ρ1 S1 => evB r ρ1 S1 := nf rfl
end
@[simp] theorem flE_ok {α : Type} (a : α) (S : Store) (ρ : Env) (f : α → Store → Fl) : (R.ok a S).flE ρ f = f a S := nf rfl
@[simp] theorem flE_exc {α : Type} (c : Nat) (S : Store) (ρ : Env) (f : α → Store → Fl) : (R.exc c S : R α).flE ρ f = .exc c ρ S := nf rfl
@[simp] theorem andThen_nx (ρ : Env) (S : Store) (f : Env → Store → Fl) : (Fl.nx ρ S).andThen f = f ρ S := nf rfl
@[simp] theorem andThen_rt (w : W) (S : Store) (f : Env → Store → Fl) : (Fl.rt w S).andThen f = .rt w S := nf rfl
@[simp] theorem andThen_exc (c : Nat) (ρ : Env) (S : Store) (f : Env → Store → Fl) : (Fl.exc c ρ S).andThen f = .exc c ρ S := nf rfl
@[simp] theorem andThen_stuck (f : Env → Store → Fl) : Fl.stuck.andThen f = .stuck := nf rfl
@[simp] theorem bind_ite {α β : Type} (p : Prop) [Decidable p] (x y : R α) (f : α → Store → R β) : (if p then x else y).bind f = if p then x.bind f else y.bind f := by split <;> rfl
@[simp] theorem flE_ite {α : Type} (p : Prop) [Decidable p] (x y : R α) (ρ : Env) (f : α → Store → Fl) : (if p then x else y).flE ρ f = if p then x.flE ρ f else y.flE ρ f := by split <;> rfl
@[simp] theorem andThen_ite (p : Prop) [Decidable p] (x y : Fl) (f : Env → Store → Fl) : (if p then x else y).andThen f = if p then x.andThen f else y.andThen f := by split <;> rfl
@[simp] theorem catchA_nx (ρ : Env) (S : Store) (i : Nat) (f : Nat → PySem.Addr → Fn) (cs : List Nat) : catchA (.nx ρ S) i f cs = .nx ρ S := nf rfl
@[simp] theorem catchA_rt (w : W) (S : Store) (i : Nat) (f : Nat → PySem.Addr → Fn) (cs : List Nat) : catchA (.rt w S) i f cs = .rt w S := nf rfl
@[simp] theorem catchA_ite (p : Prop) [Decidable p] (x y : Fl) (i : Nat) (f : Nat → PySem.Addr → Fn) (cs : List Nat) : catchA (if p then x else y) i f cs = if p then catchA x i f cs else catchA y i f cs := by split <;> rfl
theorem catchA_exc {c : Nat} {ρ : Env} {S S2 : Store} {i : Nat} {f : Nat → PySem.Addr → Fn} {cs : List Nat} {d : D} (hc : cs.contains c = true) (hi : i < ρ.length) (h : f c 0 [.at_ 0] S = .ok (.d d) S2) : catchA (.exc c ρ S) i f cs = .rt (.d d) S2 := by
  unfold catchA
  dsimp only
  rw [if_pos (by rw [hc, decide_eq_true hi]; rfl), h]
@[simp] theorem catchC_nx (ρ : Env) (S : Store) (d : D) (cs : List Nat) : catchC (.nx ρ S) d cs = .nx ρ S := nf rfl
@[simp] theorem catchC_rt (w : W) (S : Store) (d : D) (cs : List Nat) : catchC (.rt w S) d cs = .rt w S := nf rfl
@[simp] theorem catchC_ite (p : Prop) [Decidable p] (x y : Fl) (d : D) (cs : List Nat) : catchC (if p then x else y) d cs = if p then catchC x d cs else catchC y d cs := by split <;> rfl
theorem catchC_exc {c : Nat} {ρ : Env} {S : Store} {d : D} {cs : List Nat} (hc : cs.contains c = true) : catchC (.exc c ρ S) d cs = .rt (.d d) S := by
  unfold catchC
  dsimp only
  rw [if_pos hc]
/-! values -/
@[simp] theorem iskW_at (p : PySem.Addr) (k : Bool) (S : Store) : iskW (.at_ p) p k S = .ok (.d (.bl k)) S := by
  unfold iskW
  dsimp only
  rw [if_pos rfl]
@[simp] theorem recvL_d (xs : List D) (S : Store) : recvL (.d (.lst xs)) S = .ok (.d (.lst xs)) S := nf rfl
@[simp] theorem cntW_d (xs : List D) (y : D) (S : Store) : cntW (.d (.lst xs)) (.d y) S = ofD (cntD xs y) S := nf rfl
@[simp] theorem idxW_d (xs : List D) (y : D) (S : Store) : idxW (.d (.lst xs)) (.d y) S = ofD (idxD xs y) S := nf rfl
theorem tabW_hd (x : Str) (f : Fn) (r : List (Str × Fn)) : tabW (.d (.fn x)) ((x, f) :: r) = some f := by simp [tabW]
@[simp] theorem view_d (S : Store) (x : D) : view S (.d x) = some x := nf rfl
@[simp] theorem op2_d (f : D → D → Option D) (x y : D) (S : Store) : op2 f (.d x) (.d y) S = ofD (f x y) S := nf rfl
@[simp] theorem op2b_d (f : D → D → Option Bool) (x y : D) (S : Store) : op2b f (.d x) (.d y) S = ofB (f x y) S := nf rfl
@[simp] theorem op1_d (f : D → Option D) (x : D) (S : Store) : op1 f (.d x) S = ofD (f x) S := nf rfl
@[simp] theorem ofD_some (x : D) (S : Store) : ofD (some x) S = .ok (.d x) S := nf rfl
@[simp] theorem ofB_some (x : Bool) (S : Store) : ofB (some x) S = .ok (.d (.bl x)) S := nf rfl
@[simp] theorem ofO_some {α : Type} (x : α) (S : Store) : ofO (some x) S = .ok x S := nf rfl
@[simp] theorem ofD_ite (p : Prop) [Decidable p] (x y : Option D) (S : Store) : ofD (if p then x else y) S = if p then ofD x S else ofD y S := by split <;> rfl
@[simp] theorem asB_bl (b : Bool) (S : Store) : asB (.d (.bl b)) S = .ok b S := nf rfl
@[simp] theorem truth_bl (b : Bool) (S : Store) : truth (.d (.bl b)) S = .ok b S := nf rfl
@[simp] theorem negD_int (i : Int) : negD (.int i) = some (.int (-i)) := nf rfl
@[simp] theorem bop_add (i j : Int) : bop .add (.int i) (.int j) = some (.int (i + j)) := nf rfl
@[simp] theorem bop_sub (i j : Int) : bop .sub (.int i) (.int j) = some (.int (i - j)) := nf rfl
@[simp] theorem bop_addT (xs ys : List D) : bop .add (.tup xs) (.tup ys) = if xs.length + ys.length ≤ sizeLine then some (.tup (xs ++ ys)) else none := nf rfl
@[simp] theorem bop_addL (xs ys : List D) : bop .add (.lst xs) (.lst ys) = if xs.length + ys.length ≤ sizeLine then some (.lst (xs ++ ys)) else none := nf rfl
@[simp] theorem small_lit {i : Int} (h1 : -(2 ^ 64) < i) (h2 : i < 2 ^ 64) : small i = true := by unfold small; simp only [Bool.and_eq_true, decide_eq_true_eq]; exact ⟨h1, h2⟩
theorem bop_mulR {i j : Int} (h : small j = true) : bop .mul (.int i) (.int j) = some (.int (i * j)) := by
  show (if (small i || small j) = true then some (D.int (i * j)) else none) = _
  rw [h, Bool.or_true, if_pos rfl]
theorem bop_mulL {i j : Int} (h : small i = true) : bop .mul (.int i) (.int j) = some (.int (i * j)) := by
  show (if (small i || small j) = true then some (D.int (i * j)) else none) = _
  rw [h, Bool.true_or, if_pos rfl]
theorem bop_fdiv {i j : Int} (h0 : 0 < j) (h : j < 1073741824) : bop .fdiv (.int i) (.int j) = some (.int (i / j)) := by
  show (if j ≠ 0 ∧ j.natAbs < 1073741824 then some (D.int (i.fdiv j)) else none) = _
  rw [if_pos ⟨by omega, by omega⟩, Int.fdiv_eq_ediv_of_nonneg _ (by omega)]
theorem bop_mod {i j : Int} (h0 : 0 < j) : bop .mod (.int i) (.int j) = some (.int (i % j)) := by
  show (if j ≠ 0 then some (D.int (i.fmod j)) else none) = _
  rw [if_pos (by omega), Int.fmod_eq_emod_of_nonneg _ (by omega)]
theorem bop_pow {i j : Int} (h0 : 0 ≤ j) (h1 : j ≤ 1000000) (h : i.natAbs < 2 ^ 64) : bop .pow (.int i) (.int j) = some (.int (i ^ j.toNat)) := by
  show (if 0 ≤ j ∧ j ≤ 1000000 ∧ i.natAbs < 2 ^ 64 then some (D.int (i ^ j.toNat)) else none) = _
  rw [if_pos ⟨h0, h1, h⟩]
@[simp] theorem cop_lt (i j : Int) : cop .lt (.int i) (.int j) = some (decide (i < j)) := nf rfl
@[simp] theorem cop_le (i j : Int) : cop .le (.int i) (.int j) = some (decide (i ≤ j)) := nf rfl
@[simp] theorem cop_gt (i j : Int) : cop .gt (.int i) (.int j) = some (decide (j < i)) := nf rfl
@[simp] theorem cop_ge (i j : Int) : cop .ge (.int i) (.int j) = some (decide (j ≤ i)) := nf rfl
theorem cop_eqI0 (i j : Int) : cop .eq (.int i) (.int j) = some (i == j) := by
  show deqO _ _ = _
  simp [deqO, okd, toPy, PyData.eqv]
@[simp] theorem cop_eqI (i j : Int) : cop .eq (.int i) (.int j) = some (decide (i = j)) := cop_eqI0 i j
@[simp] theorem cop_neI (i j : Int) : cop .ne (.int i) (.int j) = some (!decide (i = j)) := by
  show (cop .eq (D.int i) (D.int j)).map (!·) = _
  rw [cop_eqI]
  rfl
@[simp] theorem cop_is (x : D) : cop .is x .non = some (isNon x) := by cases x <;> rfl
@[simp] theorem cop_isnot (x : D) : cop .isnot x .non = some (!isNon x) := by cases x <;> rfl
@[simp] theorem isNon_int (i : Int) : isNon (.int i) = false := nf rfl
@[simp] theorem isNon_non : isNon .non = true := nf rfl
@[simp] theorem biW_one (f : Bi) (x : D) (S : Store) : biW f [.d x] S = ofD (biop f [x]) S := nf rfl
@[simp] theorem biW_two (f : Bi) (x y : D) (S : Store) : biW f [.d x, .d y] S = ofD (biop f [x, y]) S := nf rfl
@[simp] theorem biop_lenL (xs : List D) : biop .len [.lst xs] = some (.int xs.length) := nf rfl
@[simp] theorem biop_lenT (xs : List D) : biop .len [.tup xs] = some (.int xs.length) := nf rfl
@[simp] theorem biop_lenS (xs : List Int) : biop .len [.scr xs] = some (.int xs.length) := nf rfl
@[simp] theorem biop_listL (xs : List D) : biop .listOf [.lst xs] = some (.lst xs) := nf rfl
@[simp] theorem biop_listT (xs : List D) : biop .listOf [.tup xs] = some (.lst xs) := nf rfl
@[simp] theorem biop_tupL (xs : List D) : biop .tupleOf [.lst xs] = some (.tup xs) := nf rfl
@[simp] theorem biop_max (i j : Int) : biop .max [.int i, .int j] = some (.int (if j > i then j else i)) := nf rfl
@[simp] theorem biop_min (i j : Int) : biop .min [.int i, .int j] = some (.int (if j < i then j else i)) := nf rfl
@[simp] theorem isiW_d (x : D) (t : Ty) (S : Store) : isiW (.d x) t S = ofB (isi x t) S := nf rfl
@[simp] theorem isi_int (i : Int) : isi (.int i) .int = some true := nf rfl
@[simp] theorem isi_intB (i : Int) : isi (.int i) .bool = some false := nf rfl
@[simp] theorem isi_tup (xs : List D) : isi (.tup xs) .tuple = some true := nf rfl
@[simp] theorem tupOf_d1 (x : D) (S : Store) : tupOf [.d x] S = .ok (.d (.tup [x])) S := nf rfl
@[simp] theorem tupOf_nil (S : Store) : tupOf [] S = .ok (.d (.tup [])) S := nf rfl
@[simp] theorem tupOf_d2 (x y : D) (S : Store) : tupOf [.d x, .d y] S = .ok (.d (.tup [x, y])) S := nf rfl
@[simp] theorem tupOf_d3 (x y z : D) (S : Store) : tupOf [.d x, .d y, .d z] S = .ok (.d (.tup [x, y, z])) S := nf rfl
theorem allD_map (xs : List D) : allD (xs.map W.d) = some xs := by
  induction xs with
  | nil => rfl
  | cons x xs ih => show (allD (xs.map W.d)).map (x :: ·) = _; rw [ih]; rfl
theorem lstOf_map {xs : List D} (h : xs.length ≤ sizeLine) (S : Store) : lstOf (xs.map W.d) S = .ok (.d (.lst xs)) S := by
  unfold lstOf
  rw [List.length_map, if_pos h, allD_map]
@[simp] theorem lstOf_nil (S : Store) : lstOf [] S = .ok (.d (.lst [])) S := nf rfl
@[simp] theorem lstOf_d1 (a : D) (S : Store) : lstOf [.d a] S = .ok (.d (.lst [a])) S := nf rfl
@[simp] theorem lstOf_d2 (a b : D) (S : Store) : lstOf [.d a, .d b] S = .ok (.d (.lst [a, b])) S := nf rfl
@[simp] theorem lstOf_d3 (a b c : D) (S : Store) : lstOf [.d a, .d b, .d c] S = .ok (.d (.lst [a, b, c])) S := nf rfl
@[simp] theorem lstOf_d4 (a b c d : D) (S : Store) : lstOf [.d a, .d b, .d c, .d d] S = .ok (.d (.lst [a, b, c, d])) S := nf rfl
@[simp] theorem lstOf_d5 (a b c d e : D) (S : Store) : lstOf [.d a, .d b, .d c, .d d, .d e] S = .ok (.d (.lst [a, b, c, d, e])) S := nf rfl
@[simp] theorem lstOf_d6 (a b c d e f : D) (S : Store) : lstOf [.d a, .d b, .d c, .d d, .d e, .d f] S = .ok (.d (.lst [a, b, c, d, e, f])) S := nf rfl
@[simp] theorem lstOf_d7 (a b c d e f g : D) (S : Store) : lstOf [.d a, .d b, .d c, .d d, .d e, .d f, .d g] S = .ok (.d (.lst [a, b, c, d, e, f, g])) S := nf rfl
@[simp] theorem lstOf_d8 (a b c d e f g h : D) (S : Store) : lstOf [.d a, .d b, .d c, .d d, .d e, .d f, .d g, .d h] S = .ok (.d (.lst [a, b, c, d, e, f, g, h])) S := nf rfl
@[simp] theorem tupOf_d4 (a b c d : D) (S : Store) : tupOf [.d a, .d b, .d c, .d d] S = .ok (.d (.tup [a, b, c, d])) S := nf rfl
@[simp] theorem tupOf_d5 (a b c d e : D) (S : Store) : tupOf [.d a, .d b, .d c, .d d, .d e] S = .ok (.d (.tup [a, b, c, d, e])) S := nf rfl
@[simp] theorem tupOf_d6 (a b c d e f : D) (S : Store) : tupOf [.d a, .d b, .d c, .d d, .d e, .d f] S = .ok (.d (.tup [a, b, c, d, e, f])) S := nf rfl
@[simp] theorem newlOf_nil (S : Store) : newlOf [] S = .ok (.loc S.length) (S ++ [.lst []]) := nf rfl
@[simp] theorem ixW_d (x y : D) (S : Store) : ixW (.d x) (.d y) S = ofD (ixop x y) S := nf rfl
@[simp] theorem ixop_T (xs : List D) (i : Int) : ixop (.tup xs) (.int i) = L2.atI xs i := nf rfl
@[simp] theorem ixop_L (xs : List D) (i : Int) : ixop (.lst xs) (.int i) = L2.atI xs i := nf rfl
@[simp] theorem atI_zero {α : Type} (x : α) (xs : List α) : L2.atI (x :: xs) 0 = some x := by
  unfold L2.atI L2.ixN; simp
@[simp] theorem atI_one {α : Type} (x y : α) (xs : List α) : L2.atI (x :: y :: xs) 1 = some y := L2.atI_nat (j := 1) rfl
theorem atI_nat {α : Type} {xs : List α} {i : Int} {j : Nat} {v : α} (hj : (j : Int) = i) (h : xs[j]? = some v) : L2.atI xs i = some v := by
  subst hj; exact L2.atI_nat h
@[simp] theorem itSeq_T (xs : List D) (S : Store) : itSeq (.d (.tup xs)) S = .ok xs S := nf rfl
@[simp] theorem itSeq_L (xs : List D) (S : Store) : itSeq (.d (.lst xs)) S = .ok xs S := nf rfl
@[simp] theorem itEnum_L (xs : List D) (S : Store) : itEnum (.d (.lst xs)) S = .ok (enumL 0 xs) S := nf rfl
theorem itR1_int {j : Int} (h : -(2 ^ 62) ≤ j) (h2 : j < 2 ^ 62) (S : Store) : itR1 (.d (.int j)) S = .ok (rngL 0 j.toNat) S := by
  have q : fits j = true := by unfold fits; simp only [Bool.and_eq_true, decide_eq_true_eq]; exact ⟨h, h2⟩
  show (if fits j = true then _ else _) = _
  rw [if_pos q]
theorem itR2_int {i j : Int} (h : -(2 ^ 62) ≤ i) (h2 : i < 2 ^ 62) (h3 : -(2 ^ 62) ≤ j) (h4 : j < 2 ^ 62) (S : Store) : itR2 (.d (.int i)) (.d (.int j)) S = .ok (rngL i (j - i).toNat) S := by
  have q : (fits i && fits j) = true := by unfold fits; simp only [Bool.and_eq_true, decide_eq_true_eq]; exact ⟨⟨h, h2⟩, h3, h4⟩
  show (if (fits i && fits j) = true then _ else _) = _
  rw [if_pos q]
@[simp] theorem tgD_nm (i : Nat) (x : D) (ρ : Env) : tgD (.nm i) x ρ = some (ρ.set i (some (.d x))) := nf rfl
@[simp] theorem tgD_tp (ts : List Tg) (xs : List D) (ρ : Env) : tgD (.tp ts) (.tup xs) ρ = tgDs ts xs ρ := nf rfl
@[simp] theorem tgDs_nil (ρ : Env) : tgDs [] [] ρ = some ρ := nf rfl
@[simp] theorem tgDs_cons (t : Tg) (ts : List Tg) (x : D) (xs : List D) (ρ : Env) : tgDs (t :: ts) (x :: xs) ρ = (match tgD t x ρ with
    | some ρ' => tgDs ts xs ρ'
    | none => none) := nf rfl
@[simp] theorem tgW_tp (ts : List Tg) (x : D) (ρ : Env) : tgW (.tp ts) (.d x) ρ = tgD (.tp ts) x ρ := nf rfl
@[simp] theorem ofEnv_some (ρ : Env) (S : Store) : ofEnv (some ρ) S = .nx ρ S := nf rfl
/-! stores -/
@[simp] theorem view_new (S : Store) (xs : List D) : view (S ++ [.lst xs]) (.loc S.length) = some (.lst xs) := by simp [view]
@[simp] theorem recvL_new (S : Store) (xs : List D) : recvL (.loc S.length) (S ++ [.lst xs]) = .ok (.loc S.length) (S ++ [.lst xs]) := by simp [recvL]
theorem appW_new (S : Store) (xs : List D) (v : D) (h : xs.length < sizeLine) : appW (.loc S.length) (.d v) (S ++ [.lst xs]) = .ok (.d .non) (S ++ [.lst (xs ++ [v])]) := by
  simp [appW, h]
@[simp] theorem frzW_new (S : Store) (xs : List D) : frzW (.loc S.length) (S ++ [.lst xs]) = .ok (.d (.lst xs)) (S ++ [.dead]) := by simp [frzW]
@[simp] theorem frzW_d (x : D) (S : Store) : frzW (.d x) S = .ok (.d x) S := nf rfl
@[simp] theorem biW_new (f : Bi) (S : Store) (xs : List D) : biW f [.loc S.length] (S ++ [.lst xs]) = ofD (biop f [.lst xs]) (S ++ [.lst xs]) := by
  simp [biW, views]
@[simp] theorem keeps_refl (S : Store) : Keeps S S := fun k o e => .inl e
@[simp] theorem keeps_append (S T : Store) : Keeps S (S ++ T) := fun k o e => .inl (by rw [List.getElem?_append_left (List.getElem?_eq_some_iff.mp e).1]; exact e)
theorem keeps_set (S T : Store) (k : Nat) (xs : List D) : Keeps S (S.set k (.lst xs) ++ T) := fun j o e => by
  have hj := (List.getElem?_eq_some_iff.mp e).1
  rw [List.getElem?_append_left (by simpa using hj)]
  by_cases q : k = j
  · subst q
    exact .inr ⟨.lst xs, by simp [hj], rfl⟩
  · exact .inl (by rw [List.getElem?_set_ne q]; exact e)
@[simp] theorem fin_rt (S : Store) (x : D) (T : Store) : fin true S (.rt (.d x) (S ++ T)) = .ok (.d x) S := by
  simp [fin, finW]
@[simp] theorem fin_rtN (x : D) (T : Store) : fin true [] (.rt (.d x) T) = .ok (.d x) [] := fin_rt [] x T
@[simp] theorem fin_rt0 (S : Store) (x : D) : fin true S (.rt (.d x) S) = .ok (.d x) S := by
  simp [fin, finW]
@[simp] theorem fin_nx (S : Store) (ρ : Env) (T : Store) : fin true S (.nx ρ (S ++ T)) = .ok (.d .non) S := by
  simp [fin, finW]
@[simp] theorem fin_nx0 (S : Store) (ρ : Env) : fin true S (.nx ρ S) = .ok (.d .non) S := by
  simp [fin, finW]
@[simp] theorem fin_exc (S : Store) (c : Nat) (ρ : Env) (T : Store) : fin true S (.exc c ρ (S ++ T)) = .exc c S := by
  simp [fin, finX]
@[simp] theorem fin_exc0 (S : Store) (c : Nat) (ρ : Env) : fin true S (.exc c ρ S) = .exc c S := by
  simp [fin, finX]
theorem fin_ite (S : Store) (p : Prop) [Decidable p] (x y : Fl) : fin true S (if p then x else y) = if p then fin true S x else fin true S y := by split <;> rfl
theorem defF_go {n k : Nat} {body : Sts} {ws : List W} {S : Store} (h : ws.length = k) : defF true n k body ws S = fin true S (evB body (ws.map some ++ List.replicate (n - k) none) S) := by
  unfold defF
  rw [if_pos h]
end Q
set_option Elab.async false
set_option maxRecDepth 100000
set_option linter.all false
/-! Trees that more than one law has. -/
namespace QT
open PySem L2 Q
noncomputable def b_law_cell_at : Sts := (.cons (.ife (.cmp .lt (.var 1) (.bi .len (.cons (.var 0) .nil))) (.cons (.ret (.ix (.var 0) (.var 1))) .nil) .nil) (.cons (.ife (.cmp .eq (.var 0) (.lst .nil)) (.cons (.ret (.c (.int 0))) .nil) .nil) (.cons (.ret (.bin .add (.bin .mul (.ix (.var 0) (.bin .mod (.var 1) (.bi .len (.cons (.var 0) .nil)))) (.c (.int 31))) (.var 1))) .nil)))
noncomputable def f_law_cell_at : Fn := defF true 2 2 b_law_cell_at
noncomputable def b_law_mixed : Sts := (.cons (.set 3 (.bin .mod (.bin .add (.bin .add (.bin .mul (.call "_law_cell_at" QT.f_law_cell_at (.cons (.var 0) (.cons (.var 1) .nil))) (.c (.int 1103515245))) (.bin .mul (.c (.int 7919)) (.var 1))) (.c (.int 12345))) (.c (.int 2147483647)))) (.cons (.ret (.bin .mod (.bin .mod (.bin .mod (.bin .pow (.var 3) (.c (.int 5))) (.c (.int 2147483647))) (.c (.int 999983))) (.var 2))) .nil))
noncomputable def f_law_mixed : Fn := defF true 4 3 b_law_mixed
noncomputable def b_law_draw : Sts := (.cons (.ex (.app (.var 1) (.c (.int 0)))) (.cons (.ret (.call "_law_mixed" QT.f_law_mixed (.cons (.var 0) (.cons (.bi .len (.cons (.var 1) .nil)) (.cons (.var 2) .nil))))) .nil))
noncomputable def f_law_draw : Fn := defF true 3 3 b_law_draw
noncomputable def b_law_pick : Sts := (.cons (.ret (.ix (.var 2) (.call "_law_draw" QT.f_law_draw (.cons (.var 0) (.cons (.var 1) (.cons (.bi .len (.cons (.var 2) .nil)) .nil)))))) .nil)
noncomputable def f_law_pick : Fn := defF true 3 3 b_law_pick
noncomputable def b_law_zone : Sts := (.cons (.tgt (.tp [(.nm 3), (.nm 4)]) (.tup (.cons (.tup .nil) (.cons (.c (.int 0)) .nil)))) (.cons (.for_ (.nm 5) (.rng1 (.call "_law_draw" QT.f_law_draw (.cons (.var 0) (.cons (.var 1) (.cons (.c (.int 5)) .nil))))) (.cons (.set 4 (.bin .add (.bin .add (.var 4) (.c (.int 1))) (.call "_law_draw" QT.f_law_draw (.cons (.var 0) (.cons (.var 1) (.cons (.var 2) .nil)))))) (.cons (.set 3 (.bin .add (.var 3) (.tup (.cons (.tup (.cons (.var 4) (.cons (.call "_law_pick" QT.f_law_pick (.cons (.var 0) (.cons (.var 1) (.cons (.lst (.cons (.c (.int 0)) (.cons (.c (.int 1)) (.cons (.c (.int 2)) (.cons (.neg (.c (.int 1))) (.cons (.c (.int 14)) (.cons (.neg (.c (.int 12))) (.cons (.c (.int 3)) .nil)))))))) .nil)))) .nil))) .nil)))) .nil))) (.cons (.ret (.tup (.cons (.call "_law_pick" QT.f_law_pick (.cons (.var 0) (.cons (.var 1) (.cons (.lst (.cons (.c (.int 0)) (.cons (.c (.int 1)) (.cons (.c (.int 2)) (.cons (.neg (.c (.int 1))) (.cons (.c (.int 14)) (.cons (.neg (.c (.int 12))) .nil))))))) .nil)))) (.cons (.var 3) .nil)))) .nil)))
noncomputable def f_law_zone : Fn := defF true 6 3 b_law_zone
noncomputable def b_law_shown : Sts := (.cons (.set 2 (.ix (.var 0) (.c (.int 0)))) (.cons (.for_ (.tp [(.nm 3), (.nm 4)]) (.seq (.ix (.var 0) (.c (.int 1)))) (.cons (.set 2 (.ite (.cmp .le (.var 3) (.var 1)) (.var 4) (.var 2))) .nil)) (.cons (.ret (.bin .add (.var 1) (.var 2))) .nil)))
noncomputable def f_law_shown : Fn := defF true 5 2 b_law_shown
noncomputable def b_is_whole : Sts := (.cons (.ret (.and (.cons (.isi (.var 0) .int) (.cons (.nt (.isi (.var 0) .bool)) (.cons (.chain .le .le (.var 1) (.var 0) (.var 2)) .nil))))) .nil)
noncomputable def f_is_whole : Fn := defF true 3 3 b_is_whole
noncomputable def b_is_zone : Sts := (.cons (.ife (.or (.cons (.nt (.isi (.var 0) .tuple)) (.cons (.cmp .ne (.bi .len (.cons (.var 0) .nil)) (.c (.int 2))) (.cons (.nt (.call "is_whole" QT.f_is_whole (.cons (.ix (.var 0) (.c (.int 0))) (.cons (.gl "LOW" (.int (-12))) (.cons (.gl "HIGH" (.int 14)) .nil))))) .nil)))) (.cons (.ret (.c (.bl false))) .nil) .nil) (.cons (.ife (.or (.cons (.nt (.isi (.ix (.var 0) (.c (.int 1))) .tuple)) (.cons (.cmp .gt (.bi .len (.cons (.ix (.var 0) (.c (.int 1))) .nil)) (.gl "SHIFTS" (.int 6))) .nil))) (.cons (.ret (.c (.bl false))) .nil) .nil) (.cons (.set 1 (.c (.int 0))) (.cons (.for_ (.nm 2) (.seq (.ix (.var 0) (.c (.int 1)))) (.cons (.ife (.or (.cons (.nt (.isi (.var 2) .tuple)) (.cons (.cmp .ne (.bi .len (.cons (.var 2) .nil)) (.c (.int 2))) (.cons (.nt (.call "is_whole" QT.f_is_whole (.cons (.ix (.var 2) (.c (.int 1))) (.cons (.gl "LOW" (.int (-12))) (.cons (.gl "HIGH" (.int 14)) .nil))))) .nil)))) (.cons (.ret (.c (.bl false))) .nil) .nil) (.cons (.ife (.nt (.call "is_whole" QT.f_is_whole (.cons (.ix (.var 2) (.c (.int 0))) (.cons (.bin .add (.var 1) (.c (.int 1))) (.cons (.gl "MOMENTS" (.int 9999)) .nil))))) (.cons (.ret (.c (.bl false))) .nil) .nil) (.cons (.set 1 (.ix (.var 2) (.c (.int 0)))) .nil)))) (.cons (.ret (.c (.bl true))) .nil)))))
noncomputable def f_is_zone : Fn := defF true 3 1 b_is_zone
noncomputable def b_need_zone : Sts := (.cons (.ife (.nt (.call "is_zone" QT.f_is_zone (.cons (.var 0) .nil))) (.cons (.rais 1 "NoZone") .nil) .nil) .nil)
noncomputable def f_need_zone : Fn := defF true 1 1 b_need_zone
noncomputable def b_moments : Sts := (.cons (.ex (.call "need_zone" QT.f_need_zone (.cons (.var 0) .nil))) (.cons (.ife (.or (.cons (.nt (.call "is_whole" QT.f_is_whole (.cons (.var 1) (.cons (.neg (.c (.int 1))) (.cons (.gl "MOMENTS" (.int 9999)) .nil))))) (.cons (.nt (.call "is_whole" QT.f_is_whole (.cons (.var 2) (.cons (.c (.int 0)) (.cons (.bin .sub (.gl "DAY" (.int 24)) (.c (.int 1))) .nil))))) .nil))) (.cons (.rais 3 "NoMoment") .nil) .nil) (.cons (.set 3 (.bin .add (.bin .mul (.var 1) (.gl "DAY" (.int 24))) (.var 2))) (.cons (.set 4 (.newl .nil)) (.cons (.set 5 (.bin .add (.lst (.cons (.tup (.cons (.c (.int 0)) (.cons (.ix (.var 0) (.c (.int 0))) .nil))) .nil)) (.bi .listOf (.cons (.ix (.var 0) (.c (.int 1))) .nil)))) (.cons (.for_ (.tp [(.nm 6), (.tp [(.nm 7), (.nm 8)])]) (.enum (.var 5)) (.cons (.set 9 (.bin .sub (.var 3) (.var 8))) (.cons (.ife (.and (.cons (.cmp .ge (.var 9) (.var 7)) (.cons (.or (.cons (.cmp .eq (.bin .add (.var 6) (.c (.int 1))) (.bi .len (.cons (.var 5) .nil))) (.cons (.cmp .lt (.var 9) (.ix (.ix (.var 5) (.bin .add (.var 6) (.c (.int 1)))) (.c (.int 0)))) .nil))) .nil))) (.cons (.ex (.app (.var 4) (.var 9))) .nil) .nil) .nil))) (.cons (.ret (.frz (.var 4))) .nil)))))))
noncomputable def f_moments : Fn := defF true 10 3 b_moments
noncomputable def b_wall_at : Sts := (.cons (.set 2 (.ix (.var 0) (.c (.int 0)))) (.cons (.for_ (.tp [(.nm 3), (.nm 4)]) (.seq (.ix (.var 0) (.c (.int 1)))) (.cons (.ife (.cmp .le (.var 3) (.var 1)) (.cons (.set 2 (.var 4)) .nil) .nil) .nil)) (.cons (.ret (.bin .add (.var 1) (.var 2))) .nil)))
noncomputable def f_wall_at : Fn := defF true 5 2 b_wall_at
noncomputable def b_long_day : Sts := (.cons (.ex (.call "need_zone" QT.f_need_zone (.cons (.var 0) .nil))) (.cons (.ife (.nt (.call "is_whole" QT.f_is_whole (.cons (.var 1) (.cons (.c (.int 0)) (.cons (.gl "DAYS" (.int 400)) .nil))))) (.cons (.rais 3 "NoMoment") .nil) .nil) (.cons (.set 2 (.c (.int 0))) (.cons (.for_ (.nm 3) (.rng2 (.c (.int 0)) (.bin .add (.bin .add (.bin .mul (.var 1) (.gl "DAY" (.int 24))) (.bin .mul (.c (.int 2)) (.gl "DAY" (.int 24)))) (.c (.int 1)))) (.cons (.ife (.cmp .eq (.bin .fdiv (.call "wall_at" QT.f_wall_at (.cons (.var 0) (.cons (.var 3) .nil))) (.gl "DAY" (.int 24))) (.var 1)) (.cons (.set 2 (.bin .add (.var 2) (.c (.int 1)))) .nil) .nil) .nil)) (.cons (.ret (.var 2)) .nil)))))
noncomputable def f_long_day : Fn := defF true 4 2 b_long_day
noncomputable def b_law_plan : Sts := (.cons (.set 3 (.call "_law_draw" QT.f_law_draw (.cons (.var 0) (.cons (.var 1) (.cons (.c (.int 3)) .nil))))) (.cons (.ife (.cmp .eq (.var 3) (.c (.int 0))) (.cons (.ret (.tup (.cons (.c (.str "once")) (.cons (.call "_law_draw" QT.f_law_draw (.cons (.var 0) (.cons (.var 1) (.cons (.var 2) .nil)))) .nil)))) .nil) .nil) (.cons (.ife (.cmp .eq (.var 3) (.c (.int 1))) (.cons (.set 4 (.bin .add (.c (.int 1)) (.call "_law_draw" QT.f_law_draw (.cons (.var 0) (.cons (.var 1) (.cons (.call "_law_pick" QT.f_law_pick (.cons (.var 0) (.cons (.var 1) (.cons (.lst (.cons (.c (.int 3)) (.cons (.c (.int 30)) (.cons (.c (.int 200)) .nil)))) .nil)))) .nil)))))) (.cons (.ret (.tup (.cons (.c (.str "every")) (.cons (.call "_law_draw" QT.f_law_draw (.cons (.var 0) (.cons (.var 1) (.cons (.var 2) .nil)))) (.cons (.var 4) .nil))))) .nil)) .nil) (.cons (.ret (.tup (.cons (.c (.str "daily")) (.cons (.call "_law_draw" QT.f_law_draw (.cons (.var 0) (.cons (.var 1) (.cons (.c (.int 24)) .nil)))) .nil)))) .nil))))
noncomputable def f_law_plan : Fn := defF true 5 3 b_law_plan
noncomputable def b_is_plan : Sts := (.cons (.ife (.or (.cons (.nt (.isi (.var 0) .tuple)) (.cons (.cmp .eq (.bi .len (.cons (.var 0) .nil)) (.c (.int 0))) (.cons (.nt (.isi (.ix (.var 0) (.c (.int 0))) .str)) .nil)))) (.cons (.ret (.c (.bl false))) .nil) .nil) (.cons (.ife (.cmp .eq (.ix (.var 0) (.c (.int 0))) (.c (.str "once"))) (.cons (.ret (.and (.cons (.cmp .eq (.bi .len (.cons (.var 0) .nil)) (.c (.int 2))) (.cons (.call "is_whole" QT.f_is_whole (.cons (.ix (.var 0) (.c (.int 1))) (.cons (.c (.int 0)) (.cons (.gl "MOMENTS" (.int 9999)) .nil)))) .nil)))) .nil) .nil) (.cons (.ife (.cmp .eq (.ix (.var 0) (.c (.int 0))) (.c (.str "every"))) (.cons (.ret (.and (.cons (.cmp .eq (.bi .len (.cons (.var 0) .nil)) (.c (.int 3))) (.cons (.call "is_whole" QT.f_is_whole (.cons (.ix (.var 0) (.c (.int 1))) (.cons (.c (.int 0)) (.cons (.gl "MOMENTS" (.int 9999)) .nil)))) (.cons (.call "is_whole" QT.f_is_whole (.cons (.ix (.var 0) (.c (.int 2))) (.cons (.c (.int 1)) (.cons (.gl "STEP" (.int 999)) .nil)))) .nil))))) .nil) .nil) (.cons (.ret (.and (.cons (.cmp .eq (.ix (.var 0) (.c (.int 0))) (.c (.str "daily"))) (.cons (.cmp .eq (.bi .len (.cons (.var 0) .nil)) (.c (.int 2))) (.cons (.call "is_whole" QT.f_is_whole (.cons (.ix (.var 0) (.c (.int 1))) (.cons (.c (.int 0)) (.cons (.bin .sub (.gl "DAY" (.int 24)) (.c (.int 1))) .nil)))) .nil))))) .nil))))
noncomputable def f_is_plan : Fn := defF true 1 1 b_is_plan
noncomputable def b_need_plan : Sts := (.cons (.ife (.nt (.call "is_plan" QT.f_is_plan (.cons (.var 0) .nil))) (.cons (.rais 2 "NoPlan") .nil) .nil) .nil)
noncomputable def f_need_plan : Fn := defF true 1 1 b_need_plan
noncomputable def b_first_at : Sts := (.cons (.set 2 (.bin .add (.lst (.cons (.tup (.cons (.c (.int 0)) (.cons (.ix (.var 0) (.c (.int 0))) .nil))) .nil)) (.bi .listOf (.cons (.ix (.var 0) (.c (.int 1))) .nil)))) (.cons (.for_ (.tp [(.nm 3), (.tp [(.nm 4), (.nm 5)])]) (.enum (.var 2)) (.cons (.set 6 (.bi .max (.cons (.var 4) (.cons (.bin .sub (.var 1) (.var 5)) .nil)))) (.cons (.ife (.or (.cons (.cmp .eq (.bin .add (.var 3) (.c (.int 1))) (.bi .len (.cons (.var 2) .nil))) (.cons (.cmp .lt (.var 6) (.ix (.ix (.var 2) (.bin .add (.var 3) (.c (.int 1)))) (.c (.int 0)))) .nil))) (.cons (.ret (.var 6)) .nil) .nil) .nil))) (.cons (.ret (.c .non)) .nil)))
noncomputable def f_first_at : Fn := defF true 7 2 b_first_at
noncomputable def b_due_at : Sts := (.cons (.ife (.cmp .eq (.ix (.var 1) (.c (.int 0))) (.c (.str "once"))) (.cons (.ret (.ix (.lst (.cons (.c .non) (.cons (.ix (.var 1) (.c (.int 1))) .nil))) (.bi .intOf (.cons (.cmp .eq (.var 2) (.c (.int 0))) .nil)))) .nil) .nil) (.cons (.ife (.cmp .eq (.ix (.var 1) (.c (.int 0))) (.c (.str "every"))) (.cons (.ret (.bin .add (.ix (.var 1) (.c (.int 1))) (.bin .mul (.var 2) (.ix (.var 1) (.c (.int 2)))))) .nil) .nil) (.cons (.set 3 (.bin .fdiv (.bin .sub (.bin .add (.bin .sub (.call "wall_at" QT.f_wall_at (.cons (.var 0) (.cons (.c (.int 0)) .nil))) (.ix (.var 1) (.c (.int 1)))) (.gl "DAY" (.int 24))) (.c (.int 1))) (.gl "DAY" (.int 24)))) (.cons (.ret (.call "first_at" QT.f_first_at (.cons (.var 0) (.cons (.bin .add (.bin .mul (.bin .add (.var 3) (.var 2)) (.gl "DAY" (.int 24))) (.ix (.var 1) (.c (.int 1)))) .nil)))) .nil))))
noncomputable def f_due_at : Fn := defF true 4 3 b_due_at
noncomputable def b_gaps : Sts := (.cons (.ex (.call "need_zone" QT.f_need_zone (.cons (.var 0) .nil))) (.cons (.ex (.call "need_plan" QT.f_need_plan (.cons (.var 1) .nil))) (.cons (.ife (.nt (.call "is_whole" QT.f_is_whole (.cons (.var 2) (.cons (.c (.int 0)) (.cons (.c (.int 999)) .nil))))) (.cons (.rais 4 "NoCount") .nil) .nil) (.cons (.set 3 (.newl .nil)) (.cons (.for_ (.nm 4) (.rng1 (.var 2)) (.cons (.par 5 6 (.call "due_at" QT.f_due_at (.cons (.var 0) (.cons (.var 1) (.cons (.var 4) .nil)))) (.call "due_at" QT.f_due_at (.cons (.var 0) (.cons (.var 1) (.cons (.bin .add (.var 4) (.c (.int 1))) .nil))))) (.cons (.ife (.cmp .is (.var 6) (.c .non)) (.cons (.ret (.frz (.var 3))) .nil) .nil) (.cons (.ex (.app (.var 3) (.bin .sub (.var 6) (.var 5)))) .nil)))) (.cons (.ret (.frz (.var 3))) .nil))))))
noncomputable def f_gaps : Fn := defF true 7 3 b_gaps
noncomputable def b_law_times : Sts := (.cons (.ife (.cmp .eq (.ix (.var 1) (.c (.int 0))) (.c (.str "once"))) (.cons (.ret (.ite (.cmp .le (.ix (.var 1) (.c (.int 1))) (.var 2)) (.lst (.cons (.ix (.var 1) (.c (.int 1))) .nil)) (.lst .nil))) .nil) .nil) (.cons (.ife (.cmp .eq (.ix (.var 1) (.c (.int 0))) (.c (.str "every"))) (.cons (.ret (.lrg3 (.ix (.var 1) (.c (.int 1))) (.bin .add (.var 2) (.c (.int 1))) (.ix (.var 1) (.c (.int 2))))) .nil) .nil) (.cons (.set 3 (.ix (.var 1) (.c (.int 1)))) (.cons (.whl 1000000 (.cmp .lt (.var 3) (.call "_law_shown" QT.f_law_shown (.cons (.var 0) (.cons (.c (.int 0)) .nil)))) (.cons (.set 3 (.bin .add (.var 3) (.c (.int 24)))) .nil)) (.cons (.whl 1000000 (.cmp .ge (.bin .sub (.var 3) (.c (.int 24))) (.call "_law_shown" QT.f_law_shown (.cons (.var 0) (.cons (.c (.int 0)) .nil)))) (.cons (.set 3 (.bin .sub (.var 3) (.c (.int 24)))) .nil)) (.cons (.set 4 (.newl .nil)) (.cons (.for_ (.nm 5) (.rng1 (.bin .add (.var 2) (.c (.int 1)))) (.cons (.whl 1000000 (.cmp .le (.var 3) (.call "_law_shown" QT.f_law_shown (.cons (.var 0) (.cons (.var 5) .nil)))) (.cons (.ex (.app (.var 4) (.var 5))) (.cons (.set 3 (.bin .add (.var 3) (.c (.int 24)))) .nil))) .nil)) (.cons (.ret (.frz (.var 4))) .nil))))))))
noncomputable def f_law_times : Fn := defF true 6 3 b_law_times
noncomputable def b_due : Sts := (.cons (.ex (.call "need_zone" QT.f_need_zone (.cons (.var 0) .nil))) (.cons (.ex (.call "need_plan" QT.f_need_plan (.cons (.var 1) .nil))) (.cons (.ife (.nt (.call "is_whole" QT.f_is_whole (.cons (.var 2) (.cons (.c (.int 0)) (.cons (.gl "MOMENTS" (.int 9999)) .nil))))) (.cons (.rais 4 "NoCount") .nil) .nil) (.cons (.ret (.call "due_at" QT.f_due_at (.cons (.var 0) (.cons (.var 1) (.cons (.var 2) .nil))))) .nil))))
noncomputable def f_due : Fn := defF true 3 3 b_due
noncomputable def b_need_moment : Sts := (.cons (.ife (.nt (.call "is_whole" QT.f_is_whole (.cons (.var 0) (.cons (.c (.int 0)) (.cons (.gl "MOMENTS" (.int 9999)) .nil))))) (.cons (.rais 3 "NoMoment") .nil) .nil) .nil)
noncomputable def f_need_moment : Fn := defF true 1 1 b_need_moment
noncomputable def b_dues : Sts := (.cons (.ex (.call "need_zone" QT.f_need_zone (.cons (.var 0) .nil))) (.cons (.ex (.call "need_plan" QT.f_need_plan (.cons (.var 1) .nil))) (.cons (.ex (.call "need_moment" QT.f_need_moment (.cons (.var 2) .nil))) (.cons (.ex (.call "need_moment" QT.f_need_moment (.cons (.var 3) .nil))) (.cons (.set 4 (.newl .nil)) (.cons (.set 5 (.c (.int 0))) (.cons (.set 6 (.call "due_at" QT.f_due_at (.cons (.var 0) (.cons (.var 1) (.cons (.c (.int 0)) .nil))))) (.cons (.whl 1000000 (.and (.cons (.cmp .isnot (.var 6) (.c .non)) (.cons (.cmp .le (.var 6) (.var 3)) .nil))) (.cons (.ife (.cmp .ge (.var 6) (.var 2)) (.cons (.ex (.app (.var 4) (.tup (.cons (.var 5) (.cons (.var 6) .nil))))) .nil) .nil) (.cons (.set 5 (.bin .add (.var 5) (.c (.int 1)))) (.cons (.set 6 (.call "due_at" QT.f_due_at (.cons (.var 0) (.cons (.var 1) (.cons (.var 5) .nil))))) .nil)))) (.cons (.ret (.frz (.var 4))) .nil)))))))))
noncomputable def f_dues : Fn := defF true 7 4 b_dues
noncomputable def b_wall : Sts := (.cons (.ex (.call "need_zone" QT.f_need_zone (.cons (.var 0) .nil))) (.cons (.ex (.call "need_moment" QT.f_need_moment (.cons (.var 1) .nil))) (.cons (.set 2 (.call "wall_at" QT.f_wall_at (.cons (.var 0) (.cons (.var 1) .nil)))) (.cons (.ret (.tup (.cons (.bin .fdiv (.var 2) (.gl "DAY" (.int 24))) (.cons (.bin .mod (.var 2) (.gl "DAY" (.int 24))) .nil)))) .nil))))
noncomputable def f_wall : Fn := defF true 3 2 b_wall
noncomputable def b_meet : Sts := (.cons (.ex (.call "need_zone" QT.f_need_zone (.cons (.var 0) .nil))) (.cons (.ex (.call "need_plan" QT.f_need_plan (.cons (.var 1) .nil))) (.cons (.ex (.call "need_plan" QT.f_need_plan (.cons (.var 2) .nil))) (.cons (.ex (.call "need_moment" QT.f_need_moment (.cons (.var 3) .nil))) (.cons (.set 4 (.bi .dictOf (.cons (.comp [("count", 5), ("moment", 6)] (.tp [(.nm 5), (.nm 6)]) (.seq (.call "dues" QT.f_dues (.cons (.var 0) (.cons (.var 2) (.cons (.c (.int 0)) (.cons (.var 3) .nil)))))) .non (.tup (.cons (.var 6) (.cons (.c (.bl true)) .nil)))) .nil))) (.cons (.setc 7 [("count", 5), ("moment", 6)] (.tp [(.nm 5), (.nm 6)]) (.seq (.call "dues" QT.f_dues (.cons (.var 0) (.cons (.var 1) (.cons (.c (.int 0)) (.cons (.var 3) .nil)))))) (.som (.cmp .inn (.var 6) (.var 4))) (.var 6)) (.cons (.ret (.ix (.bin .add (.var 7) (.lst (.cons (.c .non) .nil))) (.c (.int 0)))) .nil)))))))
noncomputable def f_meet : Fn := defF true 8 4 b_meet
noncomputable def b_how_many : Sts := (.cons (.ret (.bi .len (.cons (.call "dues" QT.f_dues (.cons (.var 0) (.cons (.var 1) (.cons (.var 2) (.cons (.var 3) .nil))))) .nil))) .nil)
noncomputable def f_how_many : Fn := defF true 4 4 b_how_many
noncomputable def b_count_at : Sts := (.cons (.set 3 (.call "dues" QT.f_dues (.cons (.var 0) (.cons (.var 1) (.cons (.c (.int 0)) (.cons (.var 2) .nil)))))) (.cons (.ret (.ite (.cmp .ne (.var 3) (.lst .nil)) (.ix (.ix (.var 3) (.neg (.c (.int 1)))) (.c (.int 0))) (.c .non))) .nil))
noncomputable def f_count_at : Fn := defF true 4 3 b_count_at
noncomputable def b_law_odd_plan : Sts := (.cons (.set 2 (.lst (.cons (.c .non) (.cons (.c (.int 5)) (.cons (.tup .nil) (.cons (.tup (.cons (.c (.str "once")) .nil)) (.cons (.tup (.cons (.c (.str "once")) (.cons (.neg (.c (.int 1))) .nil))) (.cons (.tup (.cons (.c (.str "once")) (.cons (.c (.int 10000)) .nil))) (.cons (.tup (.cons (.c (.str "every")) (.cons (.c (.int 5)) .nil))) (.cons (.tup (.cons (.c (.str "every")) (.cons (.c (.int 5)) (.cons (.c (.int 0)) .nil)))) (.cons (.tup (.cons (.c (.str "every")) (.cons (.c (.int 5)) (.cons (.c (.int 1000)) .nil)))) .nil))))))))))) (.cons (.ret (.call "_law_pick" QT.f_law_pick (.cons (.var 0) (.cons (.var 1) (.cons (.bin .add (.var 2) (.lst (.cons (.tup (.cons (.c (.str "daily")) (.cons (.c (.int 24)) .nil))) (.cons (.tup (.cons (.c (.str "daily")) (.cons (.neg (.c (.int 1))) .nil))) (.cons (.lst (.cons (.c (.str "once")) (.cons (.c (.int 5)) .nil))) (.cons (.tup (.cons (.c (.str "Once")) (.cons (.c (.int 5)) .nil))) (.cons (.tup (.cons (.c (.str "daily")) (.cons (.c (.bl true)) .nil))) .nil))))))) .nil))))) .nil))
noncomputable def f_law_odd_plan : Fn := defF true 3 2 b_law_odd_plan
noncomputable def b_law_odd_zone : Sts := (.cons (.set 2 (.lst (.cons (.c .non) (.cons (.c (.int 5)) (.cons (.tup .nil) (.cons (.tup (.cons (.c (.int 0)) .nil)) (.cons (.tup (.cons (.c (.int 15)) (.cons (.tup .nil) .nil))) (.cons (.tup (.cons (.neg (.c (.int 13))) (.cons (.tup .nil) .nil))) (.cons (.tup (.cons (.c (.int 0)) (.cons (.tup (.cons (.tup (.cons (.c (.int 0)) (.cons (.c (.int 1)) .nil))) .nil)) .nil))) (.cons (.tup (.cons (.c (.int 0)) (.cons (.tup (.cons (.tup (.cons (.c (.int 5)) (.cons (.c (.int 15)) .nil))) .nil)) .nil))) (.cons (.tup (.cons (.c (.int 0)) (.cons (.tup (.cons (.tup (.cons (.c (.int 5)) (.cons (.c (.int 1)) .nil))) (.cons (.tup (.cons (.c (.int 5)) (.cons (.c (.int 2)) .nil))) .nil))) .nil))) .nil))))))))))) (.cons (.set 2 (.bin .add (.var 2) (.lst (.cons (.tup (.cons (.c (.int 0)) (.cons (.lst (.cons (.tup (.cons (.c (.int 5)) (.cons (.c (.int 1)) .nil))) .nil)) .nil))) (.cons (.lst (.cons (.c (.int 0)) (.cons (.tup .nil) .nil))) (.cons (.tup (.cons (.c (.bl true)) (.cons (.tup .nil) .nil))) (.cons (.tup (.cons (.c (.int 0)) (.cons (.tup (.cons (.tup (.cons (.c (.int 5)) .nil)) .nil)) .nil))) (.cons (.c (.str "+0")) (.cons (.tup (.cons (.c (.int 0)) (.cons (.tup (.cons (.tup (.cons (.c (.int 9)) (.cons (.c (.int 1)) .nil))) (.cons (.tup (.cons (.c (.int 5)) (.cons (.c (.int 2)) .nil))) .nil))) .nil))) .nil))))))))) (.cons (.ret (.call "_law_pick" QT.f_law_pick (.cons (.var 0) (.cons (.var 1) (.cons (.var 2) .nil))))) .nil)))
noncomputable def f_law_odd_zone : Fn := defF true 3 2 b_law_odd_zone
noncomputable def b_law_which (c : Nat) (a : PySem.Addr) : Sts := (.cons (.set 1 (.newl (.cons (.isk (.var 0) a (isC c 1) "NoZone") (.cons (.isk (.var 0) a (isC c 2) "NoPlan") (.cons (.isk (.var 0) a (isC c 3) "NoMoment") (.cons (.isk (.var 0) a (isC c 4) "NoCount") .nil)))))) (.cons (.ex (.ext (.var 1) (.lst (.cons (.isk (.var 0) a (isC c 5) "NoDeeds") (.cons (.isk (.var 0) a (isC c 6) "NoDeed") (.cons (.isk (.var 0) a (isC c 7) "NoRunner") (.cons (.isk (.var 0) a (isC c 8) "NoTerm") .nil))))))) (.cons (.ex (.ext (.var 1) (.lst (.cons (.isk (.var 0) a (isC c 9) "NotHolder") (.cons (.isk (.var 0) a (isC c 10) "Nothing") (.cons (.isk (.var 0) a (isC c 11) "NoCall") (.cons (.isk (.var 0) a (isC c 12) "NoText") .nil))))))) (.cons (.ex (.ext (.var 1) (.lst (.cons (.isk (.var 0) a (isC c 13) "NoWidth") (.cons (.isk (.var 0) a (isC c 14) "NoHolds") .nil))))) (.cons (.ife (.or (.cons (.cmp .ne (.cnt (.var 1) (.c (.bl true))) (.c (.int 1))) (.cons (.nt (.isk (.var 0) a true "ValueError")) .nil))) (.cons (.ret (.tup (.cons (.c (.str "refused")) (.cons (.neg (.c (.int 1))) .nil)))) .nil) .nil) (.cons (.ret (.tup (.cons (.c (.str "refused")) (.cons (.idx (.var 1) (.c (.bl true))) .nil)))) .nil))))))
noncomputable def f_law_which (c : Nat) (a : PySem.Addr) : Fn := defF true 2 1 (b_law_which c a)
noncomputable def b_law_ask : Sts := (.cons (.tryA (.cons (.ife (.cmp .eq (.var 0) (.c (.int 0))) (.cons (.ret (.call "meet" QT.f_meet (.cons (.var 1) (.cons (.var 2) (.cons (.var 3) (.cons (.var 4) .nil)))))) .nil) .nil) (.cons (.ret (.ite (.cmp .eq (.var 0) (.c (.int 1))) (.call "how_many" QT.f_how_many (.cons (.var 1) (.cons (.var 2) (.cons (.var 3) (.cons (.var 4) .nil))))) (.callE (.ix (.lst (.cons (.gl "gaps" (.fn "gaps")) (.cons (.gl "count_at" (.fn "count_at")) .nil))) (.bin .sub (.var 0) (.c (.int 2)))) [("gaps", QT.f_gaps), ("count_at", QT.f_count_at)] (.cons (.var 1) (.cons (.var 2) (.cons (.var 3) .nil)))))) .nil)) 5 "_law_which" QT.f_law_which [1, 2, 3, 4]) .nil)
noncomputable def f_law_ask : Fn := defF true 6 5 b_law_ask
noncomputable def b_need_both : Sts := (.cons (.ex (.call "need_zone" QT.f_need_zone (.cons (.var 0) .nil))) (.cons (.ex (.call "need_moment" QT.f_need_moment (.cons (.var 1) .nil))) (.cons (.ex (.call "need_moment" QT.f_need_moment (.cons (.var 2) .nil))) (.cons (.ife (.cmp .lt (.var 2) (.var 1)) (.cons (.rais 3 "NoMoment") .nil) .nil) .nil))))
noncomputable def f_need_both : Fn := defF true 3 3 b_need_both
noncomputable def b_shown_between : Sts := (.cons (.ret (.comp [("moment", 3)] (.nm 3) (.rng2 (.var 1) (.bin .add (.var 2) (.c (.int 1)))) .non (.call "wall_at" QT.f_wall_at (.cons (.var 0) (.cons (.var 3) .nil))))) .nil)
noncomputable def f_shown_between : Fn := defF true 4 3 b_shown_between
noncomputable def b_pair_of : Sts := (.cons (.ret (.tup (.cons (.bin .fdiv (.var 0) (.gl "DAY" (.int 24))) (.cons (.bin .mod (.var 0) (.gl "DAY" (.int 24))) .nil)))) .nil)
noncomputable def f_pair_of : Fn := defF true 1 1 b_pair_of
noncomputable def b_shown_often : Sts := (.cons (.ex (.call "need_both" QT.f_need_both (.cons (.var 0) (.cons (.var 1) (.cons (.var 2) .nil))))) (.cons (.set 3 (.newd false)) (.cons (.for_ (.nm 4) (.seq (.call "shown_between" QT.f_shown_between (.cons (.var 0) (.cons (.var 1) (.cons (.var 2) .nil))))) (.cons (.sto .dput (.var 3) (.cons (.var 4) .nil) (.bin .add (.opn .get (.var 3) (.cons (.var 4) (.cons (.c (.int 0)) .nil))) (.c (.int 1)))) .nil)) (.cons (.ret (.comp [("one", 4)] (.nm 4) (.seq (.opn .skeys (.var 3) .nil)) (.som (.cmp .gt (.opn .ixd (.var 3) (.cons (.var 4) .nil)) (.c (.int 1)))) (.tup (.cons (.call "pair_of" QT.f_pair_of (.cons (.var 4) .nil)) (.cons (.opn .ixd (.var 3) (.cons (.var 4) .nil)) .nil))))) .nil))))
noncomputable def f_shown_often : Fn := defF true 5 3 b_shown_often
noncomputable def b_never_shown : Sts := (.cons (.ex (.call "need_both" QT.f_need_both (.cons (.var 0) (.cons (.var 1) (.cons (.var 2) .nil))))) (.cons (.set 3 (.call "shown_between" QT.f_shown_between (.cons (.var 0) (.cons (.var 1) (.cons (.var 2) .nil))))) (.cons (.set 4 (.bi .dictOf (.cons (.comp [("one", 5)] (.nm 5) (.seq (.var 3)) .non (.tup (.cons (.var 5) (.cons (.c (.bl true)) .nil)))) .nil))) (.cons (.ret (.comp [("one", 5)] (.nm 5) (.rng2 (.bi .minL (.cons (.var 3) .nil)) (.bi .maxL (.cons (.var 3) .nil))) (.som (.cmp .nin (.var 5) (.var 4))) (.call "pair_of" QT.f_pair_of (.cons (.var 5) .nil)))) .nil))))
noncomputable def f_never_shown : Fn := defF true 6 3 b_never_shown
noncomputable def b_leaps : Sts := (.cons (.ex (.call "need_zone" QT.f_need_zone (.cons (.var 0) .nil))) (.cons (.set 1 (.newl .nil)) (.cons (.set 2 (.ix (.var 0) (.c (.int 0)))) (.cons (.for_ (.tp [(.nm 3), (.nm 4)]) (.seq (.ix (.var 0) (.c (.int 1)))) (.cons (.ife (.cmp .ne (.var 4) (.var 2)) (.cons (.ex (.app (.var 1) (.tup (.cons (.var 3) (.cons (.bin .add (.bin .sub (.var 4) (.var 2)) (.c (.int 1))) .nil))))) .nil) .nil) (.cons (.set 2 (.var 4)) .nil))) (.cons (.ret (.frz (.var 1))) .nil)))))
noncomputable def f_leaps : Fn := defF true 5 1 b_leaps
noncomputable def b_is_late : Sts := (.cons (.ife (.isi (.var 0) .str) (.cons (.ret (.cmp .inn (.var 0) (.tup (.cons (.c (.str "all")) (.cons (.c (.str "last")) .nil))))) .nil) .nil) (.cons (.ife (.or (.cons (.nt (.isi (.var 0) .tuple)) (.cons (.cmp .ne (.bi .len (.cons (.var 0) .nil)) (.c (.int 2))) (.cons (.nt (.isi (.ix (.var 0) (.c (.int 0))) .str)) .nil)))) (.cons (.ret (.c (.bl false))) .nil) .nil) (.cons (.ret (.and (.cons (.cmp .eq (.ix (.var 0) (.c (.int 0))) (.c (.str "within"))) (.cons (.call "is_whole" QT.f_is_whole (.cons (.ix (.var 0) (.c (.int 1))) (.cons (.c (.int 0)) (.cons (.gl "GRACE" (.int 999)) .nil)))) .nil)))) .nil)))
noncomputable def f_is_late : Fn := defF true 1 1 b_is_late
noncomputable def b_are_deeds : Sts := (.cons (.ife (.or (.cons (.nt (.isi (.var 0) .tuple)) (.cons (.cmp .gt (.bi .len (.cons (.var 0) .nil)) (.gl "DEEDS" (.int 6))) .nil))) (.cons (.ret (.c (.bl false))) .nil) .nil) (.cons (.for_ (.nm 1) (.seq (.var 0)) (.cons (.ife (.or (.cons (.nt (.isi (.var 1) .tuple)) (.cons (.cmp .ne (.bi .len (.cons (.var 1) .nil)) (.c (.int 3))) (.cons (.nt (.call "is_plan" QT.f_is_plan (.cons (.ix (.var 1) (.c (.int 0))) .nil))) (.cons (.nt (.call "is_late" QT.f_is_late (.cons (.ix (.var 1) (.c (.int 1))) .nil))) .nil))))) (.cons (.ret (.c (.bl false))) .nil) .nil) (.cons (.ife (.nt (.isi (.ix (.var 1) (.c (.int 2))) .bool)) (.cons (.ret (.c (.bl false))) .nil) .nil) .nil))) (.cons (.ret (.c (.bl true))) .nil)))
noncomputable def f_are_deeds : Fn := defF true 2 1 b_are_deeds
noncomputable def b_Hall_init : Sts := (.cons (.ex (.call "need_zone" QT.f_need_zone (.cons (.var 1) .nil))) (.cons (.ife (.nt (.call "are_deeds" QT.f_are_deeds (.cons (.var 2) .nil))) (.cons (.rais 5 "NoDeeds") .nil) .nil) (.cons (.sto (.fset "zone") (.var 0) .nil (.var 1)) (.cons (.sto (.fset "deeds") (.var 0) .nil (.var 2)) (.cons (.sto (.fset "now") (.var 0) .nil (.neg (.c (.int 1)))) (.cons (.sto (.fset "holder") (.var 0) .nil (.c .non)) (.cons (.sto (.fset "until") (.var 0) .nil (.c (.int 0))) (.cons (.sto (.fset "hold") (.var 0) .nil (.c (.int 0))) (.cons (.sto (.fset "counts") (.var 0) .nil (.opn .newr (.lst (.cons (.c (.int 0)) .nil)) (.cons (.bi .len (.cons (.var 2) .nil)) .nil))) (.cons (.sto (.fset "begun") (.var 0) .nil (.c .non)) (.cons (.sto (.fset "rows") (.var 0) .nil (.newl .nil)) (.cons (.sto (.fset "settled") (.var 0) .nil (.newd true)) .nil))))))))))))
noncomputable def f_Hall_init : Fn := defF false 3 3 b_Hall_init
noncomputable def b_Hall_come : Sts := (.cons (.ife (.nt (.call "is_whole" QT.f_is_whole (.cons (.var 1) (.cons (.c (.int 0)) (.cons (.bin .sub (.gl "RUNNERS" (.int 4)) (.c (.int 1))) .nil))))) (.cons (.rais 7 "NoRunner") .nil) .nil) (.cons (.ife (.nt (.call "is_whole" QT.f_is_whole (.cons (.var 2) (.cons (.bi .max (.cons (.c (.int 0)) (.cons (.opn (.fld "now") (.var 0) .nil) .nil))) (.cons (.gl "MOMENTS" (.int 9999)) .nil))))) (.cons (.rais 3 "NoMoment") .nil) .nil) .nil))
noncomputable def f_Hall_come : Fn := defF true 3 3 b_Hall_come
noncomputable def b_Hall_take : Sts := (.cons (.ex (.meth (.var 0) "come" QT.f_Hall_come (.cons (.var 1) (.cons (.var 2) .nil)))) (.cons (.ife (.nt (.call "is_whole" QT.f_is_whole (.cons (.var 3) (.cons (.c (.int 1)) (.cons (.gl "TERM" (.int 99)) .nil))))) (.cons (.rais 8 "NoTerm") .nil) .nil) (.cons (.sto (.fset "now") (.var 0) .nil (.var 2)) (.cons (.ife (.and (.cons (.cmp .isnot (.opn (.fld "holder") (.var 0) .nil) (.c .non)) (.cons (.cmp .lt (.var 2) (.opn (.fld "until") (.var 0) .nil)) .nil))) (.cons (.ife (.cmp .ne (.opn (.fld "holder") (.var 0) .nil) (.var 1)) (.cons (.ret (.c (.bl false))) .nil) .nil) .nil) (.cons (.sto (.fset "hold") (.var 0) .nil (.bin .add (.opn (.fld "hold") (.var 0) .nil) (.c (.int 1)))) (.cons (.sto (.fset "holder") (.var 0) .nil (.var 1)) .nil))) (.cons (.sto (.fset "until") (.var 0) .nil (.bin .add (.var 2) (.var 3))) (.cons (.ret (.c (.bl true))) .nil))))))
noncomputable def f_Hall_take : Fn := defF true 4 4 b_Hall_take
noncomputable def b_Hall_hold_it : Sts := (.cons (.ex (.meth (.var 0) "come" QT.f_Hall_come (.cons (.var 1) (.cons (.var 2) .nil)))) (.cons (.ife (.or (.cons (.cmp .ne (.opn (.fld "holder") (.var 0) .nil) (.var 1)) (.cons (.cmp .ge (.var 2) (.opn (.fld "until") (.var 0) .nil)) .nil))) (.cons (.rais 9 "NotHolder") .nil) .nil) .nil))
noncomputable def f_Hall_hold_it : Fn := defF true 3 3 b_Hall_hold_it
noncomputable def b_Hall_give : Sts := (.cons (.ex (.meth (.var 0) "hold_it" QT.f_Hall_hold_it (.cons (.var 1) (.cons (.var 2) .nil)))) (.cons (.sto (.fset "now") (.var 0) .nil (.var 2)) (.cons (.sto (.fset "holder") (.var 0) .nil (.c .non)) .nil)))
noncomputable def f_Hall_give : Fn := defF true 3 3 b_Hall_give
noncomputable def b_Hall_note : Sts := (.cons (.set 4 (.ix (.opn (.fld "counts") (.var 0) .nil) (.var 3))) (.cons (.ex (.app (.opn (.fld "rows") (.var 0) .nil) (.tup (.cons (.opn (.fld "now") (.var 0) .nil) (.cons (.var 1) (.cons (.var 2) (.cons (.var 3) (.cons (.var 4) .nil)))))))) (.cons (.ife (.cmp .eq (.var 2) (.c (.str "begun"))) (.cons (.sto (.fset "begun") (.var 0) .nil (.tup (.cons (.var 3) (.cons (.opn (.fld "hold") (.var 0) .nil) .nil)))) .nil) (.cons (.sto .putT (.opn (.fld "settled") (.var 0) .nil) (.cons (.var 3) (.cons (.var 4) .nil)) (.var 2)) (.cons (.sto .lput (.opn (.fld "counts") (.var 0) .nil) (.cons (.var 3) .nil) (.bin .add (.var 4) (.c (.int 1)))) .nil))) (.cons (.ret (.tup (.cons (.var 2) (.cons (.var 3) (.cons (.var 4) .nil))))) .nil))))
noncomputable def f_Hall_note : Fn := defF true 5 4 b_Hall_note
noncomputable def b_Hall_due_of : Sts := (.cons (.ret (.call "due_at" QT.f_due_at (.cons (.opn (.fld "zone") (.var 0) .nil) (.cons (.ix (.ix (.opn (.fld "deeds") (.var 0) .nil) (.var 1)) (.c (.int 0))) (.cons (.bin .add (.ix (.opn (.fld "counts") (.var 0) .nil) (.var 1)) (.var 2)) .nil))))) .nil)
noncomputable def f_Hall_due_of : Fn := defF true 3 3 b_Hall_due_of
noncomputable def b_Hall_is_left : Sts := (.cons (.set 3 (.ix (.ix (.opn (.fld "deeds") (.var 0) .nil) (.var 1)) (.c (.int 1)))) (.cons (.ife (.cmp .eq (.var 3) (.c (.str "all"))) (.cons (.ret (.c (.bl false))) .nil) .nil) (.cons (.ife (.cmp .eq (.var 3) (.c (.str "last"))) (.cons (.set 4 (.meth (.var 0) "due_of" QT.f_Hall_due_of (.cons (.var 1) (.cons (.c (.int 1)) .nil)))) (.cons (.ret (.and (.cons (.cmp .isnot (.var 4) (.c .non)) (.cons (.cmp .le (.var 4) (.var 2)) .nil)))) .nil)) .nil) (.cons (.ret (.cmp .gt (.bin .sub (.var 2) (.meth (.var 0) "due_of" QT.f_Hall_due_of (.cons (.var 1) (.cons (.c (.int 0)) .nil)))) (.ix (.var 3) (.c (.int 1))))) .nil))))
noncomputable def f_Hall_is_left : Fn := defF true 5 3 b_Hall_is_left
noncomputable def b_Hall_step : Sts := (.cons (.ex (.meth (.var 0) "hold_it" QT.f_Hall_hold_it (.cons (.var 1) (.cons (.var 2) .nil)))) (.cons (.sto (.fset "now") (.var 0) .nil (.var 2)) (.cons (.ife (.cmp .isnot (.opn (.fld "begun") (.var 0) .nil) (.c .non)) (.cons (.tgt (.tp [(.nm 3), (.nm 4)]) (.opn (.fld "begun") (.var 0) .nil)) (.cons (.ife (.cmp .eq (.var 4) (.opn (.fld "hold") (.var 0) .nil)) (.cons (.ret (.tup (.cons (.c (.str "busy")) (.cons (.var 3) (.cons (.ix (.opn (.fld "counts") (.var 0) .nil) (.var 3)) .nil))))) .nil) .nil) (.cons (.sto (.fset "begun") (.var 0) .nil (.c .non)) (.cons (.ret (.meth (.var 0) "note" QT.f_Hall_note (.cons (.var 1) (.cons (.ix (.lst (.cons (.c (.str "unsure")) (.cons (.c (.str "begun")) .nil))) (.bi .intOf (.cons (.ix (.ix (.opn (.fld "deeds") (.var 0) .nil) (.var 3)) (.c (.int 2))) .nil))) (.cons (.var 3) .nil))))) .nil)))) .nil) (.cons (.set 5 (.newl .nil)) (.cons (.for_ (.nm 3) (.rng1 (.bi .len (.cons (.opn (.fld "deeds") (.var 0) .nil) .nil))) (.cons (.set 6 (.meth (.var 0) "due_of" QT.f_Hall_due_of (.cons (.var 3) (.cons (.c (.int 0)) .nil)))) (.cons (.ife (.cmp .isnot (.var 6) (.c .non)) (.cons (.ex (.app (.var 5) (.tup (.cons (.var 6) (.cons (.var 3) .nil))))) .nil) .nil) .nil))) (.cons (.set 5 (.bi .sorted (.cons (.var 5) .nil))) (.cons (.ife (.cmp .eq (.var 5) (.lst .nil)) (.cons (.ret (.tup (.cons (.c (.str "idle")) (.cons (.c .non) .nil)))) .nil) .nil) (.cons (.tgt (.tp [(.nm 6), (.nm 3)]) (.ix (.var 5) (.c (.int 0)))) (.cons (.ife (.cmp .gt (.var 6) (.var 2)) (.cons (.ret (.tup (.cons (.c (.str "idle")) (.cons (.var 6) .nil)))) .nil) .nil) (.cons (.ret (.meth (.var 0) "note" QT.f_Hall_note (.cons (.var 1) (.cons (.ix (.lst (.cons (.c (.str "begun")) (.cons (.c (.str "left")) .nil))) (.bi .intOf (.cons (.meth (.var 0) "is_left" QT.f_Hall_is_left (.cons (.var 3) (.cons (.var 2) .nil))) .nil))) (.cons (.var 3) .nil))))) .nil))))))))))
noncomputable def f_Hall_step : Fn := defF true 7 3 b_Hall_step
noncomputable def b_Hall_finish : Sts := (.cons (.ex (.meth (.var 0) "hold_it" QT.f_Hall_hold_it (.cons (.var 1) (.cons (.var 2) .nil)))) (.cons (.ife (.or (.cons (.cmp .is (.opn (.fld "begun") (.var 0) .nil) (.c .non)) (.cons (.cmp .ne (.ix (.opn (.fld "begun") (.var 0) .nil) (.c (.int 1))) (.opn (.fld "hold") (.var 0) .nil)) .nil))) (.cons (.rais 10 "Nothing") .nil) .nil) (.cons (.sto (.fset "now") (.var 0) .nil (.var 2)) (.cons (.set 3 (.ix (.opn (.fld "begun") (.var 0) .nil) (.c (.int 0)))) (.cons (.sto (.fset "begun") (.var 0) .nil (.c .non)) (.cons (.ret (.meth (.var 0) "note" QT.f_Hall_note (.cons (.var 1) (.cons (.c (.str "done")) (.cons (.var 3) .nil))))) .nil))))))
noncomputable def f_Hall_finish : Fn := defF true 4 3 b_Hall_finish
noncomputable def b_Hall_held : Sts := (.cons (.ret (.tup (.cons (.opn (.fld "holder") (.var 0) .nil) (.cons (.opn (.fld "until") (.var 0) .nil) (.cons (.opn (.fld "hold") (.var 0) .nil) .nil))))) .nil)
noncomputable def f_Hall_held : Fn := defF true 1 1 b_Hall_held
noncomputable def b_Hall_waiting : Sts := (.cons (.set 1 (.newl .nil)) (.cons (.for_ (.nm 2) (.rng1 (.bi .len (.cons (.opn (.fld "deeds") (.var 0) .nil) .nil))) (.cons (.set 3 (.c (.int 0))) (.cons (.set 4 (.meth (.var 0) "due_of" QT.f_Hall_due_of (.cons (.var 2) (.cons (.c (.int 0)) .nil)))) (.cons (.whl 1000000 (.and (.cons (.cmp .isnot (.var 4) (.c .non)) (.cons (.cmp .le (.var 4) (.opn (.fld "now") (.var 0) .nil)) .nil))) (.cons (.set 3 (.bin .add (.var 3) (.c (.int 1)))) (.cons (.set 4 (.meth (.var 0) "due_of" QT.f_Hall_due_of (.cons (.var 2) (.cons (.var 3) .nil)))) .nil))) (.cons (.ex (.app (.var 1) (.var 3))) .nil))))) (.cons (.ret (.frz (.var 1))) .nil)))
noncomputable def f_Hall_waiting : Fn := defF true 5 1 b_Hall_waiting
noncomputable def b_Hall_log : Sts := (.cons (.ret (.bi .listOf (.cons (.opn (.fld "rows") (.var 0) .nil) .nil))) .nil)
noncomputable def f_Hall_log : Fn := defF true 1 1 b_Hall_log
noncomputable def b_Hall_saved : Sts := (.cons (.set 1 (.tup (.cons (.opn (.fld "zone") (.var 0) .nil) (.cons (.opn (.fld "deeds") (.var 0) .nil) (.cons (.opn (.fld "now") (.var 0) .nil) (.cons (.opn (.fld "holder") (.var 0) .nil) (.cons (.opn (.fld "until") (.var 0) .nil) (.cons (.opn (.fld "hold") (.var 0) .nil) .nil)))))))) (.cons (.ret (.bin .add (.var 1) (.tup (.cons (.bi .tupleOf (.cons (.opn (.fld "counts") (.var 0) .nil) .nil)) (.cons (.opn (.fld "begun") (.var 0) .nil) (.cons (.bi .tupleOf (.cons (.opn (.fld "rows") (.var 0) .nil) .nil)) .nil)))))) .nil))
noncomputable def f_Hall_saved : Fn := defF true 2 1 b_Hall_saved
noncomputable def b_Hall_state : Sts := (.cons (.ife (.nt (.call "is_whole" QT.f_is_whole (.cons (.var 1) (.cons (.c (.int 0)) (.cons (.bin .sub (.bi .len (.cons (.opn (.fld "deeds") (.var 0) .nil) .nil)) (.c (.int 1))) .nil))))) (.cons (.rais 6 "NoDeed") .nil) .nil) (.cons (.ife (.nt (.call "is_whole" QT.f_is_whole (.cons (.var 2) (.cons (.c (.int 0)) (.cons (.gl "MOMENTS" (.int 9999)) .nil))))) (.cons (.rais 4 "NoCount") .nil) .nil) (.cons (.ife (.inT (.cons (.var 1) (.cons (.var 2) .nil)) (.opn (.fld "settled") (.var 0) .nil)) (.cons (.ret (.opn .ixT (.opn (.fld "settled") (.var 0) .nil) (.cons (.var 1) (.cons (.var 2) .nil)))) .nil) .nil) (.cons (.ife (.and (.cons (.cmp .isnot (.opn (.fld "begun") (.var 0) .nil) (.c .non)) (.cons (.cmp .eq (.ix (.opn (.fld "begun") (.var 0) .nil) (.c (.int 0))) (.var 1)) (.cons (.cmp .eq (.ix (.opn (.fld "counts") (.var 0) .nil) (.var 1)) (.var 2)) .nil)))) (.cons (.ret (.c (.str "begun"))) .nil) .nil) (.cons (.set 3 (.call "due_at" QT.f_due_at (.cons (.opn (.fld "zone") (.var 0) .nil) (.cons (.ix (.ix (.opn (.fld "deeds") (.var 0) .nil) (.var 1)) (.c (.int 0))) (.cons (.var 2) .nil))))) (.cons (.ife (.cmp .is (.var 3) (.c .non)) (.cons (.ret (.c (.str "none"))) .nil) .nil) (.cons (.ret (.ix (.lst (.cons (.c (.str "coming")) (.cons (.c (.str "due")) .nil))) (.bi .intOf (.cons (.cmp .le (.var 3) (.opn (.fld "now") (.var 0) .nil)) .nil)))) .nil)))))))
noncomputable def f_Hall_state : Fn := defF true 4 3 b_Hall_state
noncomputable def b_catch_up : Sts := (.cons (.ife (.nt (.call "is_whole" QT.f_is_whole (.cons (.var 3) (.cons (.c (.int 0)) (.cons (.gl "STEPS" (.int 999)) .nil))))) (.cons (.rais 4 "NoCount") .nil) .nil) (.cons (.set 4 (.newl .nil)) (.cons (.for_ (.nm 5) (.rng1 (.var 3)) (.cons (.set 6 (.meth (.var 0) "step" QT.f_Hall_step (.cons (.var 1) (.cons (.var 2) .nil)))) (.cons (.ex (.app (.var 4) (.var 6))) (.cons (.ife (.cmp .eq (.ix (.var 6) (.c (.int 0))) (.c (.str "idle"))) (.cons (.ret (.frz (.var 4))) .nil) .nil) (.cons (.ife (.cmp .inn (.ix (.var 6) (.c (.int 0))) (.tup (.cons (.c (.str "begun")) (.cons (.c (.str "busy")) .nil)))) (.cons (.ex (.app (.var 4) (.meth (.var 0) "finish" QT.f_Hall_finish (.cons (.var 1) (.cons (.var 2) .nil))))) .nil) .nil) .nil))))) (.cons (.ret (.frz (.var 4))) .nil))))
noncomputable def f_catch_up : Fn := defF true 7 4 b_catch_up
noncomputable def b_need_calendar : Sts := (.cons (.ex (.call "need_zone" QT.f_need_zone (.cons (.var 0) .nil))) (.cons (.ife (.nt (.call "are_deeds" QT.f_are_deeds (.cons (.var 1) .nil))) (.cons (.rais 5 "NoDeeds") .nil) .nil) .nil))
noncomputable def f_need_calendar : Fn := defF true 2 2 b_need_calendar
noncomputable def b_next_due : Sts := (.cons (.ex (.call "need_calendar" QT.f_need_calendar (.cons (.var 0) (.cons (.var 1) .nil)))) (.cons (.ex (.call "need_moment" QT.f_need_moment (.cons (.var 2) .nil))) (.cons (.set 3 (.newl .nil)) (.cons (.for_ (.tp [(.nm 4), (.nm 5)]) (.enum (.var 1)) (.cons (.set 6 (.c (.int 0))) (.cons (.set 7 (.call "due_at" QT.f_due_at (.cons (.var 0) (.cons (.ix (.var 5) (.c (.int 0))) (.cons (.c (.int 0)) .nil))))) (.cons (.whl 1000000 (.and (.cons (.cmp .isnot (.var 7) (.c .non)) (.cons (.cmp .lt (.var 7) (.var 2)) .nil))) (.cons (.set 6 (.bin .add (.var 6) (.c (.int 1)))) (.cons (.set 7 (.call "due_at" QT.f_due_at (.cons (.var 0) (.cons (.ix (.var 5) (.c (.int 0))) (.cons (.var 6) .nil))))) .nil))) (.cons (.ife (.cmp .isnot (.var 7) (.c .non)) (.cons (.ex (.app (.var 3) (.tup (.cons (.var 7) (.cons (.var 4) (.cons (.var 6) .nil)))))) .nil) .nil) .nil))))) (.cons (.ret (.ix (.bin .add (.bi .sorted (.cons (.var 3) .nil)) (.lst (.cons (.c .non) .nil))) (.c (.int 0)))) .nil)))))
noncomputable def f_next_due : Fn := defF true 8 3 b_next_due
noncomputable def b_need_ends : Sts := (.cons (.ex (.call "need_moment" QT.f_need_moment (.cons (.var 0) .nil))) (.cons (.ex (.call "need_moment" QT.f_need_moment (.cons (.var 1) .nil))) (.cons (.ife (.cmp .lt (.var 1) (.var 0)) (.cons (.rais 3 "NoMoment") .nil) .nil) .nil)))
noncomputable def f_need_ends : Fn := defF true 2 2 b_need_ends
noncomputable def b_rows_of : Sts := (.cons (.set 4 (.newl .nil)) (.cons (.for_ (.tp [(.nm 5), (.nm 6)]) (.enum (.var 1)) (.cons (.ex (.ext (.var 4) (.comp [("count", 7), ("moment", 8)] (.tp [(.nm 7), (.nm 8)]) (.seq (.call "dues" QT.f_dues (.cons (.var 0) (.cons (.ix (.var 6) (.c (.int 0))) (.cons (.var 2) (.cons (.var 3) .nil)))))) .non (.tup (.cons (.var 8) (.cons (.var 5) (.cons (.var 7) .nil))))))) .nil)) (.cons (.ret (.bi .sorted (.cons (.var 4) .nil))) .nil)))
noncomputable def f_rows_of : Fn := defF true 9 4 b_rows_of
noncomputable def b_calendar : Sts := (.cons (.ex (.call "need_calendar" QT.f_need_calendar (.cons (.var 0) (.cons (.var 1) .nil)))) (.cons (.ex (.call "need_ends" QT.f_need_ends (.cons (.var 2) (.cons (.var 3) .nil)))) (.cons (.ret (.call "rows_of" QT.f_rows_of (.cons (.var 0) (.cons (.var 1) (.cons (.var 2) (.cons (.var 3) .nil)))))) .nil)))
noncomputable def f_calendar : Fn := defF true 4 4 b_calendar
noncomputable def b_tallies : Sts := (.cons (.set 1 (.newl .nil)) (.cons (.set 2 (.meth (.var 0) "log" QT.f_Hall_log .nil)) (.cons (.for_ (.nm 3) (.rng1 (.bi .len (.cons (.meth (.var 0) "waiting" QT.f_Hall_waiting .nil) .nil))) (.cons (.ex (.app (.var 1) (.bi .tupleOf (.cons (.comp [("word", 4)] (.nm 4) (.seq (.gl "WORDS" (.tup [(.str "begun"), (.str "done"), (.str "left"), (.str "unsure")]))) .non (.bi .len (.cons (.comp [("row", 5)] (.nm 5) (.seq (.var 2)) (.som (.and (.cons (.cmp .eq (.ix (.var 5) (.c (.int 2))) (.var 4)) (.cons (.cmp .eq (.ix (.var 5) (.c (.int 3))) (.var 3)) .nil)))) (.c (.int 1))) .nil))) .nil)))) .nil)) (.cons (.ret (.frz (.var 1))) .nil))))
noncomputable def f_tallies : Fn := defF true 6 1 b_tallies
noncomputable def b_law_rows : Sts := (.cons (.par 3 4 (.newl .nil) (.c (.int 0))) (.cons (.for_ (.nm 5) (.rng1 (.call "_law_draw" QT.f_law_draw (.cons (.var 0) (.cons (.var 1) (.cons (.bin .add (.var 2) (.c (.int 1))) .nil))))) (.cons (.set 4 (.bin .add (.var 4) (.call "_law_draw" QT.f_law_draw (.cons (.var 0) (.cons (.var 1) (.cons (.call "_law_pick" QT.f_law_pick (.cons (.var 0) (.cons (.var 1) (.cons (.lst (.cons (.c (.int 1)) (.cons (.c (.int 4)) (.cons (.c (.int 20)) .nil)))) .nil)))) .nil)))))) (.cons (.set 6 (.call "_law_draw" QT.f_law_draw (.cons (.var 0) (.cons (.var 1) (.cons (.call "_law_pick" QT.f_law_pick (.cons (.var 0) (.cons (.var 1) (.cons (.lst (.cons (.c (.int 2)) (.cons (.c (.int 4)) .nil))) .nil)))) .nil))))) (.cons (.ife (.cmp .eq (.call "_law_draw" QT.f_law_draw (.cons (.var 0) (.cons (.var 1) (.cons (.c (.int 3)) .nil)))) (.c (.int 0))) (.cons (.ex (.app (.var 3) (.tup (.cons (.c (.str "give")) (.cons (.var 6) (.cons (.var 4) .nil)))))) .nil) (.cons (.ex (.app (.var 3) (.tup (.cons (.c (.str "take")) (.cons (.var 6) (.cons (.var 4) (.cons (.bin .add (.c (.int 1)) (.call "_law_draw" QT.f_law_draw (.cons (.var 0) (.cons (.var 1) (.cons (.call "_law_pick" QT.f_law_pick (.cons (.var 0) (.cons (.var 1) (.cons (.lst (.cons (.c (.int 3)) (.cons (.c (.int 30)) (.cons (.c (.int 99)) .nil)))) .nil)))) .nil))))) .nil))))))) .nil)) .nil)))) (.cons (.ret (.frz (.var 3))) .nil)))
noncomputable def f_law_rows : Fn := defF true 7 3 b_law_rows
noncomputable def b_is_row : Sts := (.cons (.ife (.or (.cons (.nt (.isi (.var 0) .tuple)) (.cons (.cmp .lt (.bi .len (.cons (.var 0) .nil)) (.c (.int 3))) (.cons (.nt (.isi (.ix (.var 0) (.c (.int 0))) .str)) .nil)))) (.cons (.ret (.c (.bl false))) .nil) .nil) (.cons (.ife (.or (.cons (.nt (.call "is_whole" QT.f_is_whole (.cons (.ix (.var 0) (.c (.int 1))) (.cons (.c (.int 0)) (.cons (.bin .sub (.gl "RUNNERS" (.int 4)) (.c (.int 1))) .nil))))) (.cons (.nt (.call "is_whole" QT.f_is_whole (.cons (.ix (.var 0) (.c (.int 2))) (.cons (.c (.int 0)) (.cons (.gl "MOMENTS" (.int 9999)) .nil))))) .nil))) (.cons (.ret (.c (.bl false))) .nil) .nil) (.cons (.ife (.cmp .eq (.ix (.var 0) (.c (.int 0))) (.c (.str "give"))) (.cons (.ret (.cmp .eq (.bi .len (.cons (.var 0) .nil)) (.c (.int 3)))) .nil) .nil) (.cons (.ret (.and (.cons (.cmp .eq (.ix (.var 0) (.c (.int 0))) (.c (.str "take"))) (.cons (.cmp .eq (.bi .len (.cons (.var 0) .nil)) (.c (.int 4))) (.cons (.call "is_whole" QT.f_is_whole (.cons (.ix (.var 0) (.c (.int 3))) (.cons (.c (.int 1)) (.cons (.gl "TERM" (.int 99)) .nil)))) .nil))))) .nil))))
noncomputable def f_is_row : Fn := defF true 1 1 b_is_row
noncomputable def b_need_rows : Sts := (.cons (.ife (.or (.cons (.nt (.isi (.var 0) .list)) (.cons (.nt (.bi .all (.cons (.comp [("row", 1)] (.nm 1) (.seq (.var 0)) .non (.call "is_row" QT.f_is_row (.cons (.var 1) .nil))) .nil))) .nil))) (.cons (.rais 14 "NoHolds") .nil) .nil) (.cons (.ife (.nt (.bi .all (.cons (.comp [("one", 2), ("other", 3)] (.tp [(.nm 2), (.nm 3)]) (.zip (.var 0) (.sl (.var 0) (.som (.c (.int 1))) .non)) .non (.cmp .le (.ix (.var 2) (.c (.int 2))) (.ix (.var 3) (.c (.int 2))))) .nil))) (.cons (.rais 14 "NoHolds") .nil) .nil) .nil))
noncomputable def f_need_rows : Fn := defF true 4 1 b_need_rows
noncomputable def b_holds_of : Sts := (.cons (.set 1 (.newl .nil)) (.cons (.for_ (.nm 2) (.seq (.var 0)) (.cons (.set 3 (.ix (.var 2) (.c (.int 2)))) (.cons (.set 4 (.and (.cons (.cmp .ne (.var 1) (.lst .nil)) (.cons (.cmp .lt (.var 3) (.ix (.ix (.var 1) (.neg (.c (.int 1)))) (.c (.int 2)))) .nil)))) (.cons (.ife (.and (.cons (.cmp .eq (.ix (.var 2) (.c (.int 0))) (.c (.str "take"))) (.cons (.nt (.var 4)) .nil))) (.cons (.ex (.app (.var 1) (.tup (.cons (.ix (.var 2) (.c (.int 1))) (.cons (.var 3) (.cons (.bin .add (.var 3) (.ix (.var 2) (.c (.int 3)))) .nil)))))) .nil) (.cons (.ife (.and (.cons (.var 4) (.cons (.cmp .eq (.ix (.ix (.var 1) (.neg (.c (.int 1)))) (.c (.int 0))) (.ix (.var 2) (.c (.int 1)))) .nil))) (.cons (.sto .lput (.var 1) (.cons (.neg (.c (.int 1))) .nil) (.tup (.cons (.ix (.var 2) (.c (.int 1))) (.cons (.ix (.ix (.var 1) (.neg (.c (.int 1)))) (.c (.int 1))) (.cons (.ite (.cmp .eq (.ix (.var 2) (.c (.int 0))) (.c (.str "take"))) (.bin .add (.var 3) (.ix (.var 2) (.c (.int 3)))) (.var 3)) .nil))))) .nil) .nil) .nil)) .nil)))) (.cons (.ret (.frz (.var 1))) .nil)))
noncomputable def f_holds_of : Fn := defF true 5 1 b_holds_of
noncomputable def b_all_holds : Sts := (.cons (.ex (.call "need_rows" QT.f_need_rows (.cons (.var 0) .nil))) (.cons (.ret (.comp [("hold", 1)] (.nm 1) (.seq (.call "holds_of" QT.f_holds_of (.cons (.var 0) .nil))) (.som (.cmp .lt (.ix (.var 1) (.c (.int 1))) (.ix (.var 1) (.c (.int 2))))) (.var 1))) .nil))
noncomputable def f_all_holds : Fn := defF true 2 1 b_all_holds
noncomputable def b_law_holds : Sts := (.cons (.tgt (.tp [(.nm 1), (.nm 2), (.nm 3)]) (.tup (.cons (.lst .nil) (.cons (.c .non) (.cons (.c (.int 0)) .nil))))) (.cons (.for_ (.nm 4) (.seq (.var 0)) (.cons (.set 5 (.and (.cons (.cmp .isnot (.var 2) (.c .non)) (.cons (.cmp .lt (.ix (.var 4) (.c (.int 2))) (.var 3)) .nil)))) (.cons (.ife (.and (.cons (.cmp .eq (.ix (.var 4) (.c (.int 0))) (.c (.str "take"))) (.cons (.nt (.var 5)) .nil))) (.cons (.ex (.app (.var 1) (.lst (.cons (.ix (.var 4) (.c (.int 1))) (.cons (.ix (.var 4) (.c (.int 2))) (.cons (.bin .add (.ix (.var 4) (.c (.int 2))) (.ix (.var 4) (.c (.int 3)))) .nil)))))) (.cons (.par 2 3 (.ix (.var 4) (.c (.int 1))) (.bin .add (.ix (.var 4) (.c (.int 2))) (.ix (.var 4) (.c (.int 3))))) .nil)) (.cons (.ife (.and (.cons (.cmp .eq (.ix (.var 4) (.c (.int 0))) (.c (.str "take"))) (.cons (.cmp .eq (.var 2) (.ix (.var 4) (.c (.int 1)))) .nil))) (.cons (.set 3 (.bin .add (.ix (.var 4) (.c (.int 2))) (.ix (.var 4) (.c (.int 3))))) (.cons (.sto .lput (.ix (.var 1) (.neg (.c (.int 1)))) (.cons (.c (.int 2)) .nil) (.var 3)) .nil)) (.cons (.ife (.and (.cons (.cmp .eq (.ix (.var 4) (.c (.int 0))) (.c (.str "give"))) (.cons (.var 5) (.cons (.cmp .eq (.var 2) (.ix (.var 4) (.c (.int 1)))) .nil)))) (.cons (.sto .lput (.ix (.var 1) (.neg (.c (.int 1)))) (.cons (.c (.int 2)) .nil) (.ix (.var 4) (.c (.int 2)))) (.cons (.set 2 (.c .non)) .nil)) .nil) .nil)) .nil)) .nil))) (.cons (.ret (.comp [("_law_one", 6)] (.nm 6) (.seq (.frz (.var 1))) (.som (.cmp .lt (.ix (.var 6) (.c (.int 1))) (.ix (.var 6) (.c (.int 2))))) (.bi .tupleOf (.cons (.var 6) .nil)))) .nil)))
noncomputable def f_law_holds : Fn := defF true 7 1 b_law_holds
noncomputable def b_is_call : Sts := (.cons (.ife (.or (.cons (.nt (.isi (.var 0) .tuple)) (.cons (.cmp .eq (.bi .len (.cons (.var 0) .nil)) (.c (.int 0))) (.cons (.nt (.isi (.ix (.var 0) (.c (.int 0))) .str)) .nil)))) (.cons (.ret (.c (.bl false))) .nil) .nil) (.cons (.ret (.cmp .eq (.bi .len (.cons (.var 0) .nil)) (.opn (.gget "SIZES" [("take", 4), ("give", 3), ("step", 3), ("finish", 3)]) (.ix (.var 0) (.c (.int 0))) (.cons (.c (.int 0)) .nil)))) .nil))
noncomputable def f_is_call : Fn := defF true 1 1 b_is_call
noncomputable def b_do_now : Sts := (.cons (.ife (.cmp .eq (.ix (.var 1) (.c (.int 0))) (.c (.str "take"))) (.cons (.ret (.meth (.var 0) "take" QT.f_Hall_take (.cons (.ix (.var 1) (.c (.int 1))) (.cons (.ix (.var 1) (.c (.int 2))) (.cons (.ix (.var 1) (.c (.int 3))) .nil))))) .nil) .nil) (.cons (.ife (.cmp .eq (.ix (.var 1) (.c (.int 0))) (.c (.str "give"))) (.cons (.ret (.meth (.var 0) "give" QT.f_Hall_give (.cons (.ix (.var 1) (.c (.int 1))) (.cons (.ix (.var 1) (.c (.int 2))) .nil)))) .nil) .nil) (.cons (.ife (.cmp .eq (.ix (.var 1) (.c (.int 0))) (.c (.str "step"))) (.cons (.ret (.meth (.var 0) "step" QT.f_Hall_step (.cons (.ix (.var 1) (.c (.int 1))) (.cons (.ix (.var 1) (.c (.int 2))) .nil)))) .nil) .nil) (.cons (.ret (.meth (.var 0) "finish" QT.f_Hall_finish (.cons (.ix (.var 1) (.c (.int 1))) (.cons (.ix (.var 1) (.c (.int 2))) .nil)))) .nil))))
noncomputable def f_do_now : Fn := defF true 2 2 b_do_now
noncomputable def b_do : Sts := (.cons (.ife (.nt (.call "is_call" QT.f_is_call (.cons (.var 1) .nil))) (.cons (.rais 11 "NoCall") .nil) .nil) (.cons (.tryC (.cons (.ret (.call "do_now" QT.f_do_now (.cons (.var 0) (.cons (.var 1) .nil)))) .nil) (.str "refused") [3, 7, 8, 9, 10]) .nil))
noncomputable def f_do : Fn := defF true 2 2 b_do
noncomputable def b_law_deeds : Sts := (.cons (.set 4 (.tup .nil)) (.cons (.for_ (.nm 5) (.rng1 (.call "_law_draw" QT.f_law_draw (.cons (.var 0) (.cons (.var 1) (.cons (.bin .add (.var 2) (.c (.int 1))) .nil))))) (.cons (.set 4 (.bin .add (.var 4) (.tup (.cons (.tup (.cons (.call "_law_plan" QT.f_law_plan (.cons (.var 0) (.cons (.var 1) (.cons (.var 3) .nil)))) (.cons (.c (.str "all")) (.cons (.c (.bl true)) .nil)))) .nil)))) .nil)) (.cons (.ret (.var 4)) .nil)))
noncomputable def f_law_deeds : Fn := defF true 6 4 b_law_deeds
noncomputable def b_idle_stretch : Sts := (.cons (.ex (.call "need_calendar" QT.f_need_calendar (.cons (.var 0) (.cons (.var 1) .nil)))) (.cons (.ex (.call "need_ends" QT.f_need_ends (.cons (.var 2) (.cons (.var 3) .nil)))) (.cons (.set 4 (.opn .sset (.comp [("row", 5)] (.nm 5) (.seq (.call "rows_of" QT.f_rows_of (.cons (.var 0) (.cons (.var 1) (.cons (.var 2) (.cons (.var 3) .nil)))))) .non (.ix (.var 5) (.c (.int 0)))) .nil)) (.cons (.set 6 (.c .non)) (.cons (.set 7 (.var 2)) (.cons (.for_ (.nm 8) (.seq (.bin .add (.var 4) (.lst (.cons (.bin .add (.var 3) (.c (.int 1))) .nil)))) (.cons (.ife (.and (.cons (.cmp .gt (.var 8) (.var 7)) (.cons (.or (.cons (.cmp .is (.var 6) (.c .non)) (.cons (.cmp .gt (.bin .sub (.bin .sub (.var 8) (.c (.int 1))) (.var 7)) (.bin .sub (.ix (.var 6) (.c (.int 1))) (.ix (.var 6) (.c (.int 0))))) .nil))) .nil))) (.cons (.set 6 (.tup (.cons (.var 7) (.cons (.bin .sub (.var 8) (.c (.int 1))) .nil)))) .nil) .nil) (.cons (.set 7 (.bin .add (.var 8) (.c (.int 1)))) .nil))) (.cons (.ret (.var 6)) .nil)))))))
noncomputable def f_idle_stretch : Fn := defF true 9 4 b_idle_stretch
noncomputable def b_holder_at : Sts := (.cons (.ex (.call "need_rows" QT.f_need_rows (.cons (.var 0) .nil))) (.cons (.ex (.call "need_moment" QT.f_need_moment (.cons (.var 1) .nil))) (.cons (.setc 2 [("runner", 3), ("begin", 4), ("end", 5)] (.tp [(.nm 3), (.nm 4), (.nm 5)]) (.seq (.call "holds_of" QT.f_holds_of (.cons (.var 0) .nil))) (.som (.chain .le .lt (.var 4) (.var 1) (.var 5))) (.var 3)) (.cons (.ret (.ix (.bin .add (.var 2) (.lst (.cons (.c .non) .nil))) (.c (.int 0)))) .nil))))
noncomputable def f_holder_at : Fn := defF true 6 2 b_holder_at
noncomputable def b_nobody : Sts := (.cons (.ex (.call "need_rows" QT.f_need_rows (.cons (.var 0) .nil))) (.cons (.ex (.call "need_moment" QT.f_need_moment (.cons (.var 1) .nil))) (.cons (.set 2 (.newl .nil)) (.cons (.set 3 (.c (.int 0))) (.cons (.for_ (.tp [(.nm 4), (.nm 5), (.nm 6)]) (.seq (.call "all_holds" QT.f_all_holds (.cons (.var 0) .nil))) (.cons (.ife (.and (.cons (.cmp .lt (.var 3) (.var 5)) (.cons (.cmp .le (.var 3) (.var 1)) .nil))) (.cons (.ex (.app (.var 2) (.tup (.cons (.var 3) (.cons (.bi .min (.cons (.var 1) (.cons (.bin .sub (.var 5) (.c (.int 1))) .nil))) .nil))))) .nil) .nil) (.cons (.set 3 (.var 6)) .nil))) (.cons (.ife (.cmp .le (.var 3) (.var 1)) (.cons (.ex (.app (.var 2) (.tup (.cons (.var 3) (.cons (.var 1) .nil))))) .nil) .nil) (.cons (.ret (.frz (.var 2))) .nil)))))))
noncomputable def f_nobody : Fn := defF true 7 2 b_nobody
noncomputable def b_held_by : Sts := (.cons (.ex (.call "need_rows" QT.f_need_rows (.cons (.var 0) .nil))) (.cons (.set 1 (.newd false)) (.cons (.for_ (.tp [(.nm 2), (.nm 3), (.nm 4)]) (.seq (.call "holds_of" QT.f_holds_of (.cons (.var 0) .nil))) (.cons (.sto .dput (.var 1) (.cons (.var 2) .nil) (.bin .sub (.bin .add (.opn .get (.var 1) (.cons (.var 2) (.cons (.c (.int 0)) .nil))) (.var 4)) (.var 3))) .nil)) (.cons (.ret (.comp [("runner", 2)] (.nm 2) (.seq (.opn .skeys (.var 1) .nil)) (.som (.cmp .gt (.opn .ixd (.var 1) (.cons (.var 2) .nil)) (.c (.int 0)))) (.tup (.cons (.var 2) (.cons (.opn .ixd (.var 1) (.cons (.var 2) .nil)) .nil))))) .nil))))
noncomputable def f_held_by : Fn := defF true 5 1 b_held_by
noncomputable def b_run : Sts := (.cons (.set 3 (.mk "Hall" QT.f_Hall_init (.cons (.var 0) (.cons (.var 1) .nil)))) (.cons (.ife (.or (.cons (.nt (.isi (.var 2) .list)) (.cons (.nt (.bi .all (.cons (.comp [("call", 4)] (.nm 4) (.seq (.var 2)) .non (.call "is_call" QT.f_is_call (.cons (.var 4) .nil))) .nil))) .nil))) (.cons (.rais 11 "NoCall") .nil) .nil) (.cons (.ret (.tupw (.cons (.var 3) (.cons (.comp [("call", 4)] (.nm 4) (.seq (.var 2)) .non (.call "do" QT.f_do (.cons (.var 3) (.cons (.var 4) .nil)))) .nil)))) .nil)))
noncomputable def f_run : Fn := defF false 5 3 b_run
noncomputable def b_law_called : Sts := (.cons (.par 5 6 (.newl .nil) (.c (.int 0))) (.cons (.for_ (.nm 7) (.rng1 (.call "_law_draw" QT.f_law_draw (.cons (.var 0) (.cons (.var 1) (.cons (.bin .add (.var 4) (.c (.int 1))) .nil))))) (.cons (.set 6 (.bin .add (.var 6) (.call "_law_draw" QT.f_law_draw (.cons (.var 0) (.cons (.var 1) (.cons (.call "_law_pick" QT.f_law_pick (.cons (.var 0) (.cons (.var 1) (.cons (.lst (.cons (.c (.int 1)) (.cons (.c (.int 3)) (.cons (.c (.int 12)) .nil)))) .nil)))) .nil)))))) (.cons (.set 8 (.call "_law_draw" QT.f_law_draw (.cons (.var 0) (.cons (.var 1) (.cons (.call "_law_pick" QT.f_law_pick (.cons (.var 0) (.cons (.var 1) (.cons (.lst (.cons (.c (.int 1)) (.cons (.c (.int 2)) (.cons (.c (.int 4)) .nil)))) .nil)))) .nil))))) (.cons (.set 9 (.call "_law_pick" QT.f_law_pick (.cons (.var 0) (.cons (.var 1) (.cons (.lst (.cons (.c (.str "take")) (.cons (.c (.str "step")) (.cons (.c (.str "step")) (.cons (.c (.str "step")) (.cons (.c (.str "finish")) (.cons (.c (.str "finish")) (.cons (.c (.str "give")) .nil)))))))) .nil))))) (.cons (.set 10 (.tup (.cons (.var 9) (.cons (.var 8) (.cons (.var 6) .nil))))) (.cons (.ex (.app (.var 5) (.ite (.cmp .eq (.var 9) (.c (.str "take"))) (.bin .add (.var 10) (.tup (.cons (.bin .add (.c (.int 1)) (.call "_law_draw" QT.f_law_draw (.cons (.var 0) (.cons (.var 1) (.cons (.c (.int 30)) .nil))))) .nil))) (.var 10)))) .nil)))))) (.cons (.unp [11, 12] (.call "run" QT.f_run (.cons (.var 2) (.cons (.var 3) (.cons (.bin .add (.lst (.cons (.tup (.cons (.c (.str "take")) (.cons (.c (.int 0)) (.cons (.c (.int 0)) (.cons (.c (.int 30)) .nil))))) .nil)) (.var 5)) .nil))))) (.cons (.ret (.tupw (.cons (.var 11) (.cons (.var 5) .nil)))) .nil))))
noncomputable def f_law_called : Fn := defF false 13 5 b_law_called
noncomputable def b_lateness : Sts := (.cons (.ex (.call "need_zone" QT.f_need_zone (.cons (.var 1) .nil))) (.cons (.ex (.call "need_plan" QT.f_need_plan (.cons (.var 2) .nil))) (.cons (.ife (.nt (.call "is_whole" QT.f_is_whole (.cons (.var 3) (.cons (.c (.int 0)) (.cons (.bin .sub (.bi .len (.cons (.meth (.var 0) "waiting" QT.f_Hall_waiting .nil) .nil)) (.c (.int 1))) .nil))))) (.cons (.rais 6 "NoDeed") .nil) .nil) (.cons (.ret (.comp [("row", 4)] (.nm 4) (.seq (.meth (.var 0) "log" QT.f_Hall_log .nil)) (.som (.and (.cons (.cmp .eq (.ix (.var 4) (.c (.int 2))) (.c (.str "done"))) (.cons (.cmp .eq (.ix (.var 4) (.c (.int 3))) (.var 3)) .nil)))) (.bin .sub (.ix (.var 4) (.c (.int 0))) (.call "due_at" QT.f_due_at (.cons (.var 1) (.cons (.var 2) (.cons (.ix (.var 4) (.c (.int 4))) .nil))))))) .nil))))
noncomputable def f_lateness : Fn := defF true 5 4 b_lateness
noncomputable def b_long_done : Sts := (.cons (.set 1 (.newd true)) (.cons (.set 2 (.newl .nil)) (.cons (.for_ (.tp [(.nm 3), (.nm 4), (.nm 5), (.nm 6), (.nm 7)]) (.seq (.meth (.var 0) "log" QT.f_Hall_log .nil)) (.cons (.ife (.cmp .eq (.var 5) (.c (.str "begun"))) (.cons (.sto .putT (.var 1) (.cons (.var 6) (.cons (.var 7) .nil)) (.var 3)) .nil) .nil) (.cons (.ife (.cmp .eq (.var 5) (.c (.str "done"))) (.cons (.ex (.app (.var 2) (.tup (.cons (.var 6) (.cons (.var 7) (.cons (.bin .sub (.var 3) (.opn .ixT (.var 1) (.cons (.var 6) (.cons (.var 7) .nil)))) .nil)))))) .nil) .nil) .nil))) (.cons (.ret (.bi .sorted (.cons (.var 2) .nil))) .nil))))
noncomputable def f_long_done : Fn := defF true 8 1 b_long_done
noncomputable def b_by_runner : Sts := (.cons (.set 1 (.newd false)) (.cons (.for_ (.tp [(.nm 2), (.nm 3), (.nm 4), (.nm 5), (.nm 6)]) (.seq (.meth (.var 0) "log" QT.f_Hall_log .nil)) (.cons (.ife (.cmp .eq (.var 4) (.c (.str "done"))) (.cons (.sto .dput (.var 1) (.cons (.var 3) .nil) (.bin .add (.opn .get (.var 1) (.cons (.var 3) (.cons (.c (.int 0)) .nil))) (.c (.int 1)))) .nil) .nil) .nil)) (.cons (.ret (.opn .sitems (.var 1) .nil)) .nil)))
noncomputable def f_by_runner : Fn := defF true 7 1 b_by_runner
noncomputable def b_busiest : Sts := (.cons (.ex (.call "need_calendar" QT.f_need_calendar (.cons (.var 0) (.cons (.var 1) .nil)))) (.cons (.ex (.call "need_ends" QT.f_need_ends (.cons (.var 2) (.cons (.var 3) .nil)))) (.cons (.ife (.nt (.call "is_whole" QT.f_is_whole (.cons (.var 4) (.cons (.c (.int 1)) (.cons (.bin .add (.bin .sub (.var 3) (.var 2)) (.c (.int 1))) .nil))))) (.cons (.rais 13 "NoWidth") .nil) .nil) (.cons (.setc 5 [("row", 6)] (.nm 6) (.seq (.call "rows_of" QT.f_rows_of (.cons (.var 0) (.cons (.var 1) (.cons (.var 2) (.cons (.var 3) .nil)))))) .non (.ix (.var 6) (.c (.int 0)))) (.cons (.set 7 (.tup (.cons (.var 2) (.cons (.c (.int 0)) .nil)))) (.cons (.for_ (.nm 8) (.seq (.opn .sset (.bin .add (.lst (.cons (.var 2) .nil)) (.comp [("moment", 9)] (.nm 9) (.seq (.var 5)) .non (.bi .max (.cons (.var 2) (.cons (.bin .add (.bin .sub (.var 9) (.var 4)) (.c (.int 1))) .nil))))) .nil)) (.cons (.set 10 (.bi .len (.cons (.comp [("moment", 9)] (.nm 9) (.seq (.var 5)) (.som (.chain .le .lt (.var 8) (.var 9) (.bin .add (.var 8) (.var 4)))) (.var 9)) .nil))) (.cons (.ife (.and (.cons (.cmp .le (.bin .sub (.bin .add (.var 8) (.var 4)) (.c (.int 1))) (.var 3)) (.cons (.cmp .gt (.var 10) (.ix (.var 7) (.c (.int 1)))) .nil))) (.cons (.set 7 (.tup (.cons (.var 8) (.cons (.var 10) .nil)))) .nil) .nil) .nil))) (.cons (.ret (.var 7)) .nil)))))))
noncomputable def f_busiest : Fn := defF true 11 5 b_busiest
noncomputable def b_law_list : Sts := (.cons (.ife (.cmp .eq (.var 0) (.c (.int 0))) (.cons (.ret (.call "calendar" QT.f_calendar (.cons (.var 1) (.cons (.tup (.cons (.tup (.cons (.var 2) (.cons (.c (.str "all")) (.cons (.c (.bl true)) .nil)))) .nil)) (.cons (.c (.int 0)) (.cons (.c (.int 300)) .nil)))))) .nil) .nil) (.cons (.ife (.cmp .eq (.var 0) (.c (.int 1))) (.cons (.ret (.call "dues" QT.f_dues (.cons (.var 1) (.cons (.var 2) (.cons (.c (.int 0)) (.cons (.c (.int 300)) .nil)))))) .nil) .nil) (.cons (.ife (.cmp .eq (.var 0) (.c (.int 2))) (.cons (.ret (.call "gaps" QT.f_gaps (.cons (.var 1) (.cons (.var 2) (.cons (.c (.int 5)) .nil))))) .nil) .nil) (.cons (.ife (.cmp .lt (.var 0) (.c (.int 5))) (.cons (.ret (.callE (.ix (.lst (.cons (.gl "tallies" (.fn "tallies")) (.cons (.gl "long_done" (.fn "long_done")) .nil))) (.bin .sub (.var 0) (.c (.int 3)))) [("tallies", QT.f_tallies), ("long_done", QT.f_long_done)] (.cons (.var 3) .nil))) .nil) .nil) (.cons (.ret (.ite (.cmp .lt (.var 0) (.c (.int 7))) (.callE (.ix (.lst (.cons (.gl "all_holds" (.fn "all_holds")) (.cons (.gl "held_by" (.fn "held_by")) .nil))) (.bin .sub (.var 0) (.c (.int 5)))) [("all_holds", QT.f_all_holds), ("held_by", QT.f_held_by)] (.cons (.var 4) .nil)) (.ite (.cmp .eq (.var 0) (.c (.int 7))) (.call "nobody" QT.f_nobody (.cons (.var 4) (.cons (.c (.int 9000)) .nil))) (.meth (.var 3) "log" QT.f_Hall_log .nil)))) .nil)))))
noncomputable def f_law_list : Fn := defF true 5 5 b_law_list
end QT
set_option Elab.async false
set_option maxRecDepth 100000
set_option linter.all false
/-! Trees that more than one law has. -/
namespace QTA
open PySem L2 Q
noncomputable def b_law_mixed : Sts := (.cons (.set 3 (.bin .mod (.bin .mul (.bin .add (.bin .add (.call "_law_cell_at" QT.f_law_cell_at (.cons (.var 0) (.cons (.var 1) .nil))) (.bin .mul (.c (.int 7919)) (.var 1))) (.c (.int 1))) (.c (.int 48271))) (.c (.int 2147483647)))) (.cons (.ret (.bin .mod (.bin .mod (.bin .add (.bin .add (.bin .mul (.var 3) (.var 3)) (.bin .mul (.c (.int 7)) (.var 3))) (.var 1)) (.c (.int 2147483629))) (.var 2))) .nil))
noncomputable def f_law_mixed : Fn := defF true 4 3 b_law_mixed
noncomputable def b_law_draw : Sts := (.cons (.ex (.app (.var 1) (.c (.int 0)))) (.cons (.ret (.call "_law_mixed" QTA.f_law_mixed (.cons (.var 0) (.cons (.bi .len (.cons (.var 1) .nil)) (.cons (.var 2) .nil))))) .nil))
noncomputable def f_law_draw : Fn := defF true 3 3 b_law_draw
noncomputable def b_law_pick : Sts := (.cons (.ret (.ix (.var 2) (.call "_law_draw" QTA.f_law_draw (.cons (.var 0) (.cons (.var 1) (.cons (.bi .len (.cons (.var 2) .nil)) .nil)))))) .nil)
noncomputable def f_law_pick : Fn := defF true 3 3 b_law_pick
noncomputable def b_law_zone : Sts := (.cons (.set 2 (.newl .nil)) (.cons (.set 3 (.c (.int 0))) (.cons (.for_ (.nm 4) (.rng1 (.call "_law_draw" QTA.f_law_draw (.cons (.var 0) (.cons (.var 1) (.cons (.c (.int 7)) .nil))))) (.cons (.set 3 (.bin .add (.bin .add (.var 3) (.c (.int 1))) (.call "_law_draw" QTA.f_law_draw (.cons (.var 0) (.cons (.var 1) (.cons (.call "_law_pick" QTA.f_law_pick (.cons (.var 0) (.cons (.var 1) (.cons (.lst (.cons (.c (.int 4)) (.cons (.c (.int 40)) (.cons (.c (.int 200)) .nil)))) .nil)))) .nil)))))) (.cons (.ex (.app (.var 2) (.tup (.cons (.var 3) (.cons (.bin .sub (.call "_law_draw" QTA.f_law_draw (.cons (.var 0) (.cons (.var 1) (.cons (.c (.int 27)) .nil)))) (.c (.int 12))) .nil))))) .nil))) (.cons (.ife (.cmp .eq (.call "_law_draw" QTA.f_law_draw (.cons (.var 0) (.cons (.var 1) (.cons (.c (.int 2)) .nil)))) (.c (.int 0))) (.cons (.setc 2 [("_law_k", 4), ("_law_one", 5), ("_law_more", 6)] (.tp [(.nm 4), (.tp [(.nm 5), (.nm 6)])]) (.enum (.frz (.var 2))) .non (.tup (.cons (.var 5) (.cons (.bin .add (.c (.int 1)) (.bin .mod (.var 4) (.c (.int 2)))) .nil)))) .nil) .nil) (.cons (.ret (.tup (.cons (.bin .sub (.call "_law_draw" QTA.f_law_draw (.cons (.var 0) (.cons (.var 1) (.cons (.c (.int 27)) .nil)))) (.c (.int 12))) (.cons (.bi .tupleOf (.cons (.var 2) .nil)) .nil)))) .nil)))))
noncomputable def f_law_zone : Fn := defF true 7 2 b_law_zone
noncomputable def b_law_clock : Sts := (.cons (.set 2 (.bin .add (.lst (.cons (.ix (.var 0) (.c (.int 0))) .nil)) (.comp [("_law_begin", 3), ("_law_more", 4)] (.tp [(.nm 3), (.nm 4)]) (.seq (.ix (.var 0) (.c (.int 1)))) (.som (.cmp .le (.var 3) (.var 1))) (.var 4)))) (.cons (.ret (.bin .add (.var 1) (.ix (.var 2) (.neg (.c (.int 1)))))) .nil))
noncomputable def f_law_clock : Fn := defF true 5 2 b_law_clock
noncomputable def b_law_plan : Sts := (.cons (.set 2 (.call "_law_draw" QTA.f_law_draw (.cons (.var 0) (.cons (.var 1) (.cons (.c (.int 5)) .nil))))) (.cons (.ife (.cmp .eq (.var 2) (.c (.int 0))) (.cons (.ret (.tup (.cons (.c (.str "once")) (.cons (.call "_law_draw" QTA.f_law_draw (.cons (.var 0) (.cons (.var 1) (.cons (.call "_law_pick" QTA.f_law_pick (.cons (.var 0) (.cons (.var 1) (.cons (.lst (.cons (.c (.int 100)) (.cons (.c (.int 100)) (.cons (.c (.int 2500)) .nil)))) .nil)))) .nil)))) .nil)))) .nil) .nil) (.cons (.ife (.cmp .lt (.var 2) (.c (.int 3))) (.cons (.set 3 (.bin .add (.c (.int 1)) (.call "_law_draw" QTA.f_law_draw (.cons (.var 0) (.cons (.var 1) (.cons (.call "_law_pick" QTA.f_law_pick (.cons (.var 0) (.cons (.var 1) (.cons (.lst (.cons (.c (.int 30)) (.cons (.c (.int 30)) (.cons (.c (.int 999)) .nil)))) .nil)))) .nil)))))) (.cons (.ret (.tup (.cons (.c (.str "every")) (.cons (.call "_law_draw" QTA.f_law_draw (.cons (.var 0) (.cons (.var 1) (.cons (.c (.int 50)) .nil)))) (.cons (.var 3) .nil))))) .nil)) .nil) (.cons (.ret (.tup (.cons (.c (.str "daily")) (.cons (.call "_law_draw" QTA.f_law_draw (.cons (.var 0) (.cons (.var 1) (.cons (.c (.int 24)) .nil)))) .nil)))) .nil))))
noncomputable def f_law_plan : Fn := defF true 4 2 b_law_plan
noncomputable def b_law_which (c : Nat) (a : PySem.Addr) : Sts := (.cons (.set 1 (.newl (.cons (.isk (.var 0) a (isC c 1) "NoZone") (.cons (.isk (.var 0) a (isC c 2) "NoPlan") (.cons (.isk (.var 0) a (isC c 3) "NoMoment") (.cons (.isk (.var 0) a (isC c 4) "NoCount") .nil)))))) (.cons (.ex (.ext (.var 1) (.lst (.cons (.isk (.var 0) a (isC c 5) "NoDeeds") (.cons (.isk (.var 0) a (isC c 6) "NoDeed") (.cons (.isk (.var 0) a (isC c 7) "NoRunner") (.cons (.isk (.var 0) a (isC c 8) "NoTerm") .nil))))))) (.cons (.ex (.ext (.var 1) (.lst (.cons (.isk (.var 0) a (isC c 9) "NotHolder") (.cons (.isk (.var 0) a (isC c 10) "Nothing") (.cons (.isk (.var 0) a (isC c 11) "NoCall") .nil)))))) (.cons (.ife (.or (.cons (.cmp .ne (.cnt (.var 1) (.c (.bl true))) (.c (.int 1))) (.cons (.nt (.isk (.var 0) a true "ValueError")) .nil))) (.cons (.ret (.tup (.cons (.c (.str "refused")) (.cons (.neg (.c (.int 1))) .nil)))) .nil) .nil) (.cons (.ret (.tup (.cons (.c (.str "refused")) (.cons (.idx (.var 1) (.c (.bl true))) .nil)))) .nil)))))
noncomputable def f_law_which (c : Nat) (a : PySem.Addr) : Fn := defF true 2 1 (b_law_which c a)
noncomputable def b_law_ask : Sts := (.cons (.tryA (.cons (.ife (.cmp .eq (.var 0) (.c (.int 0))) (.cons (.ret (.call "wall" QT.f_wall (.cons (.var 1) (.cons (.var 2) .nil)))) .nil) .nil) (.cons (.ret (.call "moments" QT.f_moments (.cons (.var 1) (.cons (.var 2) (.cons (.var 3) .nil))))) .nil)) 4 "_law_which" QTA.f_law_which [1, 3]) .nil)
noncomputable def f_law_ask : Fn := defF true 5 4 b_law_ask
noncomputable def b_law_dues : Sts := (.cons (.ife (.cmp .eq (.ix (.var 1) (.c (.int 0))) (.c (.str "once"))) (.cons (.ret (.bin .mul (.lst (.cons (.ix (.var 1) (.c (.int 1))) .nil)) (.bi .intOf (.cons (.cmp .le (.ix (.var 1) (.c (.int 1))) (.var 2)) .nil)))) .nil) .nil) (.cons (.ife (.cmp .eq (.ix (.var 1) (.c (.int 0))) (.c (.str "every"))) (.cons (.ret (.lrg3 (.ix (.var 1) (.c (.int 1))) (.bin .add (.var 2) (.c (.int 1))) (.ix (.var 1) (.c (.int 2))))) .nil) .nil) (.cons (.set 3 (.newl .nil)) (.cons (.set 4 (.bin .sub (.ix (.var 1) (.c (.int 1))) (.c (.int 24)))) (.cons (.whl 1000000 (.cmp .lt (.var 4) (.call "_law_clock" QTA.f_law_clock (.cons (.var 0) (.cons (.c (.int 0)) .nil)))) (.cons (.set 4 (.bin .add (.var 4) (.c (.int 24)))) .nil)) (.cons (.for_ (.nm 5) (.rng1 (.bin .add (.var 2) (.c (.int 1)))) (.cons (.whl 1000000 (.cmp .le (.var 4) (.call "_law_clock" QTA.f_law_clock (.cons (.var 0) (.cons (.var 5) .nil)))) (.cons (.ex (.app (.var 3) (.var 5))) (.cons (.set 4 (.bin .add (.var 4) (.c (.int 24)))) .nil))) .nil)) (.cons (.ret (.frz (.var 3))) .nil)))))))
noncomputable def f_law_dues : Fn := defF true 6 3 b_law_dues
noncomputable def b_law_do : Sts := (.cons (.tryA (.cons (.ife (.cmp .eq (.ix (.var 1) (.c (.int 0))) (.c (.str "take"))) (.cons (.ret (.meth (.var 0) "take" QT.f_Hall_take (.cons (.ix (.var 1) (.c (.int 1))) (.cons (.ix (.var 1) (.c (.int 2))) (.cons (.ix (.var 1) (.c (.int 3))) .nil))))) .nil) .nil) (.cons (.ife (.cmp .eq (.ix (.var 1) (.c (.int 0))) (.c (.str "give"))) (.cons (.ret (.meth (.var 0) "give" QT.f_Hall_give (.cons (.ix (.var 1) (.c (.int 1))) (.cons (.ix (.var 1) (.c (.int 2))) .nil)))) .nil) .nil) (.cons (.ife (.cmp .eq (.ix (.var 1) (.c (.int 0))) (.c (.str "step"))) (.cons (.ret (.meth (.var 0) "step" QT.f_Hall_step (.cons (.ix (.var 1) (.c (.int 1))) (.cons (.ix (.var 1) (.c (.int 2))) .nil)))) .nil) .nil) (.cons (.ret (.meth (.var 0) "finish" QT.f_Hall_finish (.cons (.ix (.var 1) (.c (.int 1))) (.cons (.ix (.var 1) (.c (.int 2))) .nil)))) .nil)))) 2 "_law_which" QTA.f_law_which [3, 7, 8, 9, 10]) .nil)
noncomputable def f_law_do : Fn := defF true 3 2 b_law_do
noncomputable def b_law_new : Sts := (.cons (.tryA (.cons (.ret (.meth (.mk "Hall" QT.f_Hall_init (.cons (.var 0) (.cons (.var 1) .nil))) "log" QT.f_Hall_log .nil)) .nil) 2 "_law_which" QTA.f_law_which [1, 5]) .nil)
noncomputable def f_law_new : Fn := defF true 3 2 b_law_new
noncomputable def b_law_deeds : Sts := (.cons (.set 2 (.newl .nil)) (.cons (.for_ (.nm 3) (.rng1 (.call "_law_draw" QTA.f_law_draw (.cons (.var 0) (.cons (.var 1) (.cons (.call "_law_pick" QTA.f_law_pick (.cons (.var 0) (.cons (.var 1) (.cons (.lst (.cons (.c (.int 5)) (.cons (.c (.int 5)) (.cons (.c (.int 7)) .nil)))) .nil)))) .nil))))) (.cons (.set 4 (.call "_law_draw" QTA.f_law_draw (.cons (.var 0) (.cons (.var 1) (.cons (.call "_law_pick" QTA.f_law_pick (.cons (.var 0) (.cons (.var 1) (.cons (.lst (.cons (.c (.int 30)) (.cons (.c (.int 30)) (.cons (.c (.int 1000)) .nil)))) .nil)))) .nil))))) (.cons (.set 5 (.call "_law_pick" QTA.f_law_pick (.cons (.var 0) (.cons (.var 1) (.cons (.lst (.cons (.c (.str "all")) (.cons (.c (.str "last")) (.cons (.tup (.cons (.c (.str "within")) (.cons (.var 4) .nil))) .nil)))) .nil))))) (.cons (.ex (.app (.var 2) (.tup (.cons (.call "_law_plan" QTA.f_law_plan (.cons (.var 0) (.cons (.var 1) .nil))) (.cons (.var 5) (.cons (.cmp .eq (.call "_law_draw" QTA.f_law_draw (.cons (.var 0) (.cons (.var 1) (.cons (.c (.int 2)) .nil)))) (.c (.int 0))) .nil)))))) .nil)))) (.cons (.ret (.bi .tupleOf (.cons (.var 2) .nil))) .nil)))
noncomputable def f_law_deeds : Fn := defF true 6 2 b_law_deeds
noncomputable def b_law_state : Sts := (.cons (.tryA (.cons (.ret (.meth (.var 0) "state" QT.f_Hall_state (.cons (.var 1) (.cons (.var 2) .nil)))) .nil) 3 "_law_which" QTA.f_law_which [4, 6]) .nil)
noncomputable def f_law_state : Fn := defF true 4 3 b_law_state
noncomputable def b_law_up : Sts := (.cons (.tryA (.cons (.ret (.call "catch_up" QT.f_catch_up (.cons (.var 0) (.cons (.var 1) (.cons (.var 2) (.cons (.var 3) .nil)))))) .nil) 4 "_law_which" QTA.f_law_which [3, 4, 7, 9, 10]) .nil)
noncomputable def f_law_up : Fn := defF true 5 4 b_law_up
noncomputable def b_law_looked : Sts := (.cons (.set 4 (.call "_law_pick" QTA.f_law_pick (.cons (.var 0) (.cons (.var 1) (.cons (.lst (.cons (.c (.int 6)) (.cons (.neg (.c (.int 1))) (.cons (.c .non) (.cons (.c (.bl true)) (.cons (.c (.str "0")) .nil)))))) .nil))))) (.cons (.set 5 (.call "_law_pick" QTA.f_law_pick (.cons (.var 0) (.cons (.var 1) (.cons (.lst (.cons (.neg (.c (.int 1))) (.cons (.c (.int 10000)) (.cons (.c .non) (.cons (.c (.bl true)) (.cons (.c (.str "0")) .nil)))))) .nil))))) (.cons (.ife (.or (.cons (.cmp .ne (.call "_law_state" QTA.f_law_state (.cons (.var 2) (.cons (.var 4) (.cons (.c .non) .nil)))) (.tup (.cons (.c (.str "refused")) (.cons (.c (.int 5)) .nil)))) (.cons (.cmp .ne (.call "_law_state" QTA.f_law_state (.cons (.var 2) (.cons (.c (.int 0)) (.cons (.var 5) .nil)))) (.tup (.cons (.c (.str "refused")) (.cons (.c (.int 3)) .nil)))) .nil))) (.cons (.ret (.c (.bl false))) .nil) .nil) (.cons (.ife (.cmp .ne (.call "_law_up" QTA.f_law_up (.cons (.var 2) (.cons (.c .non) (.cons (.c .non) (.cons (.call "_law_pick" QTA.f_law_pick (.cons (.var 0) (.cons (.var 1) (.cons (.lst (.cons (.neg (.c (.int 1))) (.cons (.c (.int 1000)) (.cons (.c .non) (.cons (.c (.bl true)) .nil))))) .nil)))) .nil))))) (.tup (.cons (.c (.str "refused")) (.cons (.c (.int 3)) .nil)))) (.cons (.ret (.c (.bl false))) .nil) .nil) (.cons (.ret (.and (.cons (.cmp .eq (.call "_law_up" QTA.f_law_up (.cons (.var 2) (.cons (.c (.int 0)) (.cons (.c (.int 21)) (.cons (.c (.int 5)) .nil))))) (.tup (.cons (.c (.str "refused")) (.cons (.c (.int 8)) .nil)))) (.cons (.cmp .eq (.call "_law_up" QTA.f_law_up (.cons (.var 2) (.cons (.c (.int 0)) (.cons (.c (.int 21)) (.cons (.c (.int 0)) .nil))))) (.lst .nil)) (.cons (.cmp .eq (.meth (.var 2) "saved" QT.f_Hall_saved .nil) (.var 3)) .nil))))) .nil)))))
noncomputable def f_law_looked : Fn := defF true 6 4 b_law_looked
noncomputable def b_law_call : Sts := (.cons (.set 4 (.call "_law_draw" QTA.f_law_draw (.cons (.var 0) (.cons (.var 1) (.cons (.c (.int 4)) .nil))))) (.cons (.ife (.and (.cons (.cmp .isnot (.var 3) (.c .non)) (.cons (.cmp .gt (.call "_law_draw" QTA.f_law_draw (.cons (.var 0) (.cons (.var 1) (.cons (.c (.int 4)) .nil)))) (.c (.int 0))) .nil))) (.cons (.set 4 (.var 3)) .nil) .nil) (.cons (.set 5 (.bin .add (.var 2) (.call "_law_pick" QTA.f_law_pick (.cons (.var 0) (.cons (.var 1) (.cons (.lst (.cons (.c (.int 0)) (.cons (.c (.int 0)) (.cons (.c (.int 0)) (.cons (.c (.int 1)) (.cons (.c (.int 2)) (.cons (.call "_law_draw" QTA.f_law_draw (.cons (.var 0) (.cons (.var 1) (.cons (.c (.int 30)) .nil)))) .nil))))))) .nil)))))) (.cons (.set 6 (.call "_law_draw" QTA.f_law_draw (.cons (.var 0) (.cons (.var 1) (.cons (.c (.int 10)) .nil))))) (.cons (.ife (.or (.cons (.cmp .is (.var 3) (.c .non)) (.cons (.cmp .lt (.var 6) (.c (.int 2))) .nil))) (.cons (.ret (.tup (.cons (.c (.str "take")) (.cons (.var 4) (.cons (.var 5) (.cons (.bin .add (.c (.int 1)) (.call "_law_draw" QTA.f_law_draw (.cons (.var 0) (.cons (.var 1) (.cons (.call "_law_pick" QTA.f_law_pick (.cons (.var 0) (.cons (.var 1) (.cons (.lst (.cons (.c (.int 4)) (.cons (.c (.int 99)) .nil))) .nil)))) .nil))))) .nil)))))) .nil) .nil) (.cons (.ife (.cmp .eq (.var 6) (.c (.int 2))) (.cons (.ret (.tup (.cons (.c (.str "give")) (.cons (.var 4) (.cons (.var 5) .nil))))) .nil) .nil) (.cons (.ret (.ix (.bin .mul (.lst (.cons (.tup (.cons (.c (.str "step")) (.cons (.var 4) (.cons (.var 5) .nil)))) (.cons (.tup (.cons (.c (.str "finish")) (.cons (.var 4) (.cons (.var 5) .nil)))) .nil))) (.c (.int 4))) (.bin .sub (.var 6) (.c (.int 3))))) .nil)))))))
noncomputable def f_law_call : Fn := defF true 7 4 b_law_call
noncomputable def b_law_asked : Sts := (.cons (.tryA (.cons (.ife (.cmp .eq (.var 0) (.c (.int 0))) (.cons (.ret (.call "run" QT.f_run (.cons (.var 1) (.cons (.var 2) (.cons (.var 3) .nil))))) .nil) .nil) (.cons (.ret (.call "do" QT.f_do (.cons (.var 1) (.cons (.var 2) .nil)))) .nil)) 4 "_law_which" QTA.f_law_which [1, 3, 5, 7, 8, 9, 10, 11]) .nil)
noncomputable def f_law_asked : Fn := defF false 5 4 b_law_asked
noncomputable def b_law_goes_on : Sts := (.cons (.set 5 (.tup (.cons (.ix (.lst (.cons (.c (.str "unsure")) (.cons (.c (.str "begun")) .nil))) (.bi .intOf (.cons (.var 4) .nil))) (.cons (.c (.int 0)) (.cons (.var 3) .nil))))) (.cons (.ife (.or (.cons (.cmp .ne (.call "_law_do" QTA.f_law_do (.cons (.var 0) (.cons (.tup (.cons (.c (.str "finish")) (.cons (.var 1) (.cons (.var 2) .nil)))) .nil))) (.tup (.cons (.c (.str "refused")) (.cons (.c (.int 9)) .nil)))) (.cons (.cmp .ne (.call "_law_do" QTA.f_law_do (.cons (.var 0) (.cons (.tup (.cons (.c (.str "step")) (.cons (.var 1) (.cons (.var 2) .nil)))) .nil))) (.var 5)) .nil))) (.cons (.ret (.c (.bl false))) .nil) .nil) (.cons (.ret (.or (.cons (.nt (.var 4)) (.cons (.cmp .eq (.call "_law_do" QTA.f_law_do (.cons (.var 0) (.cons (.tup (.cons (.c (.str "finish")) (.cons (.var 1) (.cons (.var 2) .nil)))) .nil))) (.tup (.cons (.c (.str "done")) (.cons (.c (.int 0)) (.cons (.var 3) .nil))))) .nil)))) .nil)))
noncomputable def f_law_goes_on : Fn := defF true 6 5 b_law_goes_on
noncomputable def b_law_words : Sts := (.cons (.set 4 (.newl .nil)) (.cons (.for_ (.tp [(.nm 5), (.tp [(.nm 6), (.nm 7), (.nm 8)])]) (.enum (.var 1)) (.cons (.set 9 (.sl (.comp [("_law_moment", 10)] (.nm 10) (.seq (.call "_law_dues" QTA.f_law_dues (.cons (.var 0) (.cons (.var 6) (.cons (.var 2) .nil))))) .non (.var 10)) (.som (.ix (.var 3) (.var 5))) .non)) (.cons (.for_ (.tp [(.nm 11), (.nm 10)]) (.enum (.var 9)) (.cons (.set 12 (.c (.str "done"))) (.cons (.ife (.and (.cons (.cmp .eq (.var 7) (.c (.str "last"))) (.cons (.cmp .lt (.bin .add (.var 11) (.c (.int 1))) (.bi .len (.cons (.var 9) .nil))) .nil))) (.cons (.set 12 (.c (.str "left"))) .nil) .nil) (.cons (.ife (.and (.cons (.isi (.var 7) .tuple) (.cons (.cmp .gt (.bin .sub (.var 2) (.var 10)) (.ix (.var 7) (.c (.int 1)))) .nil))) (.cons (.set 12 (.c (.str "left"))) .nil) .nil) (.cons (.ex (.app (.var 4) (.tup (.cons (.var 10) (.cons (.var 5) (.cons (.bin .add (.ix (.var 3) (.var 5)) (.var 11)) (.cons (.var 12) .nil))))))) .nil))))) (.cons (.sto .lput (.var 3) (.cons (.var 5) .nil) (.bin .add (.ix (.var 3) (.var 5)) (.bi .len (.cons (.var 9) .nil)))) .nil)))) (.cons (.ret (.bi .sorted (.cons (.var 4) .nil))) .nil)))
noncomputable def f_law_words : Fn := defF true 13 4 b_law_words
noncomputable def b_law_run : Sts := (.cons (.set 3 (.mk "Hall" QT.f_Hall_init (.cons (.var 0) (.cons (.tup (.cons (.var 1) .nil)) .nil)))) (.cons (.set 4 (.newl .nil)) (.cons (.for_ (.nm 5) (.rng1 (.var 2)) (.cons (.ex (.meth (.var 3) "take" QT.f_Hall_take (.cons (.c (.int 0)) (.cons (.var 5) (.cons (.c (.int 5)) .nil))))) (.cons (.set 6 (.meth (.var 3) "step" QT.f_Hall_step (.cons (.c (.int 0)) (.cons (.var 5) .nil)))) (.cons (.whl 1000000 (.cmp .ne (.ix (.var 6) (.c (.int 0))) (.c (.str "idle"))) (.cons (.ife (.cmp .eq (.ix (.var 6) (.c (.int 0))) (.c (.str "begun"))) (.cons (.ex (.app (.var 4) (.tup (.cons (.ix (.var 6) (.c (.int 2))) (.cons (.var 5) .nil))))) (.cons (.ex (.meth (.var 3) "finish" QT.f_Hall_finish (.cons (.c (.int 0)) (.cons (.var 5) .nil)))) .nil)) .nil) (.cons (.set 6 (.meth (.var 3) "step" QT.f_Hall_step (.cons (.c (.int 0)) (.cons (.var 5) .nil)))) .nil))) .nil)))) (.cons (.ret (.frz (.var 4))) .nil))))
noncomputable def f_law_run : Fn := defF true 7 3 b_law_run
noncomputable def b_woken : Sts := (.cons (.set 1 (.mk "Hall" QT.f_Hall_init (.cons (.ix (.var 0) (.c (.int 0))) (.cons (.ix (.var 0) (.c (.int 1))) .nil)))) (.cons (.sto (.fset "now") (.var 1) .nil (.ix (.var 0) (.c (.int 2)))) (.cons (.sto (.fset "holder") (.var 1) .nil (.ix (.var 0) (.c (.int 3)))) (.cons (.sto (.fset "until") (.var 1) .nil (.ix (.var 0) (.c (.int 4)))) (.cons (.sto (.fset "hold") (.var 1) .nil (.ix (.var 0) (.c (.int 5)))) (.cons (.sto (.fset "counts") (.var 1) .nil (.opn .cpy (.ix (.var 0) (.c (.int 6))) .nil)) (.cons (.sto (.fset "begun") (.var 1) .nil (.ix (.var 0) (.c (.int 7)))) (.cons (.sto (.fset "rows") (.var 1) .nil (.opn .cpy (.ix (.var 0) (.c (.int 8))) .nil)) (.cons (.for_ (.tp [(.nm 2), (.nm 3), (.nm 4), (.nm 5), (.nm 6)]) (.seq (.opn (.fld "rows") (.var 1) .nil)) (.cons (.ife (.cmp .ne (.var 4) (.c (.str "begun"))) (.cons (.sto .putT (.opn (.fld "settled") (.var 1) .nil) (.cons (.var 5) (.cons (.var 6) .nil)) (.var 4)) .nil) .nil) .nil)) (.cons (.ret (.var 1)) .nil))))))))))
noncomputable def f_woken : Fn := defF false 7 1 b_woken
noncomputable def b_law_row_right : Sts := (.cons (.tgt (.tp [(.nm 5), (.nm 6), (.nm 7), (.nm 8), (.nm 9)]) (.var 0)) (.cons (.tgt (.tp [(.nm 10), (.nm 11), (.nm 12)]) (.ix (.var 3) (.var 8))) (.cons (.ife (.or (.cons (.cmp .ne (.var 9) (.ix (.ix (.var 4) (.c (.str "at"))) (.var 8))) (.cons (.cmp .gt (.call "due" QT.f_due (.cons (.var 2) (.cons (.var 10) (.cons (.var 9) .nil)))) (.var 5)) .nil))) (.cons (.ret (.c (.bl false))) .nil) .nil) (.cons (.set 13 (.and (.cons (.cmp .isnot (.ix (.var 4) (.c (.str "on"))) (.c .non)) (.cons (.cmp .eq (.sl (.ix (.var 4) (.c (.str "on"))) .non (.som (.c (.int 2)))) (.tup (.cons (.var 8) (.cons (.var 9) .nil)))) .nil)))) (.cons (.ife (.cmp .eq (.var 7) (.c (.str "begun"))) (.cons (.ife (.and (.cons (.cmp .isnot (.ix (.var 4) (.c (.str "on"))) (.c .non)) (.cons (.or (.cons (.nt (.var 13)) (.cons (.cmp .eq (.ix (.ix (.var 4) (.c (.str "on"))) (.c (.int 2))) (.var 1)) (.cons (.nt (.var 12)) .nil)))) .nil))) (.cons (.ret (.c (.bl false))) .nil) .nil) (.cons (.sto .lput (.var 4) (.cons (.c (.str "on")) .nil) (.tup (.cons (.var 8) (.cons (.var 9) (.cons (.var 1) .nil))))) (.cons (.ret (.c (.bl true))) .nil))) .nil) (.cons (.sto .lput (.ix (.var 4) (.c (.str "at"))) (.cons (.var 8) .nil) (.bin .add (.var 9) (.c (.int 1)))) (.cons (.ife (.cmp .eq (.var 7) (.c (.str "left"))) (.cons (.ret (.and (.cons (.cmp .is (.ix (.var 4) (.c (.str "on"))) (.c .non)) (.cons (.cmp .ne (.var 11) (.c (.str "all"))) .nil)))) .nil) .nil) (.cons (.ife (.or (.cons (.nt (.var 13)) (.cons (.cmp .ne (.cmp .eq (.ix (.ix (.var 4) (.c (.str "on"))) (.c (.int 2))) (.var 1)) (.cmp .eq (.var 7) (.c (.str "done")))) (.cons (.and (.cons (.cmp .eq (.var 7) (.c (.str "unsure"))) (.cons (.var 12) .nil))) .nil)))) (.cons (.ret (.c (.bl false))) .nil) .nil) (.cons (.sto .lput (.var 4) (.cons (.c (.str "on")) .nil) (.c .non)) (.cons (.ret (.cmp .inn (.var 7) (.tup (.cons (.c (.str "done")) (.cons (.c (.str "unsure")) .nil))))) .nil))))))))))
noncomputable def f_law_row_right : Fn := defF true 14 5 b_law_row_right
noncomputable def b_law_alike : Sts := (.cons (.ex (.app (.meth (.var 0) "log" QT.f_Hall_log .nil) (.c .non))) (.cons (.ex (.app (.meth (.var 0) "waiting" QT.f_Hall_waiting .nil) (.c .non))) (.cons (.ife (.or (.cons (.cmp .ne (.meth (.var 0) "log" QT.f_Hall_log .nil) (.ix (.var 1) (.c (.str "log")))) (.cons (.cmp .ne (.meth (.var 0) "held" QT.f_Hall_held .nil) (.tup (.cons (.ix (.var 1) (.c (.str "who"))) (.cons (.ix (.var 1) (.c (.str "until"))) (.cons (.ix (.var 1) (.c (.str "hold"))) .nil))))) .nil))) (.cons (.ret (.c (.bl false))) .nil) .nil) (.cons (.set 2 (.newl .nil)) (.cons (.for_ (.tp [(.nm 3), (.nm 4)]) (.enum (.ix (.var 1) (.c (.str "rows")))) (.cons (.ex (.app (.var 2) (.bi .len (.cons (.comp [("_law_moment", 5)] (.nm 5) (.seq (.sl (.var 4) (.som (.ix (.ix (.var 1) (.c (.str "at"))) (.var 3))) .non)) (.som (.cmp .le (.var 5) (.ix (.var 1) (.c (.str "now"))))) (.var 5)) .nil)))) .nil)) (.cons (.ret (.cmp .eq (.meth (.var 0) "waiting" QT.f_Hall_waiting .nil) (.var 2))) .nil))))))
noncomputable def f_law_alike : Fn := defF true 6 2 b_law_alike
noncomputable def b_law_note : Sts := (.cons (.set 4 (.ix (.ix (.var 0) (.c (.str "at"))) (.var 3))) (.cons (.ex (.app (.ix (.var 0) (.c (.str "log"))) (.tup (.cons (.ix (.var 0) (.c (.str "now"))) (.cons (.var 1) (.cons (.var 2) (.cons (.var 3) (.cons (.var 4) .nil)))))))) (.cons (.ife (.cmp .ne (.var 2) (.c (.str "begun"))) (.cons (.sto .lput (.ix (.var 0) (.c (.str "at"))) (.cons (.var 3) .nil) (.bin .add (.var 4) (.c (.int 1)))) .nil) .nil) (.cons (.ret (.tup (.cons (.var 2) (.cons (.var 3) (.cons (.var 4) .nil))))) .nil))))
noncomputable def f_law_note : Fn := defF true 5 4 b_law_note
noncomputable def b_law_step : Sts := (.cons (.ife (.and (.cons (.cmp .isnot (.ix (.var 0) (.c (.str "on"))) (.c .non)) (.cons (.cmp .eq (.ix (.ix (.var 0) (.c (.str "on"))) (.c (.int 1))) (.ix (.var 0) (.c (.str "hold")))) .nil))) (.cons (.ret (.tup (.cons (.c (.str "busy")) (.cons (.ix (.ix (.var 0) (.c (.str "on"))) (.c (.int 0))) (.cons (.ix (.ix (.var 0) (.c (.str "at"))) (.ix (.ix (.var 0) (.c (.str "on"))) (.c (.int 0)))) .nil))))) .nil) .nil) (.cons (.ife (.cmp .isnot (.ix (.var 0) (.c (.str "on"))) (.c .non)) (.cons (.set 3 (.ix (.ix (.var 0) (.c (.str "on"))) (.c (.int 0)))) (.cons (.sto .lput (.var 0) (.cons (.c (.str "on")) .nil) (.c .non)) (.cons (.ife (.nt (.ix (.ix (.ix (.var 0) (.c (.str "deeds"))) (.var 3)) (.c (.int 2)))) (.cons (.ret (.call "_law_note" QTA.f_law_note (.cons (.var 0) (.cons (.var 1) (.cons (.c (.str "unsure")) (.cons (.var 3) .nil)))))) .nil) .nil) (.cons (.sto .lput (.var 0) (.cons (.c (.str "on")) .nil) (.tup (.cons (.var 3) (.cons (.ix (.var 0) (.c (.str "hold"))) .nil)))) (.cons (.ret (.call "_law_note" QTA.f_law_note (.cons (.var 0) (.cons (.var 1) (.cons (.c (.str "begun")) (.cons (.var 3) .nil)))))) .nil))))) .nil) (.cons (.setc 4 [("_law_deed", 3)] (.nm 3) (.rng1 (.bi .len (.cons (.ix (.var 0) (.c (.str "deeds"))) .nil))) .non (.sl (.ix (.ix (.var 0) (.c (.str "rows"))) (.var 3)) (.som (.ix (.ix (.var 0) (.c (.str "at"))) (.var 3))) .non)) (.cons (.set 5 (.bi .sorted (.cons (.comp [("_law_deed", 3), ("_law_row", 6)] (.tp [(.nm 3), (.nm 6)]) (.enum (.var 4)) (.som (.cmp .ne (.var 6) (.lst .nil))) (.tup (.cons (.ix (.var 6) (.c (.int 0))) (.cons (.var 3) .nil)))) .nil))) (.cons (.ife (.or (.cons (.cmp .eq (.var 5) (.lst .nil)) (.cons (.cmp .gt (.ix (.ix (.var 5) (.c (.int 0))) (.c (.int 0))) (.var 2)) .nil))) (.cons (.ret (.tup (.cons (.c (.str "idle")) (.cons (.ix (.ix (.bin .add (.var 5) (.lst (.cons (.tup (.cons (.c .non) (.cons (.c .non) .nil))) .nil))) (.c (.int 0))) (.c (.int 0))) .nil)))) .nil) .nil) (.cons (.set 3 (.ix (.ix (.var 5) (.c (.int 0))) (.c (.int 1)))) (.cons (.set 7 (.ix (.ix (.ix (.var 0) (.c (.str "deeds"))) (.var 3)) (.c (.int 1)))) (.cons (.set 8 (.and (.cons (.cmp .eq (.var 7) (.c (.str "last"))) (.cons (.cmp .gt (.bi .len (.cons (.ix (.var 4) (.var 3)) .nil)) (.c (.int 1))) (.cons (.cmp .le (.ix (.ix (.var 4) (.var 3)) (.c (.int 1))) (.var 2)) .nil))))) (.cons (.ife (.isi (.var 7) .tuple) (.cons (.set 8 (.cmp .gt (.bin .sub (.var 2) (.ix (.ix (.var 4) (.var 3)) (.c (.int 0)))) (.ix (.var 7) (.c (.int 1))))) .nil) .nil) (.cons (.ife (.var 8) (.cons (.ret (.call "_law_note" QTA.f_law_note (.cons (.var 0) (.cons (.var 1) (.cons (.c (.str "left")) (.cons (.var 3) .nil)))))) .nil) .nil) (.cons (.sto .lput (.var 0) (.cons (.c (.str "on")) .nil) (.tup (.cons (.var 3) (.cons (.ix (.var 0) (.c (.str "hold"))) .nil)))) (.cons (.ret (.call "_law_note" QTA.f_law_note (.cons (.var 0) (.cons (.var 1) (.cons (.c (.str "begun")) (.cons (.var 3) .nil)))))) .nil))))))))))))
noncomputable def f_law_step : Fn := defF true 9 3 b_law_step
noncomputable def b_law_stands : Sts := (.cons (.set 2 (.newd true)) (.cons (.for_ (.tp [(.nm 3), (.nm 4), (.nm 5), (.nm 6), (.nm 7)]) (.seq (.ix (.var 1) (.c (.str "log")))) (.cons (.sto .putT (.var 2) (.cons (.var 6) (.cons (.var 7) .nil)) (.var 5)) .nil)) (.cons (.for_ (.tp [(.nm 6), (.nm 8)]) (.enum (.ix (.var 1) (.c (.str "rows")))) (.cons (.for_ (.nm 7) (.rng1 (.bin .add (.ix (.ix (.var 1) (.c (.str "at"))) (.var 6)) (.c (.int 3)))) (.cons (.set 9 (.opn .getT (.var 2) (.cons (.var 6) (.cons (.var 7) (.cons (.c (.str "")) .nil))))) (.cons (.ife (.cmp .eq (.var 9) (.c (.str ""))) (.cons (.set 9 (.c (.str "none"))) (.cons (.ife (.cmp .lt (.var 7) (.bi .len (.cons (.var 8) .nil))) (.cons (.set 9 (.ix (.lst (.cons (.c (.str "coming")) (.cons (.c (.str "due")) .nil))) (.bi .intOf (.cons (.cmp .le (.ix (.var 8) (.var 7)) (.ix (.var 1) (.c (.str "now")))) .nil)))) .nil) .nil) .nil)) .nil) (.cons (.ife (.cmp .ne (.meth (.var 0) "state" QT.f_Hall_state (.cons (.var 6) (.cons (.var 7) .nil))) (.var 9)) (.cons (.ret (.c (.bl false))) .nil) .nil) .nil)))) .nil)) (.cons (.ret (.c (.bl true))) .nil))))
noncomputable def f_law_stands : Fn := defF true 10 2 b_law_stands
noncomputable def b_law_seen : Sts := (.cons (.setc 2 [("_law_deed", 3)] (.nm 3) (.rng1 (.var 1)) .non (.comp [("_law_count", 4)] (.nm 4) (.rng1 (.c (.int 12))) .non (.meth (.var 0) "state" QT.f_Hall_state (.cons (.var 3) (.cons (.var 4) .nil))))) (.cons (.ret (.tup (.cons (.var 2) (.cons (.meth (.var 0) "held" QT.f_Hall_held .nil) (.cons (.meth (.var 0) "log" QT.f_Hall_log .nil) (.cons (.meth (.var 0) "waiting" QT.f_Hall_waiting .nil) (.cons (.meth (.var 0) "saved" QT.f_Hall_saved .nil) .nil))))))) .nil))
noncomputable def f_law_seen : Fn := defF true 5 2 b_law_seen
end QTA
set_option Elab.async false
set_option maxRecDepth 100000
set_option linter.all false
set_option maxHeartbeats 2000000
namespace QLaw
open PySem L2 Q QT
noncomputable def b_law_ask : Sts := (.cons (.tryA (.cons (.ife (.cmp .eq (.var 0) (.c (.int 0))) (.cons (.ret (.call "due" QT.f_due (.cons (.var 1) (.cons (.var 2) (.cons (.var 3) .nil))))) .nil) .nil) (.cons (.ret (.call "dues" QT.f_dues (.cons (.var 1) (.cons (.var 2) (.cons (.var 3) (.cons (.var 4) .nil)))))) .nil)) 5 "_law_which" QTA.f_law_which [1, 2, 3, 4]) .nil)
noncomputable def f_law_ask : Fn := defF true 6 5 b_law_ask
noncomputable def b_law : Sts := (.cons (.set 1 (.newl .nil)) (.cons (.set 2 (.call "_law_zone" QTA.f_law_zone (.cons (.var 0) (.cons (.var 1) .nil)))) (.cons (.set 3 (.call "_law_plan" QTA.f_law_plan (.cons (.var 0) (.cons (.var 1) .nil)))) (.cons (.set 4 (.call "_law_draw" QTA.f_law_draw (.cons (.var 0) (.cons (.var 1) (.cons (.call "_law_pick" QTA.f_law_pick (.cons (.var 0) (.cons (.var 1) (.cons (.lst (.cons (.c (.int 500)) (.cons (.c (.int 500)) (.cons (.c (.int 500)) (.cons (.c (.int 500)) (.cons (.c (.int 9990)) .nil)))))) .nil)))) .nil))))) (.cons (.set 5 (.call "_law_draw" QTA.f_law_draw (.cons (.var 0) (.cons (.var 1) (.cons (.bi .min (.cons (.c (.int 10000)) (.cons (.bin .add (.var 4) (.c (.int 40))) .nil))) .nil))))) (.cons (.set 6 (.call "_law_dues" QTA.f_law_dues (.cons (.var 2) (.cons (.var 3) (.cons (.var 4) .nil))))) (.cons (.setc 7 [("_law_count", 8), ("_law_moment", 9)] (.tp [(.nm 8), (.nm 9)]) (.enum (.var 6)) (.som (.cmp .ge (.var 9) (.var 5))) (.tup (.cons (.var 8) (.cons (.var 9) .nil)))) (.cons (.ife (.or (.cons (.cmp .ne (.call "_law_ask" f_law_ask (.cons (.c (.int 1)) (.cons (.var 2) (.cons (.var 3) (.cons (.var 5) (.cons (.var 4) .nil)))))) (.var 7)) (.cons (.cmp .ne (.call "_law_ask" f_law_ask (.cons (.c (.int 1)) (.cons (.var 2) (.cons (.var 3) (.cons (.c (.int 0)) (.cons (.var 4) .nil)))))) (.opn .lenum (.var 6) .nil)) .nil))) (.cons (.ret (.c (.bl false))) .nil) .nil) (.cons (.ife (.cmp .ne (.comp [("_law_count", 8)] (.nm 8) (.rng1 (.bi .len (.cons (.var 6) .nil))) .non (.call "_law_ask" f_law_ask (.cons (.c (.int 0)) (.cons (.var 2) (.cons (.var 3) (.cons (.var 8) (.cons (.c .non) .nil))))))) (.var 6)) (.cons (.ret (.c (.bl false))) .nil) .nil) (.cons (.set 10 (.call "_law_ask" f_law_ask (.cons (.c (.int 0)) (.cons (.var 2) (.cons (.var 3) (.cons (.bi .len (.cons (.var 6) .nil)) (.cons (.c .non) .nil))))))) (.cons (.ife (.or (.cons (.and (.cons (.cmp .eq (.ix (.var 3) (.c (.int 0))) (.c (.str "once"))) (.cons (.cmp .ne (.var 6) (.lst .nil)) (.cons (.cmp .isnot (.var 10) (.c .non)) .nil)))) (.cons (.and (.cons (.cmp .isnot (.var 10) (.c .non)) (.cons (.cmp .le (.var 10) (.var 4)) .nil))) .nil))) (.cons (.ret (.c (.bl false))) .nil) .nil) (.cons (.set 11 (.newl (.cons (.c .non) (.cons (.tup .nil) (.cons (.tup (.cons (.c (.str "once")) .nil)) (.cons (.tup (.cons (.c (.str "once")) (.cons (.neg (.c (.int 1))) .nil))) (.cons (.tup (.cons (.c (.str "once")) (.cons (.c (.int 10000)) .nil))) (.cons (.tup (.cons (.c (.str "once")) (.cons (.c (.bl true)) .nil))) (.cons (.lst (.cons (.c (.str "once")) (.cons (.c (.int 1)) .nil))) (.cons (.tup (.cons (.c (.str "every")) (.cons (.c (.int 1)) .nil))) .nil)))))))))) (.cons (.ex (.ext (.var 11) (.lst (.cons (.tup (.cons (.c (.str "every")) (.cons (.c (.int 1)) (.cons (.c (.int 0)) .nil)))) (.cons (.tup (.cons (.c (.str "every")) (.cons (.c (.int 1)) (.cons (.c (.int 1000)) .nil)))) (.cons (.tup (.cons (.c (.str "every")) (.cons (.c .non) (.cons (.c (.int 1)) .nil)))) (.cons (.tup (.cons (.c (.str "daily")) (.cons (.c (.int 24)) .nil))) (.cons (.tup (.cons (.c (.str "daily")) (.cons (.neg (.c (.int 1))) .nil))) .nil)))))))) (.cons (.ex (.ext (.var 11) (.lst (.cons (.tup (.cons (.c (.str "daily")) .nil)) (.cons (.tup (.cons (.c (.str "weekly")) (.cons (.c (.int 1)) .nil))) (.cons (.c (.str "daily")) .nil)))))) (.cons (.set 12 (.call "_law_pick" QTA.f_law_pick (.cons (.var 0) (.cons (.var 1) (.cons (.var 11) .nil))))) (.cons (.ife (.or (.cons (.cmp .ne (.call "_law_ask" f_law_ask (.cons (.c (.int 0)) (.cons (.var 2) (.cons (.var 12) (.cons (.c .non) (.cons (.c .non) .nil)))))) (.tup (.cons (.c (.str "refused")) (.cons (.c (.int 1)) .nil)))) (.cons (.cmp .ne (.call "_law_ask" f_law_ask (.cons (.c (.int 1)) (.cons (.var 2) (.cons (.var 12) (.cons (.c .non) (.cons (.c .non) .nil)))))) (.tup (.cons (.c (.str "refused")) (.cons (.c (.int 1)) .nil)))) .nil))) (.cons (.ret (.c (.bl false))) .nil) .nil) (.cons (.set 13 (.call "_law_pick" QTA.f_law_pick (.cons (.var 0) (.cons (.var 1) (.cons (.lst (.cons (.neg (.c (.int 1))) (.cons (.c (.int 10000)) (.cons (.c .non) (.cons (.c (.bl true)) (.cons (.c (.str "1")) .nil)))))) .nil))))) (.cons (.ife (.or (.cons (.cmp .ne (.call "_law_ask" f_law_ask (.cons (.c (.int 0)) (.cons (.var 2) (.cons (.var 3) (.cons (.var 13) (.cons (.c .non) .nil)))))) (.tup (.cons (.c (.str "refused")) (.cons (.c (.int 3)) .nil)))) (.cons (.cmp .ne (.call "_law_ask" f_law_ask (.cons (.c (.int 1)) (.cons (.var 2) (.cons (.var 3) (.cons (.var 13) (.cons (.c (.int 5)) .nil)))))) (.tup (.cons (.c (.str "refused")) (.cons (.c (.int 2)) .nil)))) .nil))) (.cons (.ret (.c (.bl false))) .nil) .nil) (.cons (.ife (.cmp .ne (.call "_law_ask" f_law_ask (.cons (.c (.int 1)) (.cons (.var 2) (.cons (.var 3) (.cons (.c (.int 5)) (.cons (.var 13) .nil)))))) (.tup (.cons (.c (.str "refused")) (.cons (.c (.int 2)) .nil)))) (.cons (.ret (.c (.bl false))) .nil) .nil) (.cons (.ret (.cmp .eq (.comp [("_law_what", 14)] (.nm 14) (.rng1 (.c (.int 2))) .non (.call "_law_ask" f_law_ask (.cons (.var 14) (.cons (.c .non) (.cons (.c .non) (.cons (.c .non) (.cons (.c .non) .nil))))))) (.bin .mul (.lst (.cons (.tup (.cons (.c (.str "refused")) (.cons (.c (.int 0)) .nil))) .nil)) (.c (.int 2))))) .nil))))))))))))))))))))
noncomputable def f_law : Fn := defF true 15 1 b_law
def top (i : Nat) : Stmt := PySem.Challenge.pw_duehall_k02_dues.main.body.getD i (.Pass ⟨0, 0, 0, 0⟩)
theorem sc_law_cell_at : FnScope ["_law_script", "_law_k"] ["_law_script", "_law_k"] (defScope (top 33)) := ⟨rfl, rfl, rfl, by decide +kernel, rfl, by decide +kernel, by decide +kernel⟩
theorem ck_law_cell_at : chkB QT.b_law_cell_at (defScope (top 33)) ["_law_script", "_law_k"] (defBody (top 33)) = true := by decide +kernel
theorem sc_law_mixed : FnScope ["_law_script", "_law_k", "_law_many", "_law_drawn"] ["_law_script", "_law_k", "_law_many"] (defScope (top 34)) := ⟨rfl, rfl, rfl, by decide +kernel, rfl, by decide +kernel, by decide +kernel⟩
theorem ck_law_mixed : chkB QTA.b_law_mixed (defScope (top 34)) ["_law_script", "_law_k", "_law_many", "_law_drawn"] (defBody (top 34)) = true := by decide +kernel
theorem sc_law_draw : FnScope ["_law_script", "_law_town", "_law_many"] ["_law_script", "_law_town", "_law_many"] (defScope (top 35)) := ⟨rfl, rfl, rfl, by decide +kernel, rfl, by decide +kernel, by decide +kernel⟩
theorem ck_law_draw : chkB QTA.b_law_draw (defScope (top 35)) ["_law_script", "_law_town", "_law_many"] (defBody (top 35)) = true := by decide +kernel
theorem sc_law_pick : FnScope ["_law_script", "_law_town", "_law_some"] ["_law_script", "_law_town", "_law_some"] (defScope (top 36)) := ⟨rfl, rfl, rfl, by decide +kernel, rfl, by decide +kernel, by decide +kernel⟩
theorem ck_law_pick : chkB QTA.b_law_pick (defScope (top 36)) ["_law_script", "_law_town", "_law_some"] (defBody (top 36)) = true := by decide +kernel
theorem sc_law_zone : FnScope ["_law_script", "_law_town", "_law_shifts", "_law_moment", "_law_k", "_law_one", "_law_more"] ["_law_script", "_law_town"] (defScope (top 37)) := ⟨rfl, rfl, rfl, by decide +kernel, rfl, by decide +kernel, by decide +kernel⟩
theorem ck_law_zone : chkB QTA.b_law_zone (defScope (top 37)) ["_law_script", "_law_town", "_law_shifts", "_law_moment", "_law_k", "_law_one", "_law_more"] (defBody (top 37)) = true := by decide +kernel
theorem sc_law_plan : FnScope ["_law_script", "_law_town", "_law_kind", "_law_step"] ["_law_script", "_law_town"] (defScope (top 39)) := ⟨rfl, rfl, rfl, by decide +kernel, rfl, by decide +kernel, by decide +kernel⟩
theorem ck_law_plan : chkB QTA.b_law_plan (defScope (top 39)) ["_law_script", "_law_town", "_law_kind", "_law_step"] (defBody (top 39)) = true := by decide +kernel
theorem sc_law_clock : FnScope ["_law_zone_here", "_law_moment", "_law_ahead", "_law_begin", "_law_more"] ["_law_zone_here", "_law_moment"] (defScope (top 38)) := ⟨rfl, rfl, rfl, by decide +kernel, rfl, by decide +kernel, by decide +kernel⟩
theorem ck_law_clock : chkB QTA.b_law_clock (defScope (top 38)) ["_law_zone_here", "_law_moment", "_law_ahead", "_law_begin", "_law_more"] (defBody (top 38)) = true := by decide +kernel
theorem sc_law_dues : FnScope ["_law_zone_here", "_law_plan_here", "_law_last", "_law_made", "_law_goal", "_law_moment"] ["_law_zone_here", "_law_plan_here", "_law_last"] (defScope (top 40)) := ⟨rfl, rfl, rfl, by decide +kernel, rfl, by decide +kernel, by decide +kernel⟩
theorem ck_law_dues : chkB QTA.b_law_dues (defScope (top 40)) ["_law_zone_here", "_law_plan_here", "_law_last", "_law_made", "_law_goal", "_law_moment"] (defBody (top 40)) = true := by decide +kernel
theorem sc_is_whole : FnScope ["thing", "low", "most"] ["thing", "low", "most"] (defScope (top 19)) := ⟨rfl, rfl, rfl, by decide +kernel, rfl, by decide +kernel, by decide +kernel⟩
theorem ck_is_whole : chkB QT.b_is_whole (defScope (top 19)) ["thing", "low", "most"] (defBody (top 19)) = true := by decide +kernel
theorem sc_is_zone : FnScope ["thing", "last", "one"] ["thing"] (defScope (top 20)) := ⟨rfl, rfl, rfl, by decide +kernel, rfl, by decide +kernel, by decide +kernel⟩
theorem ck_is_zone : chkB QT.b_is_zone (defScope (top 20)) ["thing", "last", "one"] (defBody (top 20)) = true := by decide +kernel
theorem sc_need_zone : FnScope ["thing"] ["thing"] (defScope (top 21)) := ⟨rfl, rfl, rfl, by decide +kernel, rfl, by decide +kernel, by decide +kernel⟩
theorem ck_need_zone : chkB QT.b_need_zone (defScope (top 21)) ["thing"] (defBody (top 21)) = true := by decide +kernel
theorem sc_is_plan : FnScope ["thing"] ["thing"] (defScope (top 27)) := ⟨rfl, rfl, rfl, by decide +kernel, rfl, by decide +kernel, by decide +kernel⟩
theorem ck_is_plan : chkB QT.b_is_plan (defScope (top 27)) ["thing"] (defBody (top 27)) = true := by decide +kernel
theorem sc_need_plan : FnScope ["thing"] ["thing"] (defScope (top 28)) := ⟨rfl, rfl, rfl, by decide +kernel, rfl, by decide +kernel, by decide +kernel⟩
theorem ck_need_plan : chkB QT.b_need_plan (defScope (top 28)) ["thing"] (defBody (top 28)) = true := by decide +kernel
theorem sc_wall_at : FnScope ["zone", "moment", "ahead", "begin", "more"] ["zone", "moment"] (defScope (top 23)) := ⟨rfl, rfl, rfl, by decide +kernel, rfl, by decide +kernel, by decide +kernel⟩
theorem ck_wall_at : chkB QT.b_wall_at (defScope (top 23)) ["zone", "moment", "ahead", "begin", "more"] (defBody (top 23)) = true := by decide +kernel
theorem sc_first_at : FnScope ["zone", "goal", "stretches", "at", "begin", "ahead", "moment"] ["zone", "goal"] (defScope (top 24)) := ⟨rfl, rfl, rfl, by decide +kernel, rfl, by decide +kernel, by decide +kernel⟩
theorem ck_first_at : chkB QT.b_first_at (defScope (top 24)) ["zone", "goal", "stretches", "at", "begin", "ahead", "moment"] (defBody (top 24)) = true := by decide +kernel
theorem sc_due_at : FnScope ["zone", "plan", "count", "first"] ["zone", "plan", "count"] (defScope (top 29)) := ⟨rfl, rfl, rfl, by decide +kernel, rfl, by decide +kernel, by decide +kernel⟩
theorem ck_due_at : chkB QT.b_due_at (defScope (top 29)) ["zone", "plan", "count", "first"] (defBody (top 29)) = true := by decide +kernel
theorem sc_due : FnScope ["zone", "plan", "count"] ["zone", "plan", "count"] (defScope (top 30)) := ⟨rfl, rfl, rfl, by decide +kernel, rfl, by decide +kernel, by decide +kernel⟩
theorem ck_due : chkB QT.b_due (defScope (top 30)) ["zone", "plan", "count"] (defBody (top 30)) = true := by decide +kernel
theorem sc_need_moment : FnScope ["thing"] ["thing"] (defScope (top 22)) := ⟨rfl, rfl, rfl, by decide +kernel, rfl, by decide +kernel, by decide +kernel⟩
theorem ck_need_moment : chkB QT.b_need_moment (defScope (top 22)) ["thing"] (defBody (top 22)) = true := by decide +kernel
theorem sc_dues : FnScope ["zone", "plan", "first", "last", "made", "count", "moment"] ["zone", "plan", "first", "last"] (defScope (top 31)) := ⟨rfl, rfl, rfl, by decide +kernel, rfl, by decide +kernel, by decide +kernel⟩
theorem ck_dues : chkB QT.b_dues (defScope (top 31)) ["zone", "plan", "first", "last", "made", "count", "moment"] (defBody (top 31)) = true := by decide +kernel
theorem sc_law_which : FnScope ["_law_e", "_law_own"] ["_law_e"] (defScope (top 41)) := ⟨rfl, rfl, rfl, by decide +kernel, rfl, by decide +kernel, by decide +kernel⟩
theorem ck_law_which : ∀ c a, chkB (QTA.b_law_which c a) (defScope (top 41)) ["_law_e", "_law_own"] (defBody (top 41)) = true := fun c a => by kernel_rfl
theorem sc_law_ask : FnScope ["_law_what", "_law_zone_here", "_law_plan_here", "_law_one", "_law_other", "_law_e"] ["_law_what", "_law_zone_here", "_law_plan_here", "_law_one", "_law_other"] (defScope (top 42)) := ⟨rfl, rfl, rfl, by decide +kernel, rfl, by decide +kernel, by decide +kernel⟩
theorem ck_law_ask : chkB b_law_ask (defScope (top 42)) ["_law_what", "_law_zone_here", "_law_plan_here", "_law_one", "_law_other", "_law_e"] (defBody (top 42)) = true := by decide +kernel
theorem sc_law : FnScope ["_law_script", "_law_town", "_law_zone_here", "_law_plan_here", "_law_last", "_law_first", "_law_row", "_law_due_rows", "_law_count", "_law_moment", "_law_later", "_law_some", "_law_bad", "_law_odd", "_law_what"] ["_law_script"] (defScope (top 43)) := ⟨rfl, rfl, rfl, by decide +kernel, rfl, by decide +kernel, by decide +kernel⟩
theorem ck_law : chkB b_law (defScope (top 43)) ["_law_script", "_law_town", "_law_zone_here", "_law_plan_here", "_law_last", "_law_first", "_law_row", "_law_due_rows", "_law_count", "_law_moment", "_law_later", "_law_some", "_law_bad", "_law_odd", "_law_what"] (defBody (top 43)) = true := by decide +kernel
end QLaw
set_option Elab.async false
set_option maxRecDepth 100000
set_option linter.all false
set_option maxHeartbeats 1000000
/-! What the helpers come to: the drawn numbers, the zones. -/
namespace Q
open PySem QT
theorem defF1 (n : Nat) (body : Sts) (a : W) (S : Store) : defF true n 1 body [a] S = fin true S (evB body (some a :: List.replicate (n - 1) none) S) := rfl
theorem defF2 (n : Nat) (body : Sts) (a b : W) (S : Store) : defF true n 2 body [a, b] S = fin true S (evB body (some a :: some b :: List.replicate (n - 2) none) S) := rfl
theorem defF3 (n : Nat) (body : Sts) (a b c : W) (S : Store) : defF true n 3 body [a, b, c] S = fin true S (evB body (some a :: some b :: some c :: List.replicate (n - 3) none) S) := rfl
theorem defF4 (n : Nat) (body : Sts) (a b c d : W) (S : Store) : defF true n 4 body [a, b, c, d] S = fin true S (evB body (some a :: some b :: some c :: some d :: List.replicate (n - 4) none) S) := rfl
theorem fin_rtK {S T U : Store} {x : D} (h : Keeps S T) (e : T.take S.length = U) : fin true S (.rt (.d x) T) = .ok (.d x) U := by
  subst e; simp [fin, finW, h]
@[simp] theorem forL_nil (tg : Tg) (body : Env → Store → Fl) (ρ : Env) (S : Store) : forL tg body [] ρ S = .nx ρ S := nf rfl
theorem forL_cons (tg : Tg) (body : Env → Store → Fl) (x : D) (xs : List D) (ρ : Env) (S : Store) : forL tg body (x :: xs) ρ S = (match tgD tg x ρ with
    | none => .stuck
    | some ρ1 => (body ρ1 S).andThen fun ρ2 S2 => forL tg body xs ρ2 S2) := rfl
/-! ### drawn numbers -/
def cell (ns : List Int) (k : Nat) : Int := if k < ns.length then ns.getD k 0 else if ns = [] then 0 else ns.getD (k % ns.length) 0 * 31 + k
def mixN (ns : List Int) (k : Nat) (many : Int) : Int := ((cell ns k * 1103515245 + 7919 * k + 12345) % 2147483647) ^ 5 % 2147483647 % 999983 % many
theorem mixN_lo (ns : List Int) (k : Nat) {many : Int} (h : 0 < many) : 0 ≤ mixN ns k many := Int.emod_nonneg _ (by omega)
theorem mixN_hi (ns : List Int) (k : Nat) {many : Int} (h : 0 < many) : mixN ns k many < many := Int.emod_lt_of_pos _ h
@[simp] theorem cop_eqLS (ns : List Int) : cop .eq (.scr ns) (.lst []) = some (decide (ns = [])) := by
  show deqO (.scr ns) (.lst []) = _
  cases ns <;> simp [deqO, okd, okds, toPy, toPys, PyData.eqv, PyData.eqvAll]
@[simp] theorem ixop_S (ns : List Int) (i : Int) : ixop (.scr ns) (.int i) = (L2.atI ns i).map D.int := nf rfl
theorem atI_getD {α : Type} (xs : List α) (d : α) {i : Int} {j : Nat} (hj : i = (j : Int)) (h : j < xs.length) : L2.atI xs i = some (xs.getD j d) := by
  subst hj
  exact L2.atI_nat (by rw [List.getD_eq_getElem?_getD, List.getElem?_eq_getElem h]; rfl)
theorem cell_spec (ns : List Int) (k : Nat) (S : Store) : f_law_cell_at [.d (.scr ns), .d (.int k)] S = .ok (.d (.int (cell ns k))) S := by
  unfold f_law_cell_at
  rw [defF2]
  unfold b_law_cell_at cell
  simp
  by_cases h : k < ns.length
  · simp [h, atI_getD ns 0 rfl h]
  · by_cases q : ns = []
    · simp [h, q]
    · have hl : 0 < ns.length := List.length_pos_iff.mpr q
      have hm : k % ns.length < ns.length := Nat.mod_lt _ hl
      simp [h, q]
      rw [bop_mod (by omega)]
      simp
      rw [atI_getD ns 0 (by omega) hm]
      simp [bop_mulR, small_lit]
theorem mixed_spec (ns : List Int) (k : Nat) {many : Int} (hm : 0 < many) (S : Store) : f_law_mixed [.d (.scr ns), .d (.int k), .d (.int many)] S = .ok (.d (.int (mixN ns k many))) S := by
  unfold f_law_mixed
  rw [defF3]
  unfold b_law_mixed
  simp [cell_spec, bop_mulR (i := cell ns k) (j := 1103515245) (by decide), bop_mulL (i := 7919) (j := k) (by decide), bop_mod]
  rw [bop_pow (by decide) (by decide) (by omega)]
  simp [bop_mod, hm]
  rfl
/-- the town behind k draws -/
def town (k : Nat) : O := .lst (List.replicate k (.int 0))
theorem keeps_town (k j : Nat) (S T : Store) : Keeps (town k :: S) (town j :: (S ++ T)) := by
  have := keeps_set (town k :: S) T 0 (List.replicate j (.int 0))
  simpa [town] using this
theorem keeps_town0 (k j : Nat) (S : Store) : Keeps (town k :: S) (town j :: S) := by
  have := keeps_town k j S []
  simpa using this
theorem fin_rtT {k j : Nat} {S T : Store} {x : D} : fin true (town k :: S) (.rt (.d x) (town j :: (S ++ T))) = .ok (.d x) (town j :: S) :=
  fin_rtK (keeps_town k j S T) (by simp)
theorem fin_rtT0 {k j : Nat} {S : Store} {x : D} : fin true (town k :: S) (.rt (.d x) (town j :: S)) = .ok (.d x) (town j :: S) :=
  fin_rtK (keeps_town0 k j S) (by simp)
theorem view_town (k : Nat) (S : Store) : view (town k :: S) (.loc 0) = some (.lst (List.replicate k (.int 0))) := rfl
theorem recvL_town (k : Nat) (S : Store) : recvL (.loc 0) (town k :: S) = .ok (.loc 0) (town k :: S) := rfl
theorem appW_town (k : Nat) (h : k < 100000) (S : Store) : appW (.loc 0) (.d (.int 0)) (town k :: S) = .ok (.d .non) (town (k + 1) :: S) := by
  show (if (List.replicate k (D.int 0)).length < sizeLine then _ else _) = _
  rw [List.length_replicate, if_pos (by have : sizeLine = 16777216 := rfl; omega)]
  show R.ok _ (O.lst (List.replicate k (D.int 0) ++ [D.int 0]) :: S) = R.ok _ (O.lst (List.replicate (k + 1) (D.int 0)) :: S)
  rw [List.replicate_succ']
theorem len_town (k : Nat) (S : Store) : biW .len [.loc 0] (town k :: S) = .ok (.d (.int k)) (town k :: S) := by
  show R.ok (W.d (.int ((List.replicate k (D.int 0)).length : Nat))) _ = _
  rw [List.length_replicate]
theorem draw_spec (ns : List Int) (k : Nat) (hk : k < 100000) {many : Int} (hm : 0 < many) (S : Store) : f_law_draw [.d (.scr ns), .loc 0, .d (.int many)] (town k :: S) = .ok (.d (.int (mixN ns (k + 1) many))) (town (k + 1) :: S) := by
  unfold f_law_draw
  rw [defF3]
  unfold b_law_draw
  have m := mixed_spec ns (k + 1) hm (town (k + 1) :: S)
  simp only [Int.natCast_add, Int.cast_ofNat_Int] at m
  simp [recvL_town, appW_town k hk, len_town, m, fin_rtT0]
theorem pick_spec (ns : List Int) (k : Nat) (hk : k < 100000) (xs : List D) (h : 0 < xs.length) (S : Store) : f_law_pick [.d (.scr ns), .loc 0, .d (.lst xs)] (town k :: S) = .ok (.d (xs.getD (mixN ns (k + 1) xs.length).toNat .non)) (town (k + 1) :: S) := by
  unfold f_law_pick
  rw [defF3]
  unfold b_law_pick
  have h1 := mixN_lo ns (k + 1) (many := xs.length) (by omega)
  have h2 := mixN_hi ns (k + 1) (many := xs.length) (by omega)
  simp [draw_spec ns k hk (many := xs.length) (by omega)]
  rw [atI_getD xs .non (j := (mixN ns (k + 1) xs.length).toNat) (by omega) (by omega)]
  simp [fin_rtT0]
end Q
set_option Elab.async false
set_option maxRecDepth 100000
set_option linter.all false
set_option maxHeartbeats 1000000
/-! Zones. -/
namespace Q
open PySem QT
theorem draw_ex (ns : List Int) (k : Nat) (hk : k < 100000) {many : Int} (hm : 0 < many) : ∃ n : Nat, (n : Int) < many ∧ ∀ S : Store, f_law_draw [.d (.scr ns), .loc 0, .d (.int many)] (town k :: S) = .ok (.d (.int n)) (town (k + 1) :: S) := by
  obtain ⟨n, hn⟩ := Int.eq_ofNat_of_zero_le (mixN_lo ns (k + 1) hm)
  have h2 := mixN_hi ns (k + 1) hm
  exact ⟨n, by omega, fun S => by rw [draw_spec ns k hk hm S, hn]⟩
theorem pick_int (ns : List Int) (k : Nat) (hk : k < 100000) (vs : List Int) (h : 0 < vs.length) (S : Store) : ∃ v ∈ vs, f_law_pick [.d (.scr ns), .loc 0, .d (.lst (vs.map D.int))] (town k :: S) = .ok (.d (.int v)) (town (k + 1) :: S) := by
  have h1 := mixN_lo ns (k + 1) (many := vs.length) (by omega)
  have h2 := mixN_hi ns (k + 1) (many := vs.length) (by omega)
  have hl : (mixN ns (k + 1) vs.length).toNat < vs.length := by omega
  refine ⟨vs[(mixN ns (k + 1) vs.length).toNat], List.getElem_mem _, ?_⟩
  rw [pick_spec ns k hk (vs.map D.int) (by simpa using h), List.length_map]
  rw [List.getD_eq_getElem?_getD, List.getElem?_map, List.getElem?_eq_getElem hl]
  rfl
abbrev Z := Int × List (Int × Int)
def encS (s : Int × Int) : D := .tup [.int s.1, .int s.2]
def encZ (z : Z) : D := .tup [.int z.1, .tup (z.2.map encS)]
def aheadA (a : Int) (l : List (Int × Int)) (m : Int) : Int := l.foldl (fun a s => if s.1 ≤ m then s.2 else a) a
def shown (z : Z) (m : Int) : Int := m + aheadA z.1 z.2 m
def Rising : Int → List (Int × Int) → Prop
  | _, [] => True
  | a, s :: r => a < s.1 ∧ Rising s.1 r
def lastB (a : Int) : List (Int × Int) → Int
  | [] => a
  | s :: r => lastB s.1 r
theorem rising_snoc {l : List (Int × Int)} {a b x : Int} (h : Rising a l) (hb : lastB a l < b) : Rising a (l ++ [(b, x)]) := by
  induction l generalizing a with
  | nil => exact ⟨hb, trivial⟩
  | cons s r ih => exact ⟨h.1, ih h.2 hb⟩
theorem lastB_snoc (l : List (Int × Int)) (a b x : Int) : lastB a (l ++ [(b, x)]) = b := by
  induction l generalizing a with
  | nil => rfl
  | cons s r ih => exact ih s.1
structure ZOk (z : Z) : Prop where
  lo : -12 ≤ z.1
  hi : z.1 ≤ 14
  len : z.2.length ≤ 6
  ris : Rising 0 z.2
  all : ∀ s ∈ z.2, s.1 ≤ 9999 ∧ -12 ≤ s.2 ∧ s.2 ≤ 14
theorem zone_loop (ns : List Int) {wide : Int} (w1 : 1 ≤ wide) (w2 : wide ≤ 2000) (S : Store) : ∀ (items : List D) (j : Nat) (l : List (Int × Int)) (at_ : Int) (o5 : Option W) (_ : j + 2 * items.length ≤ 100000) (_ : l.length + items.length ≤ 100),
    Rising 0 l → lastB 0 l = at_ → 0 ≤ at_ → (∀ s ∈ l, s.1 ≤ at_ ∧ -12 ≤ s.2 ∧ s.2 ≤ 14) →
    ∃ (l' : List (Int × Int)) (at' : Int) (o' : Option W), Rising 0 l' ∧ (∀ s ∈ l', s.1 ≤ at_ + items.length * wide ∧ -12 ≤ s.2 ∧ s.2 ≤ 14) ∧ l'.length = l.length + items.length ∧
      forL (.nm 5) (evB (.cons (.set 4 (.bin .add (.bin .add (.var 4) (.c (.int 1))) (.call "_law_draw" f_law_draw (.cons (.var 0) (.cons (.var 1) (.cons (.var 2) .nil)))))) (.cons (.set 3 (.bin .add (.var 3) (.tup (.cons (.tup (.cons (.var 4) (.cons (.call "_law_pick" f_law_pick (.cons (.var 0) (.cons (.var 1) (.cons (.lst (.cons (.c (.int 0)) (.cons (.c (.int 1)) (.cons (.c (.int 2)) (.cons (.neg (.c (.int 1))) (.cons (.c (.int 14)) (.cons (.neg (.c (.int 12))) (.cons (.c (.int 3)) .nil)))))))) .nil)))) .nil))) .nil)))) .nil))) items
        [some (.d (.scr ns)), some (.loc 0), some (.d (.int wide)), some (.d (.tup (l.map encS))), some (.d (.int at_)), o5] (town j :: S) =
      .nx [some (.d (.scr ns)), some (.loc 0), some (.d (.int wide)), some (.d (.tup (l'.map encS))), some (.d (.int at')), o'] (town (j + 2 * items.length) :: S) := by
  intro items
  induction items with
  | nil =>
    intro j l at_ o5 _ _ hr hl h0 ha
    refine ⟨l, at_, o5, hr, ?_, rfl, rfl⟩
    intro s hs
    have := ha s hs
    simp only [List.length_nil]
    omega
  | cons x items ih =>
    intro j l at_ o5 hj hll hr hl h0 ha
    simp only [List.length_cons] at hj hll ⊢
    have d1 := mixN_lo ns (j + 1) (many := wide) (by omega)
    have d2 := mixN_hi ns (j + 1) (many := wide) (by omega)
    obtain ⟨v, hv, pv⟩ := pick_int ns (j + 1) (by omega) [0, 1, 2, -1, 14, -12, 3] (by decide) S
    have hv2 : -12 ≤ v ∧ v ≤ 14 := by
      simp only [List.mem_cons, List.not_mem_nil, or_false] at hv
      omega
    simp only [List.map] at pv
    obtain ⟨l', at', o', e1, e2, e3, e4⟩ := ih (j + 2) (l ++ [(at_ + 1 + mixN ns (j + 1) wide, v)]) (at_ + 1 + mixN ns (j + 1) wide) (some (.d x)) (by omega)
      (by simp only [List.length_append, List.length_cons, List.length_nil]; omega)
      (rising_snoc hr (by omega)) (lastB_snoc ..) (by omega) (by
        intro s hs
        rcases List.mem_append.mp hs with hs | hs
        · have := ha s hs; omega
        · simp only [List.mem_cons, List.not_mem_nil, or_false] at hs
          subst hs
          exact ⟨Int.le_refl _, hv2⟩)
    refine ⟨l', at', o', e1, ?_, ?_, ?_⟩
    · intro s hs
      have := e2 s hs
      have q : ((items.length + 1 : Nat) : Int) * wide = items.length * wide + wide := by
        rw [Int.natCast_add, Int.add_mul]; simp
      rw [q]
      omega
    · rw [e3]; simp only [List.length_append, List.length_cons, List.length_nil]; omega
    · rw [forL_cons]
      simp [draw_spec ns j (by omega) (show 0 < wide by omega), pv]
      rw [if_pos (by have : sizeLine = 16777216 := rfl; omega)]
      simp only [List.map_append, List.map_cons, List.map_nil, encS] at e4
      rw [show j + 2 * (items.length + 1) = j + 2 + 2 * items.length by omega]
      exact e4
theorem zone_spec (ns : List Int) (k : Nat) (hk : k + 20 ≤ 100000) {wide : Int} (w1 : 1 ≤ wide) (w2 : wide ≤ 2000) (S : Store) :
    ∃ (z : Z) (k' : Nat), ZOk z ∧ (∀ s ∈ z.2, s.1 ≤ 4 * wide) ∧ z.2.length ≤ 4 ∧ k ≤ k' ∧ k' ≤ k + 14 ∧ f_law_zone [.d (.scr ns), .loc 0, .d (.int wide)] (town k :: S) = .ok (.d (encZ z)) (town k' :: S) := by
  unfold f_law_zone
  rw [defF3]
  unfold b_law_zone
  obtain ⟨n, hn, d⟩ := draw_ex ns k (by omega) (many := 5) (by omega)
  obtain ⟨l', at', o', e1, e2, e3, e4⟩   := zone_loop ns w1 w2 S (rngL 0 n) (k + 1) [] 0 none (by simp [rngL]; omega) (by simp [rngL]; omega) trivial rfl (by omega) (by simp)
  have hln : (rngL 0 n).length = n := by simp [rngL]
  rw [hln] at e2 e3 e4
  obtain ⟨v, hv, pv⟩ := pick_int ns (k + 1 + 2 * n) (by omega) [0, 1, 2, -1, 14, -12] (by decide) S
  have hv2 : -12 ≤ v ∧ v ≤ 14 := by
    simp only [List.mem_cons, List.not_mem_nil, or_false] at hv
    omega
  simp only [List.map] at pv
  have hb : ∀ s ∈ l', s.1 ≤ 4 * wide := by
    intro s hs
    have h1 := e2 s hs
    have h3 : (n : Int) * wide ≤ 4 * wide := Int.mul_le_mul_of_nonneg_right (by omega) (by omega)
    omega
  refine ⟨(v, l'), k + 1 + 2 * n + 1, ⟨hv2.1, hv2.2, by simp at e3; show l'.length ≤ 6; omega, e1, fun s hs => ?_⟩, hb, by simp at e3; show l'.length ≤ 4; omega, by omega, by omega, ?_⟩
  · have h1 := e2 s hs
    have h2 := hb s hs
    omega
  · simp only [List.map] at e4
    simp
    rw [d S]
    simp
    rw [itR1_int (by omega) (by omega)]
    simp
    rw [e4]
    simp [pv, fin_rtT0]
    rfl
/-! ### is it a zone -/
theorem whole_spec (i lo hi : Int) (S : Store) : f_is_whole [.d (.int i), .d (.int lo), .d (.int hi)] S = .ok (.d (.bl (decide (lo ≤ i ∧ i ≤ hi)))) S := by
  unfold f_is_whole
  rw [defF3]
  unfold b_is_whole
  by_cases h : lo ≤ i <;> simp [h]
theorem wall_spec (z : Z) (m : Int) (S : Store) : f_wall_at [.d (encZ z), .d (.int m)] S = .ok (.d (.int (shown z m))) S := by
  have loop : ∀ (l : List (Int × Int)) (a : Int) (o3 o4 : Option W) (x : W), ∃ (o3' o4' : Option W),
      forL (.tp [(.nm 3), (.nm 4)]) (evB (.cons (.ife (.cmp .le (.var 3) (.var 1)) (.cons (.set 2 (.var 4)) .nil) .nil) .nil)) (l.map encS) [some x, some (.d (.int m)), some (.d (.int a)), o3, o4] S = .nx [some x, some (.d (.int m)), some (.d (.int (aheadA a l m))), o3', o4'] S := by
    intro l
    induction l with
    | nil => intro a o3 o4 x; exact ⟨o3, o4, rfl⟩
    | cons s r ih =>
      intro a o3 o4 x
      obtain ⟨p, q, h⟩ := ih (if s.1 ≤ m then s.2 else a) (some (.d (.int s.1))) (some (.d (.int s.2))) x
      refine ⟨p, q, ?_⟩
      rw [List.map_cons, forL_cons]
      by_cases c : s.1 ≤ m
      · rw [if_pos c] at h
        simp [encS, c, aheadA]
        exact h
      · rw [if_neg c] at h
        simp [encS, c, aheadA]
        exact h
  unfold f_wall_at
  rw [defF2]
  unfold b_wall_at
  obtain ⟨p, q, h⟩ := loop z.2 z.1 none none (.d (encZ z))
  simp [encZ, shown] at h ⊢
  rw [h]
  simp
theorem law_shown_spec (z : Z) (m : Int) (S : Store) : f_law_shown [.d (encZ z), .d (.int m)] S = .ok (.d (.int (shown z m))) S := by
  have loop : ∀ (l : List (Int × Int)) (a : Int) (o3 o4 : Option W) (x : W), ∃ (o3' o4' : Option W),
      forL (.tp [(.nm 3), (.nm 4)]) (evB (.cons (.set 2 (.ite (.cmp .le (.var 3) (.var 1)) (.var 4) (.var 2))) .nil)) (l.map encS) [some x, some (.d (.int m)), some (.d (.int a)), o3, o4] S = .nx [some x, some (.d (.int m)), some (.d (.int (aheadA a l m))), o3', o4'] S := by
    intro l
    induction l with
    | nil => intro a o3 o4 x; exact ⟨o3, o4, rfl⟩
    | cons s r ih =>
      intro a o3 o4 x
      obtain ⟨p, q, h⟩ := ih (if s.1 ≤ m then s.2 else a) (some (.d (.int s.1))) (some (.d (.int s.2))) x
      refine ⟨p, q, ?_⟩
      rw [List.map_cons, forL_cons]
      by_cases c : s.1 ≤ m
      · rw [if_pos c] at h
        simp [encS, c, aheadA]
        exact h
      · rw [if_neg c] at h
        simp [encS, c, aheadA]
        exact h
  unfold f_law_shown
  rw [defF2]
  unfold b_law_shown
  obtain ⟨p, q, h⟩ := loop z.2 z.1 none none (.d (encZ z))
  simp [encZ, shown] at h ⊢
  rw [h]
  simp
end Q
set_option Elab.async false
set_option maxRecDepth 100000
set_option linter.all false
set_option maxHeartbeats 1000000
/-! Zones: taken, and moments. -/
namespace Q
open PySem QT
@[simp] theorem lookV_gl (x : Str) (v : D) (ρ : Env) (S : Store) : ev (.gl x v) ρ S = .ok (.d v) S := nf rfl
theorem is_zone_loop (z0 : W) (S : Store) : ∀ (l : List (Int × Int)) (a : Int) (o2 : Option W), Rising a l → (∀ s ∈ l, s.1 ≤ 9999 ∧ -12 ≤ s.2 ∧ s.2 ≤ 14) →
    ∃ (a' : Int) (o2' : Option W), forL (.nm 2) (evB (.cons (.ife (.or (.cons (.nt (.isi (.var 2) .tuple)) (.cons (.cmp .ne (.bi .len (.cons (.var 2) .nil)) (.c (.int 2))) (.cons (.nt (.call "is_whole" f_is_whole (.cons (.ix (.var 2) (.c (.int 1))) (.cons (.gl "LOW" (.int (-12))) (.cons (.gl "HIGH" (.int 14)) .nil))))) .nil)))) (.cons (.ret (.c (.bl false))) .nil) .nil) (.cons (.ife (.nt (.call "is_whole" f_is_whole (.cons (.ix (.var 2) (.c (.int 0))) (.cons (.bin .add (.var 1) (.c (.int 1))) (.cons (.gl "MOMENTS" (.int 9999)) .nil))))) (.cons (.ret (.c (.bl false))) .nil) .nil) (.cons (.set 1 (.ix (.var 2) (.c (.int 0)))) .nil)))) (l.map encS) [some z0, some (.d (.int a)), o2] S = .nx [some z0, some (.d (.int a')), o2'] S := by
  intro l
  induction l with
  | nil => intro a o2 _ _; exact ⟨a, o2, rfl⟩
  | cons s r ih =>
    intro a o2 hr hs
    obtain ⟨a', o', h⟩ := ih s.1 (some (.d (encS s))) hr.2 (fun t ht => hs t (List.mem_cons_of_mem _ ht))
    have h1 := hs s (List.mem_cons_self ..)
    have h2 : a + 1 ≤ s.1 := hr.1
    refine ⟨a', o', ?_⟩
    rw [List.map_cons, forL_cons]
    simp [encS, whole_spec, h1, h2]
    exact h
theorem is_zone_spec {z : Z} (h : ZOk z) (S : Store) : f_is_zone [.d (encZ z)] S = .ok (.d (.bl true)) S := by
  unfold f_is_zone
  rw [defF1]
  unfold b_is_zone
  obtain ⟨a', o', q⟩ := is_zone_loop (.d (encZ z)) S z.2 0 none h.ris h.all
  have h6 : ¬ (6 : Int) < z.2.length := by have := h.len; omega
  simp only [encZ] at q ⊢
  simp [whole_spec, h.lo, h.hi, h6]
  rw [q]
  simp
theorem need_zone_spec {z : Z} (h : ZOk z) (S : Store) : f_need_zone [.d (encZ z)] S = .ok (.d .non) S := by
  unfold f_need_zone
  rw [defF1]
  unfold b_need_zone
  simp [is_zone_spec h]
end Q
set_option Elab.async false
set_option maxRecDepth 100000
set_option linter.all false
set_option maxHeartbeats 1000000
/-! Runs of whole numbers, loops that only look, moments. -/
namespace Q
open PySem QT
def seqI (lo : Int) : Nat → List Int
  | 0 => []
  | n + 1 => lo :: seqI (lo + 1) n
theorem seqI_len (lo : Int) (n : Nat) : (seqI lo n).length = n := by
  induction n generalizing lo with
  | zero => rfl
  | succ n ih => simp [seqI, ih]
theorem seqI_add (lo : Int) (m n : Nat) : seqI lo (m + n) = seqI lo m ++ seqI (lo + m) n := by
  induction m generalizing lo with
  | zero => simp [seqI]
  | succ m ih =>
    rw [Nat.add_right_comm]
    show lo :: seqI (lo + 1) (m + n) = _
    rw [ih]
    have : lo + 1 + (m : Int) = lo + ((m + 1 : Nat) : Int) := by omega
    rw [this]
    rfl
theorem mem_seqI {lo x : Int} {n : Nat} : x ∈ seqI lo n ↔ lo ≤ x ∧ x < lo + n := by
  induction n generalizing lo with
  | zero => simp only [seqI, List.not_mem_nil, false_iff]; omega
  | succ n ih => simp only [seqI, List.mem_cons, ih]; omega
theorem rngL_seqI (lo : Int) (n : Nat) : rngL lo n = (seqI lo n).map D.int := by
  induction n generalizing lo with
  | zero => rfl
  | succ n ih =>
    show (List.range (n + 1)).map _ = _
    rw [List.range_succ_eq_map, List.map_cons, List.map_map]
    show _ :: _ = D.int lo :: (seqI (lo + 1) n).map D.int
    rw [← ih]
    simp only [List.cons.injEq]
    refine ⟨by simp, ?_⟩
    apply List.map_congr_left
    intro x _
    simp only [Function.comp]
    congr 1
    omega
theorem filter_single (a goal lo : Int) (n : Nat) : (seqI lo n).filter (fun m => decide (m + a = goal)) = if lo ≤ goal - a ∧ goal - a < lo + n then [goal - a] else [] := by
  induction n generalizing lo with
  | zero => rw [if_neg (by omega)]; rfl
  | succ n ih =>
    simp only [seqI, List.filter_cons, ih]
    by_cases h : lo + a = goal
    · rw [if_pos (by simpa using h), if_neg (by omega), if_pos (by omega)]
      congr 1
      omega
    · rw [if_neg (by simpa using h)]
      by_cases q : lo + 1 ≤ goal - a ∧ goal - a < lo + 1 + n
      · rw [if_pos q, if_pos (by omega)]
      · rw [if_neg q, if_neg (by omega)]
theorem filter_none {α : Type} {p : α → Bool} {l : List α} (h : ∀ x ∈ l, p x = false) : l.filter p = [] := by
  rw [List.filter_eq_nil_iff]
  intro x hx
  rw [h x hx]
  exact Bool.false_ne_true
theorem compL_pure {α : Type} {tg : Tg} {vs : List Nat} {cond : Env → Store → R Bool} {elt : Env → Store → R W} {ρ : Env} {S : Store} {g f : α → D} {p : α → Bool} (xs : List α)
    (h : ∀ x ∈ xs, ∃ ρ1, tgD tg (g x) (wipeE ρ vs) = some ρ1 ∧ cond ρ1 S = .ok (p x) S ∧ (p x = true → elt ρ1 S = .ok (.d (f x)) S)) :
    compL tg vs cond elt ρ (xs.map g) S = .ok ((xs.filter p).map f) S := by
  induction xs with
  | nil => rfl
  | cons x xs ih =>
    have q := ih (fun y hy => h y (List.mem_cons_of_mem _ hy))
    obtain ⟨ρ1, h1, h2, h3⟩ := h x (List.mem_cons_self ..)
    rw [List.map_cons]
    rw [compL]
    simp only [h1, h2]
    cases hp : p x with
    | true =>
      simp only [h3 hp, q]
      rw [List.filter_cons, if_pos hp]
      rfl
    | false =>
      simp only [q]
      rw [List.filter_cons, if_neg (by rw [hp]; exact Bool.false_ne_true)]
theorem compL_map {α : Type} {tg : Tg} {vs : List Nat} {elt : Env → Store → R W} {ρ : Env} {S : Store} {g f : α → D} (xs : List α)
    (h : ∀ x ∈ xs, ∃ ρ1, tgD tg (g x) (wipeE ρ vs) = some ρ1 ∧ elt ρ1 S = .ok (.d (f x)) S) :
    compL tg vs (evC .non) elt ρ (xs.map g) S = .ok (xs.map f) S := by
  have e := compL_pure (cond := evC .non) (p := fun _ => true) (f := f) (S := S) (ρ := ρ) (vs := vs) (tg := tg) (elt := elt) xs (fun x hx => by
    obtain ⟨ρ1, h1, h2⟩ := h x hx
    exact ⟨ρ1, h1, rfl, fun _ => h2⟩)
  have q : xs.filter (fun _ => true) = xs := List.filter_eq_self.mpr (fun _ _ => rfl)
  rw [q] at e
  exact e
/-! ### moments -/
def momS (goal : Int) : List (Int × Int) → List Int
  | [] => []
  | [s] => if s.1 ≤ goal - s.2 then [goal - s.2] else []
  | s :: t :: r => (if s.1 ≤ goal - s.2 ∧ goal - s.2 < t.1 then [goal - s.2] else []) ++ momS goal (t :: r)
theorem rising_le {l : List (Int × Int)} {a b : Int} (h : Rising a l) (hb : b ≤ a) : ∀ s ∈ l, b < s.1 := by
  induction l generalizing a with
  | nil => intro s hs; cases hs
  | cons t r ih =>
    intro s hs
    have h1 := h.1
    rcases List.mem_cons.mp hs with rfl | hs
    · omega
    · exact ih h.2 (by omega) s hs
theorem ahead_before {l : List (Int × Int)} {a m : Int} (h : ∀ s ∈ l, m < s.1) : aheadA a l m = a := by
  induction l with
  | nil => rfl
  | cons t r ih =>
    have := h t (List.mem_cons_self ..)
    show aheadA (if t.1 ≤ m then t.2 else a) r m = a
    rw [if_neg (by omega)]
    exact ih (fun s hs => h s (List.mem_cons_of_mem _ hs))
theorem momS_filter (goal : Int) (r : List (Int × Int)) : ∀ (b a : Int) (n : Nat), Rising b r → (∀ s ∈ r, s.1 ≤ b + n) → (∀ s ∈ r, goal - s.2 < b + n) → goal - a < b + n →
    momS goal ((b, a) :: r) = (seqI b n).filter (fun m => decide (m + aheadA a r m = goal)) := by
  induction r with
  | nil =>
    intro b a n _ _ _ h
    show _ = (seqI b n).filter (fun m => decide (m + a = goal))
    rw [filter_single]
    show (if b ≤ goal - a then _ else _) = _
    by_cases q : b ≤ goal - a
    · rw [if_pos q, if_pos ⟨q, h⟩]
    · rw [if_neg q, if_neg (by omega)]
  | cons t r ih =>
    intro b a n hr h1 h2 h3
    have e1 := h1 t (List.mem_cons_self ..)
    have e2 := hr.1
    obtain ⟨k, hk⟩ := Int.eq_ofNat_of_zero_le (show 0 ≤ t.1 - b by omega)
    have en : n = k + (n - k) := by omega
    rw [en, seqI_add, List.filter_append]
    have l1 : (seqI b k).filter (fun m => decide (m + aheadA a (t :: r) m = goal)) = (seqI b k).filter (fun m => decide (m + a = goal)) := by
      apply List.filter_congr
      intro x hx
      have hx := mem_seqI.mp hx
      rw [ahead_before]
      intro s hs
      rcases List.mem_cons.mp hs with rfl | hs
      · omega
      · have := rising_le hr.2 (Int.le_refl _) s hs; omega
    have eb : b + (k : Int) = t.1 := by omega
    have l2 : (seqI (b + k) (n - k)).filter (fun m => decide (m + aheadA a (t :: r) m = goal)) = (seqI t.1 (n - k)).filter (fun m => decide (m + aheadA t.2 r m = goal)) := by
      rw [eb]
      apply List.filter_congr
      intro x hx
      have hx := mem_seqI.mp hx
      show decide (x + aheadA (if t.1 ≤ x then t.2 else a) r x = goal) = _
      rw [if_pos hx.1]
    rw [l1, l2, filter_single, ← ih t.1 t.2 (n - k) hr.2 (fun s hs => by have := h1 s (List.mem_cons_of_mem _ hs); omega) (fun s hs => by have := h2 s (List.mem_cons_of_mem _ hs); omega) (by have := h2 t (List.mem_cons_self ..); omega)]
    show (if b ≤ goal - a ∧ goal - a < t.1 then _ else _) ++ momS goal (t :: r) = _
    rw [eb]
end Q
set_option Elab.async false
set_option maxRecDepth 100000
set_option linter.all false
set_option maxHeartbeats 1000000
/-! What the program's moments come to. -/
namespace Q
open PySem QT
theorem line_val : sizeLine = 16777216 := rfl
@[simp] theorem enumL_nil (k : Nat) : enumL k [] = [] := nf rfl
@[simp] theorem enumL_cons (k : Nat) (x : D) (xs : List D) : enumL k (x :: xs) = .tup [.int k, x] :: enumL (k + 1) xs := nf rfl
def bMom : Sts := .cons (.set 9 (.bin .sub (.var 3) (.var 8))) (.cons (.ife (.and (.cons (.cmp .ge (.var 9) (.var 7)) (.cons (.or (.cons (.cmp .eq (.bin .add (.var 6) (.c (.int 1))) (.bi .len (.cons (.var 5) .nil))) (.cons (.cmp .lt (.var 9) (.ix (.ix (.var 5) (.bin .add (.var 6) (.c (.int 1)))) (.c (.int 0)))) .nil))) .nil))) (.cons (.ex (.app (.var 4) (.var 9))) .nil) .nil) .nil)
theorem mom_step1 (w0 w1 w2 o9 : Option W) (goal k b a : Int) (S : Store) (L : List D) (out : List Int) (hk : k + 1 = L.length) (ho : out.length < 100000) :
    evB bMom [w0, w1, w2, some (.d (.int goal)), some (.loc S.length), some (.d (.lst L)), some (.d (.int k)), some (.d (.int b)), some (.d (.int a)), o9] (S ++ [.lst (out.map D.int)]) =
      .nx [w0, w1, w2, some (.d (.int goal)), some (.loc S.length), some (.d (.lst L)), some (.d (.int k)), some (.d (.int b)), some (.d (.int a)), some (.d (.int (goal - a)))] (S ++ [.lst ((out ++ momS goal [(b, a)]).map D.int)]) := by
  by_cases c : b ≤ goal - a
  · simp [bMom, c, hk]
    rw [appW_new _ _ _ (by simp; rw [line_val]; omega)]
    simp [momS, c]
  · simp [bMom, c, momS]
theorem mom_step2 (w0 w1 w2 o9 : Option W) (goal k b a : Int) (t : Int × Int) (r : List (Int × Int)) (S : Store) (L : List D) (out : List Int) (hk : k + 1 ≠ L.length) (ht : L2.atI L (k + 1) = some (encS t)) (ho : out.length < 100000) :
    evB bMom [w0, w1, w2, some (.d (.int goal)), some (.loc S.length), some (.d (.lst L)), some (.d (.int k)), some (.d (.int b)), some (.d (.int a)), o9] (S ++ [.lst (out.map D.int)]) =
      .nx [w0, w1, w2, some (.d (.int goal)), some (.loc S.length), some (.d (.lst L)), some (.d (.int k)), some (.d (.int b)), some (.d (.int a)), some (.d (.int (goal - a)))] (S ++ [.lst ((out ++ if b ≤ goal - a ∧ goal - a < t.1 then [goal - a] else []).map D.int)]) := by
  by_cases c : b ≤ goal - a
  · by_cases q : goal - a < t.1
    · simp [bMom, c, hk, ht, encS, q]
      rw [appW_new _ _ _ (by simp; rw [line_val]; omega)]
      simp
    · simp [bMom, c, hk, ht, encS, q]
  · simp [bMom, c]
theorem mom_loop (w0 w1 w2 : Option W) (goal : Int) (S : Store) : ∀ (l pre : List (Int × Int)) (out : List Int) (o6 o7 o8 o9 : Option W), out.length + l.length ≤ 1000 →
    ∃ (o6' o7' o8' o9' : Option W), forL (.tp [(.nm 6), (.tp [(.nm 7), (.nm 8)])]) (evB bMom) (enumL pre.length (l.map encS))
      [w0, w1, w2, some (.d (.int goal)), some (.loc S.length), some (.d (.lst ((pre ++ l).map encS))), o6, o7, o8, o9] (S ++ [.lst (out.map D.int)]) =
      .nx [w0, w1, w2, some (.d (.int goal)), some (.loc S.length), some (.d (.lst ((pre ++ l).map encS))), o6', o7', o8', o9'] (S ++ [.lst ((out ++ momS goal l).map D.int)]) := by
  intro l
  induction l with
  | nil => intro pre out o6 o7 o8 o9 _; exact ⟨o6, o7, o8, o9, by simp [momS]⟩
  | cons s r ih =>
    intro pre out o6 o7 o8 o9 hl
    simp only [List.length_cons] at hl
    rw [List.map_cons, enumL_cons, forL_cons]
    have hp : (pre ++ [s]).length = pre.length + 1 := by simp
    have ha : (pre ++ [s]) ++ r = pre ++ s :: r := by simp
    have tg : tgD (.tp [(.nm 6), (.tp [(.nm 7), (.nm 8)])]) (.tup [.int pre.length, encS s]) [w0, w1, w2, some (.d (.int goal)), some (.loc S.length), some (.d (.lst ((pre ++ s :: r).map encS))), o6, o7, o8, o9] =
      some [w0, w1, w2, some (.d (.int goal)), some (.loc S.length), some (.d (.lst ((pre ++ s :: r).map encS))), some (.d (.int pre.length)), some (.d (.int s.1)), some (.d (.int s.2)), o9] := rfl
    simp only [tg]
    cases r with
    | nil =>
      rw [mom_step1 _ _ _ _ goal pre.length s.1 s.2 S _ out (by simp) (by omega)]
      exact ⟨_, _, _, _, rfl⟩
    | cons t r =>
      have hlen : (if s.1 ≤ goal - s.2 ∧ goal - s.2 < t.1 then [goal - s.2] else []).length ≤ 1 := by split <;> simp
      obtain ⟨p6, p7, p8, p9, h⟩ := ih (pre ++ [s]) (out ++ if s.1 ≤ goal - s.2 ∧ goal - s.2 < t.1 then [goal - s.2] else []) (some (.d (.int pre.length))) (some (.d (.int s.1))) (some (.d (.int s.2))) (some (.d (.int (goal - s.2)))) (by simp only [List.length_append, List.length_cons, List.length_nil] at hl ⊢; omega)
      rw [hp, ha] at h
      refine ⟨p6, p7, p8, p9, ?_⟩
      rw [mom_step2 _ _ _ _ goal pre.length s.1 s.2 t r S _ out (by simp; omega) (by
        rw [show (pre.length : Int) + 1 = ((pre.length + 1 : Nat) : Int) by omega]
        refine L2.atI_nat ?_
        simp) (by omega)]
      simp only [andThen_nx]
      rw [h]
      simp only [momS, List.append_assoc]
theorem moments_spec {z : Z} (hz : ZOk z) (day hour : Int) (d1 : -1 ≤ day) (d2 : day ≤ 9999) (h1 : 0 ≤ hour) (h2 : hour ≤ 23) (S : Store) :
    f_moments [.d (encZ z), .d (.int day), .d (.int hour)] S = .ok (.d (.lst ((momS (day * 24 + hour) ((0, z.1) :: z.2)).map D.int))) S := by
  unfold f_moments
  rw [defF3]
  unfold b_moments
  obtain ⟨p6, p7, p8, p9, h⟩ := mom_loop (some (.d (encZ z))) (some (.d (.int day))) (some (.d (.int hour))) (day * 24 + hour) S ((0, z.1) :: z.2) [] [] none none none none (by have := hz.len; simp only [List.length_cons, List.length_nil]; omega)
  have hl := hz.len
  have nz := need_zone_spec hz S
  simp only [List.nil_append] at h
  simp only [encZ] at nz h ⊢
  simp [nz, whole_spec, d1, d2, h1, h2, bop_mulR, small_lit]
  rw [if_pos (by rw [line_val]; omega)]
  simp only [List.length_nil, List.map_cons, List.map_nil, encS, enumL_cons, Int.cast_ofNat_Int, Nat.zero_add] at h
  unfold bMom at h
  rw [h]
  simp
end Q
set_option Elab.async false
set_option maxRecDepth 100000
set_option linter.all false
set_option maxHeartbeats 1000000
/-! Long days. -/
namespace Q
open PySem QT
def onDay (z : Z) (day : Int) (n : Nat) : Nat := ((seqI 0 n).filter fun m => decide (shown z m / 24 = day)).length
theorem long_loop (w0 : Option W) (z : Z) (day : Int) (S : Store) (hw : w0 = some (.d (encZ z))) : ∀ (l : List Int) (c : Int) (o3 : Option W),
    ∃ (o3' : Option W), forL (.nm 3) (evB (.cons (.ife (.cmp .eq (.bin .fdiv (.call "wall_at" f_wall_at (.cons (.var 0) (.cons (.var 3) .nil))) (.gl "DAY" (.int 24))) (.var 1)) (.cons (.set 2 (.bin .add (.var 2) (.c (.int 1)))) .nil) .nil) .nil)) (l.map D.int) [w0, some (.d (.int day)), some (.d (.int c)), o3] S =
      .nx [w0, some (.d (.int day)), some (.d (.int (c + (l.filter fun m => decide (shown z m / 24 = day)).length))), o3'] S := by
  subst hw
  intro l
  induction l with
  | nil => intro c o3; exact ⟨o3, by simp⟩
  | cons m r ih =>
    intro c o3
    by_cases h : shown z m / 24 = day
    · obtain ⟨p, q⟩ := ih (c + 1) (some (.d (.int m)))
      refine ⟨p, ?_⟩
      rw [List.map_cons, forL_cons, List.filter_cons, if_pos (by simpa using h)]
      simp [wall_spec, bop_fdiv, h]
      rw [q]
      simp [Int.add_assoc, Int.add_comm 1]
    · obtain ⟨p, q⟩ := ih c (some (.d (.int m)))
      refine ⟨p, ?_⟩
      rw [List.map_cons, forL_cons, List.filter_cons, if_neg (by simpa using h)]
      simp [wall_spec, bop_fdiv, h]
      exact q
theorem long_spec {z : Z} (hz : ZOk z) (day : Nat) (d2 : day ≤ 400) (S : Store) :
    f_long_day [.d (encZ z), .d (.int day)] S = .ok (.d (.int (onDay z day (day * 24 + 49)))) S := by
  unfold f_long_day
  rw [defF2]
  unfold b_long_day
  have nz := need_zone_spec hz S
  obtain ⟨p, h⟩ := long_loop (some (.d (encZ z))) z day S rfl (seqI 0 (day * 24 + 49)) 0 none
  have d3 : (day : Int) ≤ 400 := by omega
  simp [nz, whole_spec, d3, bop_mulR, bop_mulL, small_lit]
  rw [itR2_int (by omega) (by omega) (by omega) (by omega), show ((day : Int) * 24 + 48 + 1 - 0).toNat = day * 24 + 49 by omega, rngL_seqI]
  simp
  rw [h]
  simp [onDay]
/-! counting -/
theorem ahead_bounds {lo hi : Int} (l : List (Int × Int)) (a m : Int) (h : lo ≤ a ∧ a ≤ hi) (hl : ∀ s ∈ l, lo ≤ s.2 ∧ s.2 ≤ hi) : lo ≤ aheadA a l m ∧ aheadA a l m ≤ hi := by
  induction l generalizing a with
  | nil => exact h
  | cons s r ih =>
    refine ih (if s.1 ≤ m then s.2 else a) ?_ (fun t ht => hl t (List.mem_cons_of_mem _ ht))
    split
    · exact hl s (List.mem_cons_self ..)
    · exact h
theorem ZOk.shown {z : Z} (h : ZOk z) (m : Int) : m - 12 ≤ Q.shown z m ∧ Q.shown z m ≤ m + 14 := by
  have := ahead_bounds (lo := -12) (hi := 14) z.2 z.1 m ⟨h.lo, h.hi⟩ (fun s hs => (h.all s hs).2)
  unfold Q.shown
  omega
theorem filter_beyond {p : Int → Bool} {n n' : Nat} (h : n ≤ n') (hp : ∀ m : Int, n ≤ m → p m = false) : (seqI 0 n').filter p = (seqI 0 n).filter p := by
  obtain ⟨k, rfl⟩ := Nat.le.dest h
  rw [seqI_add, List.filter_append, filter_none (l := seqI (0 + n) k) (fun x hx => hp x (by have := mem_seqI.mp hx; omega)), List.append_nil]
/-- the moments that show a day and an hour, of all moments -/
theorem moms_eq {z : Z} (hz : ZOk z) (goal : Int) (n : Nat) (hn : goal + 13 ≤ n) : momS goal ((0, z.1) :: z.2) = (seqI 0 n).filter fun m => decide (shown z m = goal) := by
  have hb : ∀ m : Int, n ≤ m → decide (shown z m = goal) = false := by
    intro m hm
    have := hz.shown m
    simp only [decide_eq_false_iff_not]
    omega
  have e := filter_beyond (n' := n + 10000) (by omega) hb
  rw [← e]
  have h1 := hz.lo
  have h2 := hz.hi
  exact momS_filter goal z.2 0 z.1 (n + 10000) hz.ris (fun s hs => by have := hz.all s hs; omega) (fun s hs => by have := hz.all s hs; omega) (by omega)
theorem onDay_beyond {z : Z} (hz : ZOk z) (day : Int) {n n' : Nat} (h : day * 24 + 36 ≤ n) (h' : n ≤ n') : onDay z day n' = onDay z day n := by
  unfold onDay
  rw [filter_beyond h' (fun m hm => ?_)]
  have := hz.shown m
  simp only [decide_eq_false_iff_not]
  omega
theorem sum_add {α : Type} (l : List α) (f g : α → Int) : (l.map fun x => f x + g x).sum = (l.map f).sum + (l.map g).sum := by
  induction l with
  | nil => rfl
  | cons x r ih => simp only [List.map_cons, List.sum_cons, ih]; omega
theorem sum_zero {α : Type} (l : List α) : (l.map fun _ => (0 : Int)).sum = 0 := by
  induction l with
  | nil => rfl
  | cons x r ih => simp only [List.map_cons, List.sum_cons, ih]; omega
theorem hit_sum (x c : Int) (lo : Int) (n : Nat) : ((seqI lo n).map fun h => if x = c + h then (1 : Int) else 0).sum = if lo ≤ x - c ∧ x - c < lo + n then 1 else 0 := by
  induction n generalizing lo with
  | zero => rw [if_neg (by omega)]; rfl
  | succ n ih =>
    simp only [seqI, List.map_cons, List.sum_cons, ih]
    by_cases h : x = c + lo
    · rw [if_pos h, if_neg (by omega), if_pos (by omega)]; rfl
    · rw [if_neg h]
      by_cases q : lo + 1 ≤ x - c ∧ x - c < lo + 1 + n
      · rw [if_pos q, if_pos (by omega)]; rfl
      · rw [if_neg q, if_neg (by omega)]; rfl
theorem hours_sum (sh : Int → Int) (day : Int) (l : List Int) : ((seqI 0 24).map fun h => (((l.filter fun m => decide (sh m = day * 24 + h)).length : Nat) : Int)).sum = ((l.filter fun m => decide (sh m / 24 = day)).length : Nat) := by
  induction l with
  | nil => exact sum_zero _
  | cons m r ih =>
    have e : ∀ h : Int, ((((m :: r).filter fun m => decide (sh m = day * 24 + h)).length : Nat) : Int) = (if sh m = day * 24 + h then 1 else 0) + ((r.filter fun m => decide (sh m = day * 24 + h)).length : Nat) := by
      intro h
      rw [List.filter_cons]
      by_cases q : sh m = day * 24 + h
      · rw [if_pos (by simpa using q), if_pos q, List.length_cons]; omega
      · rw [if_neg (by simpa using q), if_neg q]; omega
    rw [List.map_congr_left (fun h _ => e h), sum_add, ih, hit_sum, List.filter_cons]
    by_cases q : sh m / 24 = day
    · rw [if_pos (by omega), if_pos (by simpa using q), List.length_cons]; omega
    · rw [if_neg (by omega), if_neg (by simpa using q)]; omega
theorem toInts_map (l : List Int) : toInts (l.map D.int) = some l := by
  induction l with
  | nil => rfl
  | cons x r ih => show (toInts (r.map D.int)).map _ = _; rw [ih]; rfl
theorem biop_sum (l : List Int) : biop .sum [.lst (l.map D.int)] = some (.int l.sum) := by
  show (toInts (l.map D.int)).map _ = _
  rw [toInts_map]
  rfl
theorem plain_two : ∀ a : Int, -12 ≤ a → a ≤ 14 → onDay (a, []) 2 (2 * 24 + 49) = 24 := by
  have h : ∀ i : Fin 27, onDay ((i.val : Int) - 12, []) 2 (2 * 24 + 49) = 24 := by decide +kernel
  intro a h1 h2
  obtain ⟨k, hk⟩ := Int.eq_ofNat_of_zero_le (show 0 ≤ a + 12 by omega)
  have := h ⟨k, by omega⟩
  rw [show a = ((k : Int) - 12) by omega]
  exact this
theorem plain_zero : ∀ a : Int, -12 ≤ a → a ≤ 14 → (onDay (a, []) 0 (0 * 24 + 49) : Int) = 24 - (if a > 0 then a else 0) := by
  have h : ∀ i : Fin 27, (onDay ((i.val : Int) - 12, []) 0 (0 * 24 + 49) : Int) = 24 - (if (i.val : Int) - 12 > 0 then (i.val : Int) - 12 else 0) := by decide +kernel
  intro a h1 h2
  obtain ⟨k, hk⟩ := Int.eq_ofNat_of_zero_le (show 0 ≤ a + 12 by omega)
  have := h ⟨k, by omega⟩
  rw [show a = ((k : Int) - 12) by omega]
  exact this
end Q
set_option Elab.async false
set_option maxRecDepth 100000
set_option linter.all false
set_option maxHeartbeats 1000000
/-! Plans: what they are, when they are due. -/
namespace Q
open PySem QT
inductive Pl where
  | once (m : Int) | every (b st : Int) | daily (h : Int)
def encP : Pl → D
  | .once m => .tup [.str "once", .int m]
  | .every b st => .tup [.str "every", .int b, .int st]
  | .daily h => .tup [.str "daily", .int h]
def PlOk : Pl → Prop
  | .once m => 0 ≤ m ∧ m ≤ 9999
  | .every b st => 0 ≤ b ∧ b ≤ 9999 ∧ 1 ≤ st ∧ st ≤ 999
  | .daily h => 0 ≤ h ∧ h ≤ 23
/-- .. drawn -/
def PlIn (wide : Int) : Pl → Prop
  | .once m => 0 ≤ m ∧ m < wide
  | .every b st => 0 ≤ b ∧ b < wide ∧ 1 ≤ st ∧ st ≤ 200
  | .daily h => 0 ≤ h ∧ h ≤ 23
theorem PlIn.ok {wide : Int} (w : wide ≤ 10000) : ∀ {p : Pl}, PlIn wide p → PlOk p
  | .once m, h => ⟨h.1, by have := h.2; omega⟩
  | .every b st, h => ⟨h.1, by have := h.2.1; omega, h.2.2.1, by have := h.2.2.2; omega⟩
  | .daily h, q => q
@[simp] theorem eq_oo : cop .eq (.str "once") (.str "once") = some true := by decide +kernel
@[simp] theorem eq_oe : cop .eq (.str "once") (.str "every") = some false := by decide +kernel
@[simp] theorem eq_eo : cop .eq (.str "every") (.str "once") = some false := by decide +kernel
@[simp] theorem eq_ee : cop .eq (.str "every") (.str "every") = some true := by decide +kernel
@[simp] theorem eq_do : cop .eq (.str "daily") (.str "once") = some false := by decide +kernel
@[simp] theorem eq_de : cop .eq (.str "daily") (.str "every") = some false := by decide +kernel
@[simp] theorem eq_dd : cop .eq (.str "daily") (.str "daily") = some true := by decide +kernel
@[simp] theorem isi_strS (x : Str) : isi (.str x) .str = some true := nf rfl
@[simp] theorem atI_two {α : Type} (x y z : α) (xs : List α) : L2.atI (x :: y :: z :: xs) 2 = some z := L2.atI_nat (j := 2) rfl
theorem plan_spec (ns : List Int) (k : Nat) (hk : k + 10 ≤ 100000) {wide : Int} (w1 : 1 ≤ wide) (S : Store) :
    ∃ (p : Pl) (k' : Nat), PlIn wide p ∧ k ≤ k' ∧ k' ≤ k + 5 ∧ f_law_plan [.d (.scr ns), .loc 0, .d (.int wide)] (town k :: S) = .ok (.d (encP p)) (town k' :: S) := by
  obtain ⟨kd, hkd, dk⟩ := draw_ex ns k (by omega) (many := 3) (by omega)
  unfold f_law_plan
  rw [defF3]
  unfold b_law_plan
  by_cases h0 : kd = 0
  · subst h0
    obtain ⟨m, hm, dm⟩ := draw_ex ns (k + 1) (by omega) (many := wide) (by omega)
    refine ⟨.once m, k + 2, ⟨by omega, by omega⟩, by omega, by omega, ?_⟩
    simp only [Int.cast_ofNat_Int] at dk
    simp [dk, dm, fin_rtT0, encP]
  · by_cases h1 : kd = 1
    · subst h1
      obtain ⟨v, hv, pv⟩ := pick_int ns (k + 1) (by omega) [3, 30, 200] (by decide) S
      have hv2 : 1 ≤ v ∧ v ≤ 200 := by
        simp only [List.mem_cons, List.not_mem_nil, or_false] at hv
        omega
      simp only [List.map] at pv
      obtain ⟨st, hst, ds⟩ := draw_ex ns (k + 1 + 1) (by omega) (many := v) (by omega)
      obtain ⟨m, hm, dm⟩ := draw_ex ns (k + 1 + 1 + 1) (by omega) (many := wide) (by omega)
      refine ⟨.every m (1 + st), k + 1 + 1 + 1 + 1, ⟨by omega, by omega, by omega, by omega⟩, by omega, by omega, ?_⟩
      simp only [Int.cast_ofNat_Int] at dk
      simp [dk, pv, ds, dm, fin_rtT0, encP]
    · obtain ⟨m, hm, dm⟩ := draw_ex ns (k + 1) (by omega) (many := 24) (by omega)
      refine ⟨.daily m, k + 2, ⟨by omega, by omega⟩, by omega, by omega, ?_⟩
      have h0' : ¬ (kd : Int) = 0 := by omega
      have h1' : ¬ (kd : Int) = 1 := by omega
      simp [dk, dm, fin_rtT0, encP, h0', h1', h0]
theorem is_plan_spec {p : Pl} (h : PlOk p) (S : Store) : f_is_plan [.d (encP p)] S = .ok (.d (.bl true)) S := by
  unfold f_is_plan
  rw [defF1]
  unfold b_is_plan
  cases p with
  | once m => simp [encP, whole_spec, h.1, h.2]
  | every b st => simp [encP, whole_spec, h.1, h.2.1, h.2.2.1, h.2.2.2]
  | daily m => simp [encP, whole_spec, h.1, h.2]
theorem need_plan_spec {p : Pl} (h : PlOk p) (S : Store) : f_need_plan [.d (encP p)] S = .ok (.d .non) S := by
  unfold f_need_plan
  rw [defF1]
  unfold b_need_plan
  simp [is_plan_spec h]
theorem need_moment_spec {m : Int} (h0 : 0 ≤ m) (h1 : m ≤ 9999) (S : Store) : f_need_moment [.d (.int m)] S = .ok (.d .non) S := by
  unfold f_need_moment
  rw [defF1]
  unfold b_need_moment
  simp [whole_spec, h0, h1]
/-! ### the first moment at which the wall shows so much -/
def firstA (goal : Int) : Int → Int → List (Int × Int) → Int
  | b, a, [] => max b (goal - a)
  | b, a, t :: r => if max b (goal - a) < t.1 then max b (goal - a) else firstA goal t.1 t.2 r
theorem firstA_spec (goal : Int) (r : List (Int × Int)) : ∀ (b a : Int), Rising b r → b ≤ firstA goal b a r ∧ goal ≤ firstA goal b a r + aheadA a r (firstA goal b a r) ∧ ∀ x, b ≤ x → x < firstA goal b a r → x + aheadA a r x < goal := by
  induction r with
  | nil =>
    intro b a _
    show b ≤ max b (goal - a) ∧ goal ≤ max b (goal - a) + a ∧ ∀ x, b ≤ x → x < max b (goal - a) → x + a < goal
    refine ⟨by omega, by omega, fun x h1 h2 => by omega⟩
  | cons t r ih =>
    intro b a h
    have h1 := h.1
    obtain ⟨i1, i2, i3⟩ := ih t.1 t.2 h.2
    have bef : ∀ x, x < t.1 → aheadA a (t :: r) x = a := fun x hx => ahead_before fun s hs => by
      rcases List.mem_cons.mp hs with rfl | hs
      · exact hx
      · have := rising_le h.2 (Int.le_refl _) s hs; omega
    have aft : ∀ x, t.1 ≤ x → aheadA a (t :: r) x = aheadA t.2 r x := fun x hx => by
      show aheadA (if t.1 ≤ x then t.2 else a) r x = _
      rw [if_pos hx]
    unfold firstA
    by_cases c : max b (goal - a) < t.1
    · rw [if_pos c]
      refine ⟨by omega, by rw [bef _ c]; omega, fun x h1 h2 => by rw [bef x (by omega)]; omega⟩
    · rw [if_neg c]
      refine ⟨by omega, by rw [aft _ i1]; exact i2, fun x h1 h2 => ?_⟩
      by_cases q : t.1 ≤ x
      · rw [aft x q]; exact i3 x q h2
      · rw [bef x (by omega)]; omega
def fst (z : Z) (goal : Int) : Int := firstA goal 0 z.1 z.2
theorem fst_spec {z : Z} (h : ZOk z) (goal : Int) : 0 ≤ fst z goal ∧ goal ≤ shown z (fst z goal) ∧ ∀ x, 0 ≤ x → x < fst z goal → shown z x < goal := firstA_spec goal z.2 0 z.1 h.ris
theorem fst_eq {z : Z} (h : ZOk z) {goal m : Int} (h0 : 0 ≤ m) (h1 : goal ≤ shown z m) (h2 : ∀ x, 0 ≤ x → x < m → shown z x < goal) : fst z goal = m := by
  obtain ⟨a, b, c⟩ := fst_spec h goal
  rcases Int.lt_trichotomy (fst z goal) m with q | q | q
  · have := h2 _ a q; omega
  · exact q
  · have := c _ h0 q; omega
theorem fst_mono {z : Z} (h : ZOk z) {g g' : Int} (q : g ≤ g') : fst z g ≤ fst z g' := by
  obtain ⟨a, b, c⟩ := fst_spec h g
  obtain ⟨a', b', c'⟩ := fst_spec h g'
  by_cases k : fst z g' < fst z g
  · have := c _ a' k; omega
  · omega
theorem fst_lo {z : Z} (h : ZOk z) (g : Int) : g - 14 ≤ fst z g := by
  have a := (fst_spec h g).2.1
  have b := h.shown (fst z g)
  omega
theorem fst_hi {z : Z} (h : ZOk z) (g : Int) : fst z g ≤ max 0 (g + 12) := by
  obtain ⟨a, b, c⟩ := fst_spec h g
  by_cases k : max 0 (g + 12) < fst z g
  · have q := c _ (by omega) k
    have s := h.shown (max 0 (g + 12))
    omega
  · omega
def bFst : Sts := .cons (.set 6 (.bi .max (.cons (.var 4) (.cons (.bin .sub (.var 1) (.var 5)) .nil)))) (.cons (.ife (.or (.cons (.cmp .eq (.bin .add (.var 3) (.c (.int 1))) (.bi .len (.cons (.var 2) .nil))) (.cons (.cmp .lt (.var 6) (.ix (.ix (.var 2) (.bin .add (.var 3) (.c (.int 1)))) (.c (.int 0)))) .nil))) (.cons (.ret (.var 6)) .nil) .nil) .nil)
theorem max_eq (i j : Int) : (if j > i then j else i) = max i j := by omega
theorem fst_loop (w0 : Option W) (goal : Int) (S : Store) : ∀ (r pre : List (Int × Int)) (b a : Int) (o3 o4 o5 o6 : Option W),
    forL (.tp [(.nm 3), (.tp [(.nm 4), (.nm 5)])]) (evB bFst) (enumL pre.length (((b, a) :: r).map encS))
      [w0, some (.d (.int goal)), some (.d (.lst ((pre ++ (b, a) :: r).map encS))), o3, o4, o5, o6] S = .rt (.d (.int (firstA goal b a r))) S := by
  intro r
  induction r with
  | nil =>
    intro pre b a o3 o4 o5 o6
    have tg : tgD (.tp [(.nm 3), (.tp [(.nm 4), (.nm 5)])]) (.tup [.int pre.length, encS (b, a)]) [w0, some (.d (.int goal)), some (.d (.lst ((pre ++ [(b, a)]).map encS))), o3, o4, o5, o6] =
      some [w0, some (.d (.int goal)), some (.d (.lst ((pre ++ [(b, a)]).map encS))), some (.d (.int pre.length)), some (.d (.int b)), some (.d (.int a)), o6] := rfl
    rw [List.map_cons, enumL_cons, forL_cons]
    simp only [tg]
    simp [bFst, max_eq, firstA]
  | cons t r ih =>
    intro pre b a o3 o4 o5 o6
    have tg : tgD (.tp [(.nm 3), (.tp [(.nm 4), (.nm 5)])]) (.tup [.int pre.length, encS (b, a)]) [w0, some (.d (.int goal)), some (.d (.lst ((pre ++ (b, a) :: t :: r).map encS))), o3, o4, o5, o6] =
      some [w0, some (.d (.int goal)), some (.d (.lst ((pre ++ (b, a) :: t :: r).map encS))), some (.d (.int pre.length)), some (.d (.int b)), some (.d (.int a)), o6] := rfl
    rw [List.map_cons, enumL_cons, forL_cons]
    simp only [tg]
    have hp : (pre ++ [(b, a)]).length = pre.length + 1 := by simp
    have ha : (pre ++ [(b, a)]) ++ t :: r = pre ++ (b, a) :: t :: r := by simp
    have h := ih (pre ++ [(b, a)]) t.1 t.2 (some (.d (.int pre.length))) (some (.d (.int b))) (some (.d (.int a))) (some (.d (.int (max b (goal - a)))))
    rw [hp, ha] at h
    have hat : L2.atI ((pre ++ (b, a) :: t :: r).map encS) ((pre.length : Int) + 1) = some (encS t) := by
      rw [show (pre.length : Int) + 1 = ((pre.length + 1 : Nat) : Int) by omega]
      refine L2.atI_nat ?_
      simp
    have hne : ¬ ((pre.length : Int) + 1 = (((pre ++ (b, a) :: t :: r).map encS).length : Nat)) := by simp; omega
    have hix : ixop (encS t) (.int 0) = some (.int t.1) := rfl
    by_cases c : max b (goal - a) < t.1
    · simp only [bFst, evB_cons, evS_set, ev_bi, evs_cons, ev_var, lookV_zero, lookV_succ, R.bind_ok, ev_bin, op2_d, bop_sub, ofD_some, evs_nil, biW_two, biop_max, max_eq, flE_ok, andThen_nx, evS_ife, evT_or, evOrT_cons, evOrT_one, evT_cmp, ev_c, bop_add, biW_one, biop_lenL, op2b_d, cop_eqI, ofB_some, asB_bl, hne, decide_false, Bool.false_eq_true, if_false, ev_ix, ixW_d, ixop_L, hat, hix, cop_lt, c, decide_true, if_true, evS_ret, andThen_rt, List.set_cons_succ, List.set_cons_zero, firstA, evB_nil]
    · simp only [bFst, evB_cons, evS_set, ev_bi, evs_cons, ev_var, lookV_zero, lookV_succ, R.bind_ok, ev_bin, op2_d, bop_sub, ofD_some, evs_nil, biW_two, biop_max, max_eq, flE_ok, andThen_nx, evS_ife, evT_or, evOrT_cons, evOrT_one, evT_cmp, ev_c, bop_add, biW_one, biop_lenL, op2b_d, cop_eqI, ofB_some, asB_bl, hne, decide_false, Bool.false_eq_true, if_false, ev_ix, ixW_d, ixop_L, hat, hix, cop_lt, c, evS_ret, List.set_cons_succ, List.set_cons_zero, firstA, evB_nil]
      exact h
theorem first_at_spec {z : Z} (hz : ZOk z) (goal : Int) (S : Store) : f_first_at [.d (encZ z), .d (.int goal)] S = .ok (.d (.int (fst z goal))) S := by
  unfold f_first_at
  rw [defF2]
  unfold b_first_at
  have h := fst_loop (some (.d (encZ z))) goal S z.2 [] 0 z.1 none none none none
  have hl := hz.len
  simp only [List.nil_append, encZ] at h ⊢
  simp
  rw [if_pos (by rw [line_val]; omega)]
  simp only [List.length_nil, List.map_cons, List.map_nil, encS, enumL_cons, Int.cast_ofNat_Int, Nat.zero_add] at h
  unfold bFst at h
  rw [h]
  simp [fst]
end Q
set_option Elab.async false
set_option maxRecDepth 100000
set_option linter.all false
set_option maxHeartbeats 1000000
/-! When plans are due. -/
namespace Q
open PySem QT
def goal0 (z : Z) (h : Int) : Int := (shown z 0 - h + 23) / 24 * 24 + h
def dueN (z : Z) : Pl → Nat → Option Int
  | .once m, k => if k = 0 then some m else none
  | .every b st, k => some (b + k * st)
  | .daily h, k => some (fst z (goal0 z h + 24 * k))
def optD : Option Int → D
  | none => .non
  | some m => .int m
@[simp] theorem biop_intB (b : Bool) : biop .intOf [.bl b] = some (.int (if b then 1 else 0)) := nf rfl
@[simp] theorem biop_intI (i : Int) : biop .intOf [.int i] = some (.int i) := nf rfl
theorem due_at_spec {z : Z} (hz : ZOk z) {p : Pl} (hp : PlOk p) (k : Nat) (S : Store) : f_due_at [.d (encZ z), .d (encP p), .d (.int k)] S = .ok (.d (optD (dueN z p k))) S := by
  unfold f_due_at
  rw [defF3]
  unfold b_due_at
  cases p with
  | once m =>
    by_cases h : k = 0
    · subst h
      simp [encP, dueN, optD]
    · simp [encP, dueN, optD, h]
  | every b st =>
    have s : small st = true := small_lit (by have := hp.2.2.1; omega) (by have := hp.2.2.2; omega)
    simp [encP, dueN, optD, bop_mulR s]
  | daily h =>
    have e : ((shown z 0 - h + 24 - 1) / 24 + (k : Int)) * 24 + h = goal0 z h + 24 * k := by
      unfold goal0
      rw [show shown z 0 - h + 24 - 1 = shown z 0 - h + 23 by omega]
      omega
    simp [encP, dueN, optD, wall_spec, bop_fdiv, bop_mulR, small_lit, e, first_at_spec hz]
theorem goal0_lo (z : Z) (h : Int) : shown z 0 ≤ goal0 z h := by unfold goal0; omega
theorem goal0_hi (z : Z) (h : Int) : goal0 z h ≤ shown z 0 + 23 := by unfold goal0; omega
theorem goal0_mod (z : Z) (h : Int) : ∃ q : Int, goal0 z h = q * 24 + h := ⟨_, rfl⟩
theorem goal0_eq {z : Z} {h g q : Int} (e : g = q * 24 + h) (lo : shown z 0 ≤ g) (hi : g ≤ shown z 0 + 23) : g = goal0 z h := by
  unfold goal0; omega
/-- so many of the times are due by a last moment -/
def Upto (f : Nat → Option Int) (last : Int) (n : Nat) : Prop := (∀ j : Nat, j < n → ∃ m, f j = some m ∧ m ≤ last) ∧ (f n = none ∨ ∃ m, f n = some m ∧ last < m)
theorem Upto.uniq {f : Nat → Option Int} {last : Int} {n n' : Nat} (h : Upto f last n) (h' : Upto f last n') : n = n' := by
  rcases Nat.lt_trichotomy n n' with q | q | q
  · obtain ⟨m, e, l⟩ := h'.1 n q
    rcases h.2 with k | ⟨m', e', l'⟩
    · rw [k] at e; cases e
    · rw [e] at e'; cases e'; omega
  · exact q
  · obtain ⟨m, e, l⟩ := h.1 n' q
    rcases h'.2 with k | ⟨m', e', l'⟩
    · rw [k] at e; cases e
    · rw [e] at e'; cases e'; omega
def dv (z : Z) (p : Pl) (k : Nat) : Int := (dueN z p k).getD 0
/-! ### gaps -/
noncomputable def bGap : Sts := .cons (.par 5 6 (.call "due_at" f_due_at (.cons (.var 0) (.cons (.var 1) (.cons (.var 4) .nil)))) (.call "due_at" f_due_at (.cons (.var 0) (.cons (.var 1) (.cons (.bin .add (.var 4) (.c (.int 1))) .nil))))) (.cons (.ife (.cmp .is (.var 6) (.c .non)) (.cons (.ret (.frz (.var 3))) .nil) .nil) (.cons (.ex (.app (.var 3) (.bin .sub (.var 6) (.var 5)))) .nil))
theorem gap_loop {z : Z} (hz : ZOk z) {p : Pl} (hp : PlOk p) (w2 : Option W) (S : Store) (g : Nat → Int) (hg : ∀ k, dueN z p k = some (g k)) : ∀ (l : List Nat) (out : List Int) (o4 o5 o6 : Option W), out.length + l.length ≤ 100000 →
    ∃ (o4' o5' o6' : Option W), forL (.nm 4) (evB bGap) (l.map fun i => D.int ((i : Nat) : Int)) [some (.d (encZ z)), some (.d (encP p)), w2, some (.loc S.length), o4, o5, o6] (S ++ [.lst (out.map D.int)]) =
      .nx [some (.d (encZ z)), some (.d (encP p)), w2, some (.loc S.length), o4', o5', o6'] (S ++ [.lst ((out ++ l.map fun k => g (k + 1) - g k).map D.int)]) := by
  intro l
  induction l with
  | nil => intro out o4 o5 o6 _; exact ⟨o4, o5, o6, by simp⟩
  | cons k r ih =>
    intro out o4 o5 o6 hl
    simp only [List.length_cons] at hl
    obtain ⟨q4, q5, q6, h⟩ := ih (out ++ [g (k + 1) - g k]) (some (.d (.int k))) (some (.d (.int (g k)))) (some (.d (.int (g (k + 1))))) (by simp only [List.length_append, List.length_cons, List.length_nil]; omega)
    refine ⟨q4, q5, q6, ?_⟩
    have d1 := due_at_spec hz hp k (S ++ [.lst (out.map D.int)])
    have d2 := due_at_spec hz hp (k + 1) (S ++ [.lst (out.map D.int)])
    rw [hg] at d1 d2
    simp only [Int.natCast_add, Int.cast_ofNat_Int, optD] at d1 d2
    rw [List.map_cons, forL_cons]
    simp [bGap, d1, d2]
    rw [appW_new _ _ _ (by simp; rw [line_val]; omega)]
    simp only [List.map_append, List.map_cons, List.map_nil] at h
    simp
    refine Eq.trans h ?_
    simp
theorem rngL_nat (n : Nat) : rngL 0 n = (List.range n).map fun i => D.int ((i : Nat) : Int) := by
  unfold rngL
  apply List.map_congr_left
  intro i _
  rw [Int.zero_add]
theorem gaps_fun {z : Z} (hz : ZOk z) {p : Pl} (hp : PlOk p) (g : Nat → Int) (hg : ∀ k, dueN z p k = some (g k)) (many : Nat) (hm : many ≤ 999) (S : Store) :
    f_gaps [.d (encZ z), .d (encP p), .d (.int many)] S = .ok (.d (.lst (((List.range many).map fun k => g (k + 1) - g k).map D.int))) S := by
  unfold f_gaps
  rw [defF3]
  unfold b_gaps
  obtain ⟨q4, q5, q6, h⟩ := gap_loop hz hp (some (.d (.int many))) S g hg (List.range many) [] none none none (by simp; omega)
  have hm' : (many : Int) ≤ 999 := by omega
  simp [need_zone_spec hz, need_plan_spec hp, whole_spec, hm']
  rw [itR1_int (by omega) (by omega), Int.toNat_natCast, rngL_nat]
  unfold bGap at h
  simp only [List.map_nil] at h
  simp
  rw [h]
  simp
theorem gaps_once {z : Z} (hz : ZOk z) {m : Int} (hp : PlOk (.once m)) (many : Nat) (hm : many ≤ 999) (S : Store) :
    f_gaps [.d (encZ z), .d (encP (.once m)), .d (.int many)] S = .ok (.d (.lst [])) S := by
  unfold f_gaps
  rw [defF3]
  unfold b_gaps
  have hm' : (many : Int) ≤ 999 := by omega
  simp [need_zone_spec hz, need_plan_spec hp, whole_spec, hm']
  rw [itR1_int (by omega) (by omega), Int.toNat_natCast, rngL_nat]
  have d1 := due_at_spec hz hp 0 (S ++ [.lst []])
  have d2 := due_at_spec hz hp 1 (S ++ [.lst []])
  simp only [dueN, Int.cast_ofNat_Int, optD, if_true, if_neg (show ¬ (1 = 0) by decide)] at d1 d2
  cases many with
  | zero => simp
  | succ n =>
    rw [List.range_succ_eq_map, List.map_cons]
    simp
    rw [forL_cons]
    simp [d1, d2]
theorem due_spec {z : Z} (hz : ZOk z) {p : Pl} (hp : PlOk p) (k : Nat) (hk : k ≤ 9999) (S : Store) : f_due [.d (encZ z), .d (encP p), .d (.int k)] S = .ok (.d (optD (dueN z p k))) S := by
  unfold f_due
  rw [defF3]
  unfold b_due
  have hk' : (k : Int) ≤ 9999 := by omega
  simp [need_zone_spec hz, need_plan_spec hp, whole_spec, hk', due_at_spec hz hp]
end Q
set_option Elab.async false
set_option maxRecDepth 100000
set_option linter.all false
set_option maxHeartbeats 1000000
/-! The law's own times. -/
namespace Q
open PySem QT
theorem whileL_stop {c : Env → Store → R Bool} {body : Env → Store → Fl} {n : Nat} {ρ : Env} {S S1 : Store} (hn : 0 < n) (hc : c ρ S = .ok false S1) : whileL c body n ρ S = .nx ρ S1 := by
  cases n with
  | zero => omega
  | succ n =>
    rw [whileL, hc]
    rfl
theorem whileL_step {c : Env → Store → R Bool} {body : Env → Store → Fl} {n : Nat} {ρ ρ2 : Env} {S S1 S2 : Store} (hn : 0 < n) (hc : c ρ S = .ok true S1) (hb : body ρ S1 = .nx ρ2 S2) : whileL c body n ρ S = whileL c body (n - 1) ρ2 S2 := by
  cases n with
  | zero => omega
  | succ n =>
    rw [whileL, hc]
    show ((if true = true then (body ρ S1).andThen (fun ρ2 S2 => whileL c body n ρ2 S2) else .nx ρ S1) : Fl) = _
    rw [if_pos rfl, hb]
    rfl
noncomputable def cUp : E := .cmp .lt (.var 3) (.call "_law_shown" f_law_shown (.cons (.var 0) (.cons (.c (.int 0)) .nil)))
def bUp : Sts := .cons (.set 3 (.bin .add (.var 3) (.c (.int 24)))) .nil
noncomputable def cDn : E := .cmp .ge (.bin .sub (.var 3) (.c (.int 24))) (.call "_law_shown" f_law_shown (.cons (.var 0) (.cons (.c (.int 0)) .nil)))
def bDn : Sts := .cons (.set 3 (.bin .sub (.var 3) (.c (.int 24)))) .nil
theorem up_loop (z : Z) (g : Int) (hg : shown z 0 ≤ g + 24) (o1 o2 o4 o5 : Option W) (S : Store) (n : Nat) (hn : 2 ≤ n) :
    whileL (evT cUp) (evB bUp) n [some (.d (encZ z)), o1, o2, some (.d (.int g)), o4, o5] S = .nx [some (.d (encZ z)), o1, o2, some (.d (.int (if g < shown z 0 then g + 24 else g))), o4, o5] S := by
  by_cases c : g < shown z 0
  · rw [if_pos c, whileL_step (S1 := S) (ρ2 := [some (.d (encZ z)), o1, o2, some (.d (.int (g + 24))), o4, o5]) (S2 := S) (by omega) (by simp [cUp, law_shown_spec, c]) (by simp [bUp])]
    rw [whileL_stop (S1 := S) (by omega) (by simp [cUp, law_shown_spec]; omega)]
  · rw [if_neg c, whileL_stop (S1 := S) (by omega) (by simp [cUp, law_shown_spec, c])]
theorem dn_loop (z : Z) (g : Int) (hg : g - 48 < shown z 0) (o1 o2 o4 o5 : Option W) (S : Store) (n : Nat) (hn : 2 ≤ n) :
    whileL (evT cDn) (evB bDn) n [some (.d (encZ z)), o1, o2, some (.d (.int g)), o4, o5] S = .nx [some (.d (encZ z)), o1, o2, some (.d (.int (if shown z 0 ≤ g - 24 then g - 24 else g))), o4, o5] S := by
  by_cases c : shown z 0 ≤ g - 24
  · rw [if_pos c, whileL_step (S1 := S) (ρ2 := [some (.d (encZ z)), o1, o2, some (.d (.int (g - 24))), o4, o5]) (S2 := S) (by omega) (by simp [cDn, law_shown_spec, c]) (by simp [bDn])]
    rw [whileL_stop (S1 := S) (by omega) (by simp [cDn, law_shown_spec]; omega)]
  · rw [if_neg c, whileL_stop (S1 := S) (by omega) (by simp [cDn, law_shown_spec, c])]
noncomputable def cIn : E := .cmp .le (.var 3) (.call "_law_shown" f_law_shown (.cons (.var 0) (.cons (.var 5) .nil)))
def bIn : Sts := .cons (.ex (.app (.var 4) (.var 5))) (.cons (.set 3 (.bin .add (.var 3) (.c (.int 24)))) .nil)
/-- the times that fall on one moment -/
theorem in_loop {z : Z} (hz : ZOk z) (g : Int) (m : Int) (m0 : 0 ≤ m) (o1 o2 : Option W) (S : Store) : ∀ (d k n : Nat), shown z m < g + 24 * k + 24 * d → d < n → k + d < 100000 → (∀ x, 0 ≤ x → x < m → shown z x < g + 24 * k) →
    ∃ k', k ≤ k' ∧ k' ≤ k + d ∧ shown z m < g + 24 * k' ∧ (∀ j, k ≤ j → j < k' → fst z (g + 24 * j) = m) ∧
      whileL (evT cIn) (evB bIn) n [some (.d (encZ z)), o1, o2, some (.d (.int (g + 24 * k))), some (.loc S.length), some (.d (.int m))] (S ++ [.lst (((List.range k).map fun (j : Nat) => fst z (g + 24 * j)).map D.int)]) =
        .nx [some (.d (encZ z)), o1, o2, some (.d (.int (g + 24 * k'))), some (.loc S.length), some (.d (.int m))] (S ++ [.lst (((List.range k').map fun (j : Nat) => fst z (g + 24 * j)).map D.int)]) := by
  intro d
  induction d with
  | zero =>
    intro k n h1 h2 _ h3
    refine ⟨k, Nat.le_refl _, Nat.le_refl _, by omega, fun j _ _ => by omega, ?_⟩
    exact whileL_stop h2 (by simp [cIn, law_shown_spec]; omega)
  | succ d ih =>
    intro k n h1 h2 hk h3
    by_cases c : g + 24 * k ≤ shown z m
    · have hf : fst z (g + 24 * k) = m := fst_eq hz m0 c h3
      obtain ⟨k', a1, a2, a3, a4, a5⟩ := ih (k + 1) (n - 1) (by omega) (by omega) (by omega) (fun x x0 x1 => by have := h3 x x0 x1; omega)
      refine ⟨k', by omega, by omega, a3, fun j j1 j2 => ?_, ?_⟩
      · by_cases q : j = k
        · subst q; exact hf
        · exact a4 j (by omega) j2
      · rw [whileL_step (ρ2 := [some (.d (encZ z)), o1, o2, some (.d (.int (g + 24 * (k + 1 : Nat)))), some (.loc S.length), some (.d (.int m))])
          (S1 := S ++ [.lst (((List.range k).map fun (j : Nat) => fst z (g + 24 * j)).map D.int)])
          (S2 := S ++ [.lst (((List.range (k + 1)).map fun (j : Nat) => fst z (g + 24 * j)).map D.int)]) (by omega) (by simp [cIn, law_shown_spec, c]) ?_]
        · exact a5
        · simp only [bIn, evB_cons, evS_ex, ev_app, ev_var, lookV_zero, lookV_succ, R.bind_ok, recvL_new]
          rw [appW_new _ _ _ (by simp only [List.length_map, List.length_range]; rw [line_val]; omega)]
          have e : g + 24 * (k : Int) + 24 = g + 24 * ((k + 1 : Nat) : Int) := by omega
          simp [List.range_succ, hf, e]
    · refine ⟨k, Nat.le_refl _, by omega, by omega, fun j _ _ => by omega, ?_⟩
      exact whileL_stop (by omega) (by simp [cIn, law_shown_spec]; omega)
noncomputable def bDay : Sts := .cons (.whl 1000000 cIn bIn) .nil
theorem day_loop {z : Z} (hz : ZOk z) (g : Int) (hg : -12 ≤ g) (o1 o2 : Option W) (S : Store) : ∀ (n : Nat) (m k : Nat) (o5 : Option W), m + n ≤ 20000 → k ≤ 2000 → (∀ x : Int, 0 ≤ x → x < m → shown z x < g + 24 * k) → (∀ j : Nat, j < k → fst z (g + 24 * j) < m) →
    ∃ (k' : Nat) (o5' : Option W), k' ≤ 2000 ∧ (∀ x : Int, 0 ≤ x → x < m + n → shown z x < g + 24 * k') ∧ (∀ j : Nat, j < k' → fst z (g + 24 * j) < m + n) ∧
      forL (.nm 5) (evB bDay) ((seqI m n).map D.int) [some (.d (encZ z)), o1, o2, some (.d (.int (g + 24 * k))), some (.loc S.length), o5] (S ++ [.lst (((List.range k).map fun (j : Nat) => fst z (g + 24 * j)).map D.int)]) =
        .nx [some (.d (encZ z)), o1, o2, some (.d (.int (g + 24 * k'))), some (.loc S.length), o5'] (S ++ [.lst (((List.range k').map fun (j : Nat) => fst z (g + 24 * j)).map D.int)]) := by
  intro n
  induction n with
  | zero => intro m k o5 _ hk h1 h2; exact ⟨k, o5, hk, by simpa using h1, by simpa using h2, rfl⟩
  | succ n ih =>
    intro m k o5 hm hk h1 h2
    have hs := hz.shown m
    obtain ⟨k', a1, a2, a3, a4, a5⟩ := in_loop hz g m (by omega) o1 o2 S ((shown z m - g).toNat + 1) k 1000000 (by omega) (by omega) (by omega) h1
    have k'l : k' ≤ 2000 := by
      by_cases q : k' = k
      · omega
      · have e := a4 (k' - 1) (by omega) (by omega)
        have f := (fst_spec hz (g + 24 * ((k' - 1 : Nat) : Int))).2.1
        rw [e] at f
        omega
    obtain ⟨k2, o', b1, b2, b3, b4⟩ := ih (m + 1) k' (some (.d (.int m))) (by omega) k'l (fun x x0 x1 => by
      by_cases q : x < m
      · have := h1 x x0 q; omega
      · have : x = m := by omega
        subst this; exact a3) (fun j hj => by
      by_cases q : j < k
      · have := h2 j q; omega
      · have := a4 j (by omega) hj; omega)
    refine ⟨k2, o', b1, fun x x0 x1 => b2 x x0 (by omega), fun j hj => by have := b3 j hj; omega, ?_⟩
    show forL (.nm 5) (evB bDay) (D.int m :: (seqI ((m : Int) + 1) n).map D.int) _ _ = _
    rw [forL_cons]
    simp only [tgD_nm, List.set_cons_succ, List.set_cons_zero]
    have e : evB bDay [some (.d (encZ z)), o1, o2, some (.d (.int (g + 24 * k))), some (.loc S.length), some (.d (.int m))] (S ++ [.lst (((List.range k).map fun (j : Nat) => fst z (g + 24 * j)).map D.int)]) = .nx [some (.d (encZ z)), o1, o2, some (.d (.int (g + 24 * k'))), some (.loc S.length), some (.d (.int m))] (S ++ [.lst (((List.range k').map fun (j : Nat) => fst z (g + 24 * j)).map D.int)]) := by
      unfold bDay
      rw [evB_cons, evS_whl, a5]
      rfl
    rw [e]
    exact b4
theorem itR1_nat (j : Nat) (h : j < 2 ^ 62) (S : Store) : itR1 (.d (.int j)) S = .ok ((seqI 0 j).map D.int) S := by
  rw [itR1_int (by omega) (by omega), Int.toNat_natCast, rngL_seqI]
theorem times_daily {z : Z} (hz : ZOk z) {h : Int} (hp : PlOk (.daily h)) (last : Nat) (hl : last ≤ 19000) (S : Store) :
    ∃ n, Upto (dueN z (.daily h)) last n ∧ f_law_times [.d (encZ z), .d (encP (.daily h)), .d (.int last)] S = .ok (.d (.lst (((List.range n).map fun k => dv z (.daily h) k).map D.int))) S := by
  have s0 := hz.shown 0
  have lo := goal0_lo z h
  have hp1 := hp.1
  have hp2 := hp.2
  obtain ⟨k', o', a1, a2, a3, a4⟩ := day_loop hz (goal0 z h) (by omega) (some (.d (encP (.daily h)))) (some (.d (.int last))) S (last + 1) 0 0 none (by omega) (by omega) (fun x x0 x1 => by omega) (fun j hj => by omega)
  refine ⟨k', ⟨fun j hj => ⟨_, rfl, by have := a3 j hj; omega⟩, .inr ⟨_, rfl, ?_⟩⟩, ?_⟩
  · obtain ⟨f1, f2, f3⟩ := fst_spec hz (goal0 z h + 24 * k')
    refine Classical.byContradiction fun q => ?_
    have := a2 _ f1 (by omega)
    omega
  · have g1 : (if (if h < shown z 0 then h + 24 else h) - 24 ≥ shown z 0 then (if h < shown z 0 then h + 24 else h) - 24 else (if h < shown z 0 then h + 24 else h)) = goal0 z h := by
      by_cases c1 : h < shown z 0
      · rw [if_pos c1, if_neg (by omega)]
        exact goal0_eq (q := 1) (by omega) (by omega) (by omega)
      · rw [if_neg c1]
        by_cases c2 : h - 24 ≥ shown z 0
        · rw [if_pos c2]; exact goal0_eq (q := -1) (by omega) (by omega) (by omega)
        · rw [if_neg c2]; exact goal0_eq (q := 0) (by omega) (by omega) (by omega)
    unfold f_law_times
    rw [defF3]
    unfold b_law_times
    have u := up_loop z h (by omega) (some (.d (encP (.daily h)))) (some (.d (.int last))) none none S 1000000 (by omega)
    have dl := dn_loop z (if h < shown z 0 then h + 24 else h) (by split <;> omega) (some (.d (encP (.daily h)))) (some (.d (.int last))) none none S 1000000 (by omega)
    simp only [ge_iff_le] at g1
    rw [g1] at dl
    have it := itR1_nat (last + 1) (by omega) (S ++ [.lst []])
    simp only [Int.natCast_add, Int.cast_ofNat_Int] at it
    simp only [cUp, bUp, cDn, bDn, encP] at u dl
    simp only [bDay, cIn, bIn, encP, List.range_zero, List.map_nil, Int.cast_ofNat_Int, Int.mul_zero, Int.add_zero] at a4
    simp [encP, u, dl, it]
    rw [a4]
    simp [dv, dueN]
end Q
set_option Elab.async false
set_option maxRecDepth 100000
set_option linter.all false
set_option maxHeartbeats 1000000
/-! All plans' times; dues. -/
namespace Q
open PySem QT
theorem lrgW_int {i j c : Int} (hi : -(2 ^ 62) ≤ i) (hi2 : i < 2 ^ 62) (hj : -(2 ^ 62) ≤ j) (hj2 : j < 2 ^ 62) (h1 : 1 ≤ c) (h2 : c ≤ 1000000) (h3 : rgN i j c ≤ sizeLine) (S : Store) : lrgW (.d (.int i)) (.d (.int j)) (.d (.int c)) S = .ok (.d (.lst (rngC i c (rgN i j c)))) S := by
  have a : fits i = true := by unfold fits; simp only [Bool.and_eq_true, decide_eq_true_eq]; exact ⟨hi, hi2⟩
  have b : fits j = true := by unfold fits; simp only [Bool.and_eq_true, decide_eq_true_eq]; exact ⟨hj, hj2⟩
  show (if (fits i && fits j && decide (1 ≤ c) && decide (c ≤ 1000000) && decide (rgN i j c ≤ sizeLine)) = true then _ else _) = _
  rw [if_pos (by simp [a, b, h1, h2, h3])]
@[simp] theorem ev_lrg1 (a : E) (ρ : Env) (S : Store) : ev (.lrg1 a) ρ S = (ev a ρ S).bind fun x S1 => lrgW (.d (.int 0)) x (.d (.int 1)) S1 := nf rfl
@[simp] theorem ev_lrg3 (a b c : E) (ρ : Env) (S : Store) : ev (.lrg3 a b c) ρ S = (ev a ρ S).bind fun x S1 => (ev b ρ S1).bind fun y S2 => (ev c ρ S2).bind fun z S3 => lrgW x y z S3 := nf rfl
theorem upto_every {b st : Int} (h1 : 1 ≤ st) (last : Int) : Upto (fun k => some (b + k * st)) last (rgN b (last + 1) st) := by
  unfold rgN
  by_cases c : b < last + 1
  · rw [if_pos c]
    have e : last + 1 - b - 1 = last - b := by omega
    rw [e]
    have q0 := Int.ediv_nonneg (show 0 ≤ last - b by omega) (show 0 ≤ st by omega)
    refine ⟨fun j hj => ⟨_, rfl, ?_⟩, .inr ⟨_, rfl, ?_⟩⟩
    · have h2 : (j : Int) ≤ (last - b) / st := by omega
      have h3 := Int.mul_le_mul_of_nonneg_right h2 (show 0 ≤ st by omega)
      have h4 := Int.ediv_mul_le (last - b) (show st ≠ 0 by omega)
      omega
    · have h4 := Int.lt_ediv_add_one_mul_self (last - b) (show 0 < st by omega)
      have h5 : ((((last - b) / st).toNat + 1 : Nat) : Int) = (last - b) / st + 1 := by omega
      rw [h5]
      omega
  · rw [if_neg c]
    refine ⟨fun j hj => by omega, .inr ⟨_, rfl, ?_⟩⟩
    simp
    omega
theorem upto_le {z : Z} (hz : ZOk z) {p : Pl} (hp : PlOk p) {last : Int} (hl : 0 ≤ last) {n : Nat} (h : Upto (dueN z p) last n) : (n : Int) ≤ last + 2 := by
  by_cases h0 : n = 0
  · omega
  · obtain ⟨m, e, l⟩ := h.1 (n - 1) (by omega)
    cases p with
    | once x =>
      simp only [dueN] at e
      split at e
      · omega
      · cases e
    | every b st =>
      simp only [dueN, Option.some.injEq] at e
      have h1 := hp.1
      have h2 := Int.mul_le_mul_of_nonneg_left hp.2.2.1 (show (0 : Int) ≤ ((n - 1 : Nat) : Int) by omega)
      omega
    | daily x =>
      simp only [dueN, Option.some.injEq] at e
      have h1 := fst_lo hz (goal0 z x + 24 * ((n - 1 : Nat) : Int))
      have h2 := goal0_lo z x
      have h3 := hz.shown 0
      omega
theorem upto_ex {z : Z} (hz : ZOk z) {p : Pl} (hp : PlOk p) {last : Nat} (hl : last ≤ 19000) : ∃ n, Upto (dueN z p) last n := by
  cases p with
  | once x =>
    by_cases c : x ≤ last
    · exact ⟨1, fun j hj => ⟨x, by simp [dueN]; omega, c⟩, .inl (by simp [dueN])⟩
    · exact ⟨0, fun j hj => by omega, .inr ⟨x, by simp [dueN], by omega⟩⟩
  | every b st => exact ⟨_, upto_every hp.2.2.1 last⟩
  | daily h =>
    obtain ⟨n, h1, _⟩ := times_daily hz hp last hl []
    exact ⟨n, h1⟩
theorem times_spec {z : Z} (hz : ZOk z) {p : Pl} (hp : PlOk p) {last n : Nat} (hl : last ≤ 19000) (hn : Upto (dueN z p) last n) (S : Store) :
    f_law_times [.d (encZ z), .d (encP p), .d (.int last)] S = .ok (.d (.lst (((List.range n).map fun k => dv z p k).map D.int))) S := by
  cases p with
  | daily h =>
    obtain ⟨n', h1, h2⟩ := times_daily hz hp last hl S
    rw [hn.uniq h1]
    exact h2
  | once x =>
    unfold f_law_times
    rw [defF3]
    unfold b_law_times
    by_cases c : x ≤ last
    · have : n = 1 := hn.uniq ⟨fun j hj => ⟨x, by simp [dueN]; omega, c⟩, .inl (by simp [dueN])⟩
      subst this
      simp [encP, c, dv, dueN]
    · have : n = 0 := hn.uniq ⟨fun j hj => by omega, .inr ⟨x, by simp [dueN], by omega⟩⟩
      subst this
      simp [encP, c]
  | every b st =>
    have e := hn.uniq (upto_every hp.2.2.1 last)
    unfold f_law_times
    rw [defF3]
    unfold b_law_times
    have hn2 := upto_le hz hp (show (0 : Int) ≤ last by omega) hn
    have h1 := hp.1
    have h2 := hp.2.1
    have h3 := hp.2.2.1
    have h4 := hp.2.2.2
    simp [encP]
    rw [lrgW_int (by omega) (by omega) (by omega) (by omega) h3 (by omega) (by rw [← e, line_val]; omega), ← e]
    simp [rngC, dv, dueN]
/-! ### dues -/
def encR (r : Nat × Int) : D := .tup [.int r.1, .int r.2]
def rowsF (z : Z) (p : Pl) (first : Int) (n : Nat) : List (Nat × Int) := ((List.range n).map fun k => (k, dv z p k)).filter fun r => decide (first ≤ r.2)
theorem rowsF_succ (z : Z) (p : Pl) (first : Int) (n : Nat) : rowsF z p first (n + 1) = rowsF z p first n ++ if first ≤ dv z p n then [(n, dv z p n)] else [] := by
  unfold rowsF
  rw [List.range_succ, List.map_append, List.filter_append]
  congr 1
  by_cases c : first ≤ dv z p n <;> simp [c]
theorem rowsF_len (z : Z) (p : Pl) (first : Int) (n : Nat) : (rowsF z p first n).length ≤ n := by
  unfold rowsF
  refine Nat.le_trans (List.length_filter_le _ _) ?_
  simp
@[simp] theorem optD_some (m : Int) : optD (some m) = .int m := nf rfl
@[simp] theorem optD_none : optD none = .non := nf rfl
def cDue : E := .and (.cons (.cmp .isnot (.var 6) (.c .non)) (.cons (.cmp .le (.var 6) (.var 3)) .nil))
noncomputable def bDue : Sts := .cons (.ife (.cmp .ge (.var 6) (.var 2)) (.cons (.ex (.app (.var 4) (.tup (.cons (.var 5) (.cons (.var 6) .nil))))) .nil) .nil) (.cons (.set 5 (.bin .add (.var 5) (.c (.int 1)))) (.cons (.set 6 (.call "due_at" f_due_at (.cons (.var 0) (.cons (.var 1) (.cons (.var 5) .nil))))) .nil))
theorem due_loop {z : Z} (hz : ZOk z) {p : Pl} (hp : PlOk p) (first last : Int) (S : Store) {n : Nat} (hn : Upto (dueN z p) last n) (hn2 : n ≤ 100000) : ∀ (d k f : Nat), k + d = n → d < f →
    whileL (evT cDue) (evB bDue) f [some (.d (encZ z)), some (.d (encP p)), some (.d (.int first)), some (.d (.int last)), some (.loc S.length), some (.d (.int k)), some (.d (optD (dueN z p k)))] (S ++ [.lst ((rowsF z p first k).map encR)]) =
      .nx [some (.d (encZ z)), some (.d (encP p)), some (.d (.int first)), some (.d (.int last)), some (.loc S.length), some (.d (.int n)), some (.d (optD (dueN z p n)))] (S ++ [.lst ((rowsF z p first n).map encR)]) := by
  intro d
  induction d with
  | zero =>
    intro k f hk hf
    have : k = n := by omega
    subst this
    refine whileL_stop hf ?_
    rcases hn.2 with e | ⟨m, e, l⟩
    · rw [e]; simp [cDue]
    · rw [e]
      have : ¬ m ≤ last := by omega
      simp [cDue, this]
  | succ d ih =>
    intro k f hk hf
    obtain ⟨m, e, l⟩ := hn.1 k (by omega)
    have hd : dv z p k = m := by unfold dv; rw [e]; rfl
    have da := due_at_spec hz hp (k + 1)
    simp only [Int.natCast_add, Int.cast_ofNat_Int] at da
    have next := ih (k + 1) (f - 1) (by omega) (by omega)
    have rl := rowsF_len z p first k
    rw [whileL_step (S1 := S ++ [.lst ((rowsF z p first k).map encR)])
      (ρ2 := [some (.d (encZ z)), some (.d (encP p)), some (.d (.int first)), some (.d (.int last)), some (.loc S.length), some (.d (.int (k + 1 : Nat))), some (.d (optD (dueN z p (k + 1))))])
      (S2 := S ++ [.lst ((rowsF z p first (k + 1)).map encR)]) (by omega) (by rw [e]; simp [cDue, l]) ?_]
    · exact next
    · rw [rowsF_succ, hd, e]
      by_cases c : first ≤ m
      · simp [bDue, c]
        rw [appW_new _ _ _ (by simp; rw [line_val]; omega)]
        simp [da, encR]
      · simp [bDue, c, da]
theorem dues_spec {z : Z} (hz : ZOk z) {p : Pl} (hp : PlOk p) {first last : Int} (f0 : 0 ≤ first) (f1 : first ≤ 9999) (l0 : 0 ≤ last) (l1 : last ≤ 9999) {n : Nat} (hn : Upto (dueN z p) last n) (S : Store) :
    f_dues [.d (encZ z), .d (encP p), .d (.int first), .d (.int last)] S = .ok (.d (.lst ((rowsF z p first n).map encR))) S := by
  unfold f_dues
  rw [defF4]
  unfold b_dues
  have hn2 := upto_le hz hp l0 hn
  have h := due_loop hz hp first last S hn (by omega) n 0 1000000 (by omega) (by omega)
  have da := due_at_spec hz hp 0
  simp only [Int.cast_ofNat_Int] at da h
  have r0 : rowsF z p first 0 = [] := rfl
  rw [r0] at h
  simp only [cDue, bDue, List.map_nil] at h
  simp [need_zone_spec hz, need_plan_spec hp, need_moment_spec f0 f1, need_moment_spec l0 l1, da]
  rw [h]
  simp
end Q
set_option Elab.async false
set_option maxRecDepth 100000
set_option linter.all false
set_option maxHeartbeats 1000000
/-! Equality of what is laid out. -/
namespace Q
open PySem QT
def EqEnc {α : Type} [DecidableEq α] (enc : α → D) : Prop := ∀ a b, PyData.eqv (toPy (enc a)) (toPy (enc b)) = decide (a = b)
def OkEnc {α : Type} (n : Nat) (enc : α → D) : Prop := ∀ a, okd n (enc a) = true
theorem okds_map {α : Type} {n : Nat} {enc : α → D} (h : OkEnc n enc) : ∀ l : List α, okds n (l.map enc) = true
  | [] => by cases n <;> rfl
  | a :: l => by
    rw [List.map_cons, okds, h a, okds_map h l]
    rfl
theorem eqvAll_map {α : Type} [DecidableEq α] {enc : α → D} (h : EqEnc enc) : ∀ l l' : List α, PyData.eqvAll (toPys (l.map enc)) (toPys (l'.map enc)) = decide (l = l')
  | [], [] => by simp [toPys, PyData.eqvAll]
  | [], b :: l' => by simp [toPys, PyData.eqvAll]
  | a :: l, [] => by simp [toPys, PyData.eqvAll]
  | a :: l, b :: l' => by
    simp only [List.map_cons, toPys, PyData.eqvAll]
    rw [h a b, eqvAll_map h l l']
    by_cases q : a = b <;> simp [q]
theorem eq_val {α : Type} [DecidableEq α] {enc : α → D} (h : EqEnc enc) (k : OkEnc 9 enc) (a b : α) : cop .eq (enc a) (enc b) = some (decide (a = b)) := by
  show (if (okd 9 (enc a) && okd 9 (enc b)) = true then _ else _) = _
  rw [k a, k b, if_pos (show (true && true) = true from rfl), h a b]
theorem ne_val {α : Type} [DecidableEq α] {enc : α → D} (h : EqEnc enc) (k : OkEnc 9 enc) (a b : α) : cop .ne (enc a) (enc b) = some (!decide (a = b)) := by
  show (cop .eq (enc a) (enc b)).map (!·) = _
  rw [eq_val h k]
  rfl
def encL {α : Type} (enc : α → D) (l : List α) : D := .lst (l.map enc)
theorem EqEnc.lst {α : Type} [DecidableEq α] {enc : α → D} (h : EqEnc enc) : EqEnc (encL enc) := fun a b => by
  show PyData.eqv (.list (toPys (a.map enc))) (.list (toPys (b.map enc))) = _
  rw [← eqvAll_map h a b]
  simp [PyData.eqv]
theorem OkEnc.lst {α : Type} {n : Nat} {enc : α → D} (h : OkEnc n enc) : OkEnc (n + 1) (encL enc) := fun a => by
  show okds n (a.map enc) = true
  exact okds_map h a
theorem eq_int : EqEnc D.int := fun a b => by
  simp only [toPy, PyData.eqv]
  rfl
theorem ok_int (n : Nat) : OkEnc n D.int := fun a => by cases n <;> rfl
theorem eq_ints (l l' : List Int) : cop .eq (.lst (l.map D.int)) (.lst (l'.map D.int)) = some (decide (l = l')) := eq_val eq_int.lst (ok_int 8).lst l l'
theorem ne_ints (l l' : List Int) : cop .ne (.lst (l.map D.int)) (.lst (l'.map D.int)) = some (!decide (l = l')) := ne_val eq_int.lst (ok_int 8).lst l l'
theorem eq_encR : EqEnc encR := fun a b => by
  obtain ⟨a1, a2⟩ := a
  obtain ⟨b1, b2⟩ := b
  simp only [encR, toPy, toPys, PyData.eqv, PyData.eqvAll, Prod.mk.injEq]
  by_cases h1 : a1 = b1 <;> by_cases h2 : a2 = b2 <;> simp [h1, h2]
  omega
theorem ok_encR (n : Nat) : OkEnc (n + 1) encR := fun a => by
  show okds n [.int a.1, .int a.2] = true
  exact okds_map (ok_int n) [(a.1 : Int), a.2]
theorem eq_rows (l l' : List (Nat × Int)) : cop .eq (.lst (l.map encR)) (.lst (l'.map encR)) = some (decide (l = l')) := eq_val eq_encR.lst (ok_encR 7).lst l l'
theorem ne_rows (l l' : List (Nat × Int)) : cop .ne (.lst (l.map encR)) (.lst (l'.map encR)) = some (!decide (l = l')) := ne_val eq_encR.lst (ok_encR 7).lst l l'
theorem mul_rep (x : Int) (k : Nat) (h : k ≤ 100000) : bop .mul (.lst [.int x]) (.int k) = some (.lst ((List.replicate k x).map D.int)) := by
  rw [bop]
  have e : ((k : Int)).toNat = k := Int.toNat_natCast k
  have h3 : [D.int x].length * ((k : Int)).toNat ≤ sizeLine := by
    rw [e, line_val]
    show 1 * k ≤ _
    omega
  have h1 : -(2 ^ 63) ≤ (k : Int) := by omega
  have h2 : (k : Int) < 2 ^ 63 := by omega
  rw [if_pos (And.intro h1 (And.intro h2 h3))]
  rw [e]
  have go : ∀ n : Nat, (List.replicate n [D.int x]).flatten = (List.replicate n x).map D.int := by
    intro n
    induction n with
    | zero => rfl
    | succ n ih => rw [List.replicate_succ, List.flatten_cons, ih, List.replicate_succ, List.map_cons]; rfl
  rw [go]
theorem tele (g : Nat → Int) (n : Nat) : ((List.range n).map fun k => g (k + 1) - g k).sum = g n - g 0 := by
  induction n with
  | zero => simp
  | succ n ih => rw [List.range_succ, List.map_append, List.sum_append, ih]; simp; omega
theorem ZOk.plain {z : Z} (h : ZOk z) : ZOk (z.1, []) := ⟨h.lo, h.hi, by simp, trivial, by simp⟩
theorem plain_fst (a g : Int) (h : a ≤ g) : fst (a, []) g = g - a := by
  show max 0 (g - a) = _
  omega
end Q
set_option Elab.async false
set_option maxRecDepth 100000
set_option linter.all false
set_option maxHeartbeats 1000000
/-! Drawn numbers and zones of the first fifteen laws. -/
namespace Q
open PySem QT
def mixA (ns : List Int) (k : Nat) (many : Int) : Int := (((cell ns k + 7919 * k + 1) * 48271 % 2147483647) * ((cell ns k + 7919 * k + 1) * 48271 % 2147483647) + 7 * ((cell ns k + 7919 * k + 1) * 48271 % 2147483647) + k) % 2147483629 % many
theorem mixA_lo (ns : List Int) (k : Nat) {many : Int} (h : 0 < many) : 0 ≤ mixA ns k many := Int.emod_nonneg _ (by omega)
theorem mixA_hi (ns : List Int) (k : Nat) {many : Int} (h : 0 < many) : mixA ns k many < many := Int.emod_lt_of_pos _ h
theorem mixedA_spec (ns : List Int) (k : Nat) {many : Int} (hm : 0 < many) (S : Store) : QTA.f_law_mixed [.d (.scr ns), .d (.int k), .d (.int many)] S = .ok (.d (.int (mixA ns k many))) S := by
  unfold QTA.f_law_mixed
  rw [defF3]
  unfold QTA.b_law_mixed mixA
  have cs := cell_spec ns k S
  generalize cell ns k = c at cs ⊢
  obtain ⟨d, hd⟩ : ∃ d, d = (c + 7919 * (k : Int) + 1) * 48271 % 2147483647 := ⟨_, rfl⟩
  rw [← hd]
  have h1 : 0 ≤ d := by rw [hd]; exact Int.emod_nonneg _ (by omega)
  have h2 : d < 2147483647 := by rw [hd]; exact Int.emod_lt_of_pos _ (by omega)
  have s7919 : small 7919 = true := by decide
  have s48271 : small 48271 = true := by decide
  have s7 : small 7 = true := by decide
  have sd : small d = true := small_lit (by omega) (by omega)
  have md : bop .mod (.int ((c + 7919 * (k : Int) + 1) * 48271)) (.int 2147483647) = some (.int d) := by rw [bop_mod (by omega), hd]
  simp [cs, bop_mulL s7919, bop_mulR s48271, md, bop_mulL sd, bop_mulL s7, bop_mod, hm]
theorem drawA_spec (ns : List Int) (k : Nat) (hk : k < 100000) {many : Int} (hm : 0 < many) (S : Store) : QTA.f_law_draw [.d (.scr ns), .loc 0, .d (.int many)] (town k :: S) = .ok (.d (.int (mixA ns (k + 1) many))) (town (k + 1) :: S) := by
  unfold QTA.f_law_draw
  rw [defF3]
  unfold QTA.b_law_draw
  have m := mixedA_spec ns (k + 1) hm (town (k + 1) :: S)
  simp only [Int.natCast_add, Int.cast_ofNat_Int] at m
  simp [recvL_town, appW_town k hk, len_town, m, fin_rtT0]
theorem drawA_ex (ns : List Int) (k : Nat) (hk : k < 100000) {many : Int} (hm : 0 < many) : ∃ n : Nat, (n : Int) < many ∧ ∀ S : Store, QTA.f_law_draw [.d (.scr ns), .loc 0, .d (.int many)] (town k :: S) = .ok (.d (.int n)) (town (k + 1) :: S) := by
  obtain ⟨n, hn⟩ := Int.eq_ofNat_of_zero_le (mixA_lo ns (k + 1) hm)
  have h2 := mixA_hi ns (k + 1) hm
  exact ⟨n, by omega, fun S => by rw [drawA_spec ns k hk hm S, hn]⟩
theorem pickA_at (ns : List Int) (k : Nat) (hk : k < 100000) (xs : List D) (h : 0 < xs.length) : ∃ i : Nat, i < xs.length ∧ ∀ S : Store, QTA.f_law_pick [.d (.scr ns), .loc 0, .d (.lst xs)] (town k :: S) = .ok (.d (xs.getD i .non)) (town (k + 1) :: S) := by
  obtain ⟨n, hn, dn⟩ := drawA_ex ns k hk (many := xs.length) (by omega)
  refine ⟨n, by omega, fun S => ?_⟩
  unfold QTA.f_law_pick
  rw [defF3]
  unfold QTA.b_law_pick
  simp [dn]
  rw [atI_getD xs .non (j := n) rfl (by omega)]
  simp [fin_rtT0]
theorem pickA_int (ns : List Int) (k : Nat) (hk : k < 100000) (vs : List Int) (h : 0 < vs.length) : ∃ v ∈ vs, ∀ S : Store, QTA.f_law_pick [.d (.scr ns), .loc 0, .d (.lst (vs.map D.int))] (town k :: S) = .ok (.d (.int v)) (town (k + 1) :: S) := by
  obtain ⟨i, hi, p⟩ := pickA_at ns k hk (vs.map D.int) (by simpa using h)
  rw [List.length_map] at hi
  refine ⟨vs[i], List.getElem_mem _, fun S => ?_⟩
  rw [p S, List.getD_eq_getElem?_getD, List.getElem?_map, List.getElem?_eq_getElem hi]
  rfl
end Q
set_option Elab.async false
set_option maxRecDepth 100000
set_option linter.all false
set_option maxHeartbeats 1000000
/-! Zones of the first fifteen laws. -/
namespace Q
open PySem QT
@[simp] theorem newl_1 (o : O) : newlOf [] [o] = .ok (.loc 1) [o, .lst []] := nf rfl
@[simp] theorem recvL_1 (o : O) (xs : List D) : recvL (.loc 1) [o, .lst xs] = .ok (.loc 1) [o, .lst xs] := nf rfl
@[simp] theorem frzW_1 (o : O) (xs : List D) : frzW (.loc 1) [o, .lst xs] = .ok (.d (.lst xs)) [o, .dead] := nf rfl
@[simp] theorem biW_1 (f : Bi) (o : O) (xs : List D) : biW f [.loc 1] [o, .lst xs] = ofD (biop f [.lst xs]) [o, .lst xs] := nf rfl
theorem appW_1 (o : O) (xs : List D) (v : D) (h : xs.length < sizeLine) : appW (.loc 1) (.d v) [o, .lst xs] = .ok (.d .non) [o, .lst (xs ++ [v])] := by
  show (if xs.length < sizeLine then _ else _) = _
  rw [if_pos h]
  rfl
theorem fin_2 (k j : Nat) (o : O) (x : D) : fin true [town k] (.rt (.d x) [town j, o]) = .ok (.d x) [town j] := fin_rtT (S := []) (T := [o])
theorem rising_congr : ∀ {l l' : List (Int × Int)} {a : Int}, l.map (·.1) = l'.map (·.1) → Rising a l → Rising a l'
  | [], [], _, _, _ => trivial
  | [], t :: r', _, e, _ => by simp at e
  | s :: r, [], _, e, _ => by simp at e
  | s :: r, t :: r', a, e, h => by
    simp only [List.map_cons, List.cons.injEq] at e
    have h1 := h.1
    refine ⟨by omega, ?_⟩
    rw [← e.1]
    exact rising_congr e.2 h.2
noncomputable def bZo : Sts := (.cons (.set 3 (.bin .add (.bin .add (.var 3) (.c (.int 1))) (.call "_law_draw" QTA.f_law_draw (.cons (.var 0) (.cons (.var 1) (.cons (.call "_law_pick" QTA.f_law_pick (.cons (.var 0) (.cons (.var 1) (.cons (.lst (.cons (.c (.int 4)) (.cons (.c (.int 40)) (.cons (.c (.int 200)) .nil)))) .nil)))) .nil)))))) (.cons (.ex (.app (.var 2) (.tup (.cons (.var 3) (.cons (.bin .sub (.call "_law_draw" QTA.f_law_draw (.cons (.var 0) (.cons (.var 1) (.cons (.c (.int 27)) .nil)))) (.c (.int 12))) .nil))))) .nil))
theorem zoneA_loop (ns : List Int) (o5 o6 : Option W) : ∀ (items : List D) (j : Nat) (l : List (Int × Int)) (at_ : Int) (o4 : Option W), j + 3 * items.length ≤ 90000 → l.length + items.length ≤ 100 →
    Rising 0 l → lastB 0 l = at_ → 0 ≤ at_ → (∀ s ∈ l, s.1 ≤ at_ ∧ -12 ≤ s.2 ∧ s.2 ≤ 14) →
    ∃ (l' : List (Int × Int)) (at' : Int) (o' : Option W), Rising 0 l' ∧ (∀ s ∈ l', s.1 ≤ at_ + items.length * 200 ∧ -12 ≤ s.2 ∧ s.2 ≤ 14) ∧ l'.length = l.length + items.length ∧
      forL (.nm 4) (evB bZo) items [some (.d (.scr ns)), some (.loc 0), some (.loc 1), some (.d (.int at_)), o4, o5, o6] [town j, .lst (l.map encS)] =
        .nx [some (.d (.scr ns)), some (.loc 0), some (.loc 1), some (.d (.int at')), o', o5, o6] [town (j + 3 * items.length), .lst (l'.map encS)] := by
  intro items
  induction items with
  | nil =>
    intro j l at_ o4 _ _ hr hl h0 ha
    refine ⟨l, at_, o4, hr, ?_, rfl, rfl⟩
    intro s hs
    have := ha s hs
    simp only [List.length_nil]
    omega
  | cons x items ih =>
    intro j l at_ o4 hj hll hr hl h0 ha
    simp only [List.length_cons] at hj hll ⊢
    obtain ⟨w, hw, pw⟩ := pickA_int ns j (by omega) [4, 40, 200] (by decide)
    have hw2 : 0 < w ∧ w ≤ 200 := by
      simp only [List.mem_cons, List.not_mem_nil, or_false] at hw
      omega
    obtain ⟨d, hd, pd⟩ := drawA_ex ns (j + 1) (by omega) hw2.1
    obtain ⟨v, hv, pv⟩ := drawA_ex ns (j + 1 + 1) (by omega) (many := 27) (by omega)
    simp only [List.map] at pw
    obtain ⟨l', at', o', e1, e2, e3, e4⟩ := ih (j + 1 + 1 + 1) (l ++ [(at_ + 1 + (d : Int), (v : Int) - 12)]) (at_ + 1 + d) (some (.d x)) (by omega)
      (by simp only [List.length_append, List.length_cons, List.length_nil]; omega)
      (rising_snoc hr (by omega)) (lastB_snoc ..) (by omega) (by
        intro s hs
        rcases List.mem_append.mp hs with hs | hs
        · have := ha s hs; omega
        · simp only [List.mem_cons, List.not_mem_nil, or_false] at hs
          subst hs
          exact ⟨Int.le_refl _, by show -12 ≤ (v : Int) - 12; omega, by show (v : Int) - 12 ≤ 14; omega⟩)
    refine ⟨l', at', o', e1, ?_, ?_, ?_⟩
    · intro s hs
      have := e2 s hs
      omega
    · rw [e3]; simp only [List.length_append, List.length_cons, List.length_nil]; omega
    · rw [forL_cons]
      simp only [tgD_nm, List.set_cons_succ, List.set_cons_zero]
      have body : evB bZo [some (.d (.scr ns)), some (.loc 0), some (.loc 1), some (.d (.int at_)), some (.d x), o5, o6] [town j, .lst (l.map encS)] =
          .nx [some (.d (.scr ns)), some (.loc 0), some (.loc 1), some (.d (.int (at_ + 1 + d))), some (.d x), o5, o6] [town (j + 1 + 1 + 1), .lst ((l ++ [(at_ + 1 + (d : Int), (v : Int) - 12)]).map encS)] := by
        simp [bZo, pw, pd, pv]
        rw [appW_1 _ _ _ (by simp; rw [line_val]; omega)]
        simp [encS]
      rw [body]
      rw [show j + 3 * (items.length + 1) = j + 1 + 1 + 1 + 3 * items.length by omega]
      exact e4
def zipI (k : Nat) : List (Int × Int) → List (Nat × (Int × Int))
  | [] => []
  | s :: r => (k, s) :: zipI (k + 1) r
theorem zipI_enum : ∀ (k : Nat) (l : List (Int × Int)), enumL k (l.map encS) = (zipI k l).map fun p => D.tup [.int (p.1 : Nat), encS p.2]
  | _, [] => rfl
  | k, s :: r => by
    rw [List.map_cons, enumL_cons, zipI_enum (k + 1) r]
    rfl
theorem zipI_fst : ∀ (k : Nat) (l : List (Int × Int)), (zipI k l).map (fun p => p.2.1) = l.map (·.1)
  | _, [] => rfl
  | k, s :: r => by
    show _ :: (zipI (k + 1) r).map (fun p => p.2.1) = _
    rw [zipI_fst (k + 1) r]
    rfl
theorem zipI_len : ∀ (k : Nat) (l : List (Int × Int)), (zipI k l).length = l.length
  | _, [] => rfl
  | k, s :: r => by
    show (zipI (k + 1) r).length + 1 = _
    rw [zipI_len (k + 1) r]
    rfl
theorem zipI_mem : ∀ (k : Nat) (l : List (Int × Int)), ∀ p ∈ zipI k l, p.2 ∈ l
  | _, [], p, h => by cases h
  | k, s :: r, p, h => by
    rcases List.mem_cons.mp h with rfl | h
    · exact List.mem_cons_self ..
    · exact List.mem_cons_of_mem _ (zipI_mem (k + 1) r p h)
theorem zoneA_spec (ns : List Int) (k : Nat) (hk : k ≤ 80000) :
    ∃ (z : Z) (k' : Nat), ZOk z ∧ (∀ s ∈ z.2, s.1 ≤ 1200) ∧ k ≤ k' ∧ k' ≤ k + 30 ∧ QTA.f_law_zone [.d (.scr ns), .loc 0] [town k] = .ok (.d (encZ z)) [town k'] := by
  obtain ⟨n, hn, dn⟩ := drawA_ex ns k (by omega) (many := 7) (by omega)
  obtain ⟨l, at', o', e1, e2, e3, e4⟩ := zoneA_loop ns none none (rngL 0 n) (k + 1) [] 0 none (by simp [rngL]; omega) (by simp [rngL]; omega) trivial rfl (by omega) (by simp)
  have hln : (rngL 0 n).length = n := by simp [rngL]
  rw [hln] at e2 e3 e4
  simp only [List.length_nil, Nat.zero_add] at e3
  obtain ⟨b, hb, db⟩ := drawA_ex ns (k + 1 + 3 * n) (by omega) (many := 2) (by omega)
  obtain ⟨v, hv, pv⟩ := drawA_ex ns (k + 1 + 3 * n + 1) (by omega) (many := 27) (by omega)
  have itn : ∀ S, itR1 (.d (.int n)) S = .ok (rngL 0 n) S := fun S => by rw [itR1_int (by omega) (by omega), Int.toNat_natCast]
  unfold QTA.f_law_zone
  rw [defF2]
  unfold QTA.b_law_zone
  simp only [List.map_nil] at e4
  unfold bZo at e4
  by_cases c : b = 0
  · subst c
    refine ⟨((v : Int) - 12, (zipI 0 l).map fun p => (p.2.1, 1 + ((p.1 : Nat) : Int) % 2)), k + 1 + 3 * n + 1 + 1, ⟨by show -12 ≤ (v : Int) - 12; omega, by show (v : Int) - 12 ≤ 14; omega, by simp only [List.length_map, zipI_len]; omega, ?_, ?_⟩, ?_, by omega, by omega, ?_⟩
    · refine rising_congr (l := l) ?_ e1
      rw [List.map_map, ← zipI_fst 0 l]
      rfl
    · intro s hs
      obtain ⟨p, hp, rfl⟩ := List.mem_map.mp hs
      have := e2 _ (zipI_mem 0 l p hp)
      show p.2.1 ≤ 9999 ∧ -12 ≤ 1 + ((p.1 : Nat) : Int) % 2 ∧ 1 + ((p.1 : Nat) : Int) % 2 ≤ 14
      omega
    · intro s hs
      obtain ⟨p, hp, rfl⟩ := List.mem_map.mp hs
      have := e2 _ (zipI_mem 0 l p hp)
      show p.2.1 ≤ 1200
      omega
    · have cp : ∀ (S : Store) (a1 a2 a3 a4 a5 a6 a7 : Option W), compL (.tp [(.nm 4), (.tp [(.nm 5), (.nm 6)])]) [4, 5, 6] (evC .non) (ev (.tup (.cons (.var 5) (.cons (.bin .add (.c (.int 1)) (.bin .mod (.var 4) (.c (.int 2)))) .nil)))) [a1, a2, a3, a4, a5, a6, a7] (enumL 0 (l.map encS)) S = .ok ((zipI 0 l).map fun p => encS (p.2.1, 1 + ((p.1 : Nat) : Int) % 2)) S := by
        intro S a1 a2 a3 a4 a5 a6 a7
        rw [zipI_enum]
        refine compL_map (zipI 0 l) fun p hp => ⟨_, rfl, ?_⟩
        simp [wipeE, bop_mod, encS]
      have hle : (enumL 0 (l.map encS)).length ≤ sizeLine := by rw [enumL_len, List.length_map, line_val]; omega
      simp only [Int.cast_ofNat_Int] at db
      simp [dn, itn, e4, db, hle, cp, pv]
      rw [fin_2]
      simp [encZ]
  · refine ⟨((v : Int) - 12, l), k + 1 + 3 * n + 1 + 1, ⟨by show -12 ≤ (v : Int) - 12; omega, by show (v : Int) - 12 ≤ 14; omega, by show l.length ≤ 6; omega, e1, fun s hs => by have := e2 s hs; omega⟩, fun s hs => by have := e2 s hs; omega, by omega, by omega, ?_⟩
    simp [dn, itn, e4, db, c, pv]
    rw [fin_2]
    simp [encZ]
end Q
set_option Elab.async false
set_option maxRecDepth 100000
set_option linter.all false
set_option maxHeartbeats 1000000
/-! The wall, clocks, rows, zips. -/
namespace Q
open PySem QT
theorem wallT_spec {z : Z} (hz : ZOk z) {m : Int} (h0 : 0 ≤ m) (h1 : m ≤ 9999) (S : Store) : f_wall [.d (encZ z), .d (.int m)] S = .ok (.d (.tup [.int (shown z m / 24), .int (shown z m % 24)])) S := by
  unfold f_wall
  rw [defF2]
  unfold b_wall
  simp [need_zone_spec hz, need_moment_spec h0 h1, wall_spec, bop_fdiv, bop_mod]
theorem atI_last {α : Type} (xs : List α) (x : α) : L2.atI (xs ++ [x]) (-1) = some x := by
  unfold L2.atI L2.ixN
  simp
  rw [if_pos (by omega), show (-1 + ((xs.length : Int) + 1)).toNat = xs.length by omega]
  simp
theorem ahead_last (l : List (Int × Int)) (m : Int) : ∀ a : Int, ∃ ys, a :: ((l.filter fun s => decide (s.1 ≤ m)).map (·.2)) = ys ++ [aheadA a l m] := by
  induction l with
  | nil => intro a; exact ⟨[], rfl⟩
  | cons s r ih =>
    intro a
    by_cases c : s.1 ≤ m
    · obtain ⟨ys, e⟩ := ih s.2
      refine ⟨a :: ys, ?_⟩
      rw [List.filter_cons, if_pos (by simpa using c), List.map_cons, e]
      show _ = a :: ys ++ [aheadA (if s.1 ≤ m then s.2 else a) r m]
      rw [if_pos c]
      rfl
    · obtain ⟨ys, e⟩ := ih a
      refine ⟨ys, ?_⟩
      rw [List.filter_cons, if_neg (by simpa using c), e]
      show _ = ys ++ [aheadA (if s.1 ≤ m then s.2 else a) r m]
      rw [if_neg c]
theorem clock_spec {z : Z} (hz : ZOk z) (m : Int) (S : Store) : QTA.f_law_clock [.d (encZ z), .d (.int m)] S = .ok (.d (.int (shown z m))) S := by
  unfold QTA.f_law_clock
  rw [defF2]
  unfold QTA.b_law_clock
  have cp : ∀ (w0 a2 a3 a4 : Option W), compL (.tp [(.nm 3), (.nm 4)]) [3, 4] (evC (.som (.cmp .le (.var 3) (.var 1)))) (ev (.var 4)) [w0, some (.d (.int m)), a2, a3, a4] (z.2.map encS) S = .ok ((z.2.filter fun s => decide (s.1 ≤ m)).map fun s => D.int s.2) S := by
    intro w0 a2 a3 a4
    refine compL_pure z.2 fun s hs => ⟨_, rfl, ?_, fun _ => ?_⟩
    · simp [wipeE]
    · simp [wipeE]
  obtain ⟨ys, e⟩ := ahead_last z.2 m z.1
  have hl := hz.len
  have hf : ((z.2.filter fun s => decide (s.1 ≤ m)).length) ≤ 6 := Nat.le_trans (List.length_filter_le _ _) hl
  have e2 : D.int z.1 :: ((z.2.filter fun s => decide (s.1 ≤ m)).map fun s => D.int s.2) = (ys.map D.int) ++ [.int (aheadA z.1 z.2 m)] := by
    have := congrArg (List.map D.int) e
    rw [List.map_append, List.map_cons, List.map_map] at this
    exact this
  have hle : (z.2.map encS).length ≤ sizeLine := by rw [List.length_map, line_val]; omega
  simp [encZ, cp, -List.length_map, hle]
  rw [if_pos (by rw [List.length_map, line_val]; omega)]
  simp only [ofD_some, flE_ok, andThen_nx, e2]
  simp [atI_last, shown]
theorem rows_all {z : Z} (hz : ZOk z) (h : Int) (n : Nat) : rowsF z (.daily h) 0 n = (List.range n).map fun (k : Nat) => (k, fst z (goal0 z h + 24 * k)) := by
  unfold rowsF
  rw [List.filter_eq_self.mpr]
  · rfl
  · intro r hr
    obtain ⟨k, _, rfl⟩ := List.mem_map.mp hr
    have := (fst_spec hz (goal0 z h + 24 * (k : Int))).1
    exact decide_eq_true this
theorem cut_one (xs : List D) : cutD xs (some 1) none = xs.drop 1 := by
  cases xs with
  | nil => rfl
  | cons x xs =>
    unfold cutD HT.sIx
    simp
theorem zipL_map {α β : Type} (f : α → D) (g : β → D) : ∀ (l : List α) (l' : List β), zipL (l.map f) (l'.map g) = (l.zip l').map fun p => D.tup [f p.1, g p.2]
  | [], _ => by simp [zipL]
  | _ :: _, [] => by simp [zipL]
  | a :: l, b :: l' => by simp [zipL, zipL_map f g l l']
theorem all_true {α : Type} (l : List α) : biop .all [.lst (l.map fun _ => D.bl true)] = some (.bl true) := by
  have go : ∀ l : List α, ∃ bs, toBools (l.map fun _ => D.bl true) = some bs ∧ bs.all id = true := by
    intro l
    induction l with
    | nil => exact ⟨[], rfl, rfl⟩
    | cons a l ih =>
      obtain ⟨bs, e, h⟩ := ih
      exact ⟨true :: bs, by show (toBools (l.map fun _ => D.bl true)).map (true :: ·) = _; rw [e]; rfl, by simp [h]⟩
  obtain ⟨bs, e, h⟩ := go l
  show (toBools (l.map fun _ => D.bl true)).map _ = _
  rw [e]
  simp [h]
theorem rgN_one (n : Nat) : rgN 0 n 1 = n := by
  unfold rgN
  by_cases h : (0 : Int) < n
  · rw [if_pos h, Int.ediv_one]; omega
  · rw [if_neg h]; omega
theorem lrg_nat (n : Nat) (h : n ≤ 100000) (S : Store) : lrgW (.d (.int 0)) (.d (.int n)) (.d (.int 1)) S = .ok (.d (.lst (((List.range n).map fun (k : Nat) => (k : Int)).map D.int))) S := by
  rw [lrgW_int (by omega) (by omega) (by omega) (by omega) (by omega) (by omega) (by rw [rgN_one, line_val]; omega), rgN_one]
  simp [rngC]
end Q
set_option Elab.async false
set_option maxRecDepth 100000
set_option linter.all false
set_option maxHeartbeats 1000000
/-! Plans compared. -/
namespace Q
open PySem QT
theorem val_put (kvs : List (L2.Key × D)) (k j : L2.Key) (v : D) : (valD (putD kvs k v) j).isSome = (decide (j = k) || (valD kvs j).isSome) := by
  have e1 : ∀ l : List (L2.Key × D), (valD l j).isSome = l.any fun kv => decide (kv.1 = j) := by
    intro l
    induction l with
    | nil => rfl
    | cons p r ih =>
      by_cases c : p.1 = j
      · simp [valD, List.find?_cons, c]
      · have : valD (p :: r) j = valD r j := by simp [valD, List.find?_cons, c]
        rw [this, ih]
        simp [c]
  rw [e1, e1]
  unfold putD
  split
  · rename_i h
    have e2 : ((kvs.map fun kv => if kv.1 = k then (kv.1, v) else kv).any fun kv => decide (kv.1 = j)) = kvs.any fun kv => decide (kv.1 = j) := by
      clear h e1
      induction kvs with
      | nil => rfl
      | cons p r ih =>
        rw [List.map_cons, List.any_cons, List.any_cons, ih]
        by_cases c : p.1 = k
        · rw [if_pos c]
        · rw [if_neg c]
    rw [e2]
    by_cases c : j = k
    · subst c; rw [h]; simp
    · simp [c]
  · rw [List.any_append, List.any_cons, List.any_nil]
    by_cases c : j = k
    · subst c; simp
    · have : ¬ k = j := fun q => c q.symm
      simp [c, this]
theorem val_merge (ps : List (L2.Key × D)) (j : L2.Key) : ∀ kvs : List (L2.Key × D), (valD (mergeD kvs ps) j).isSome = ((ps.any fun p => decide (p.1 = j)) || (valD kvs j).isSome) := by
  induction ps with
  | nil => intro kvs; rfl
  | cons p r ih =>
    intro kvs
    show (valD (mergeD (putD kvs p.1 p.2) r) j).isSome = _
    rw [ih, val_put, List.any_cons]
    by_cases c : j = p.1
    · simp [c]
    · have : ¬ p.1 = j := fun q => c q.symm
      simp [c, this]
/-- a dict of such keys -/
theorem dict_ints (l : List Int) : biop .dictOf [.lst (l.map fun m => D.tup [.int m, .bl true])] = some (.dct (mergeD [] (l.map fun m => (.inl m, .bl true)))) := by
  have go : ∀ l : List Int, pairsD (l.map fun m => D.tup [.int m, .bl true]) = some (l.map fun m => (.inl m, .bl true)) := by
    intro l
    induction l with
    | nil => rfl
    | cons m r ih =>
      show (keyD (.int m)).bind (fun k => (pairsD (r.map fun m => D.tup [.int m, .bl true])).map fun ps => (k, D.bl true) :: ps) = _
      rw [ih]
      rfl
  show (pairsD (l.map fun m => D.tup [.int m, .bl true])).map _ = _
  rw [go]
  rfl
theorem in_dict (l : List Int) (m : Int) : cop .inn (.int m) (.dct (mergeD [] (l.map fun m => (.inl m, .bl true)))) = some (decide (m ∈ l)) := by
  show some (valD (mergeD [] (l.map fun m => ((.inl m, .bl true) : L2.Key × D))) (.inl m : L2.Key)).isSome = _
  rw [val_merge]
  congr 1
  have : (valD ([] : List (L2.Key × D)) (.inl m : L2.Key)).isSome = false := rfl
  rw [this, Bool.or_false]
  induction l with
  | nil => rfl
  | cons x r ih =>
    rw [List.map_cons, List.any_cons, ih]
    by_cases c : x = m
    · subst c; simp
    · have c2 : ¬ m = x := fun q => c q.symm
      have c3 : ¬ (Sum.inl x : L2.Key) = Sum.inl m := fun q => c (Sum.inl.inj q)
      simp [c2, c3]
theorem in_ints (l : List Int) (m : Int) : cop .inn (.int m) (.lst (l.map D.int)) = some (decide (m ∈ l)) := by
  have fl : (l.map D.int).all flat = true := by
    rw [List.all_map]; simp [flat]
  show (if (flat (.int m) && (l.map D.int).all flat) = true then some (inD (.int m) (l.map D.int)) else none) = _
  rw [fl, if_pos (show (flat (.int m) && true) = true from rfl)]
  congr 1
  clear fl
  unfold inD
  rw [List.any_map]
  induction l with
  | nil => rfl
  | cons x r ih =>
    rw [List.any_cons, ih]
    by_cases c : x = m
    · subst c; simp [Function.comp, eqF]
    · have c2 : ¬ m = x := fun q => c q.symm
      simp [Function.comp, eqF, c, c2]
theorem dv_nn {z : Z} (hz : ZOk z) {p : Pl} (hp : PlOk p) (k : Nat) : 0 ≤ dv z p k := by
  unfold dv
  cases p with
  | once m => by_cases h : k = 0 <;> simp [dueN, h, hp.1]
  | every b st =>
    have h1 := hp.1
    have h2 := Int.mul_nonneg (show (0 : Int) ≤ k by omega) (show 0 ≤ st by have := hp.2.2.1; omega)
    simp only [dueN, Option.getD_some]
    omega
  | daily h => exact (fst_spec hz _).1
/-- a plan's times up to a last moment -/
def tl (z : Z) (p : Pl) (n : Nat) : List Int := (List.range n).map (dv z p)
theorem rows_tl {z : Z} (hz : ZOk z) {p : Pl} (hp : PlOk p) (n : Nat) : rowsF z p 0 n = (List.range n).map fun k => (k, dv z p k) := by
  unfold rowsF
  rw [List.filter_eq_self.mpr]
  intro r hr
  obtain ⟨k, _, rfl⟩ := List.mem_map.mp hr
  exact decide_eq_true (dv_nn hz hp k)
theorem tl_len (z : Z) (p : Pl) (n : Nat) : (tl z p n).length = n := by simp [tl]
/-- the first of a list, or None -/
theorem first_or (l : List Int) (h : l.length ≤ 100000) (S : Store) : bop .add (.lst (l.map D.int)) (.lst [.non]) = some (.lst (l.map D.int ++ [.non])) := by
  show (if (l.map D.int).length + [D.non].length ≤ sizeLine then _ else _) = _
  rw [if_pos (by rw [List.length_map, line_val]; show l.length + 1 ≤ _; omega)]
theorem first_at0 (l : List Int) : ixop (.lst (l.map D.int ++ [.non])) (.int 0) = some (optD l.head?) := by
  cases l with
  | nil => rfl
  | cons x r => exact atI_zero _ _
theorem how_many_spec {z : Z} (hz : ZOk z) {p : Pl} (hp : PlOk p) {first last : Int} (f0 : 0 ≤ first) (f1 : first ≤ 9999) (l0 : 0 ≤ last) (l1 : last ≤ 9999) {n : Nat} (hn : Upto (dueN z p) last n) (S : Store) :
    f_how_many [.d (encZ z), .d (encP p), .d (.int first), .d (.int last)] S = .ok (.d (.int ((rowsF z p first n).length : Nat))) S := by
  unfold f_how_many
  rw [defF4]
  unfold b_how_many
  simp [dues_spec hz hp f0 f1 l0 l1 hn]
theorem count_at_spec {z : Z} (hz : ZOk z) {p : Pl} (hp : PlOk p) {last : Int} (l0 : 0 ≤ last) (l1 : last ≤ 9999) {n : Nat} (hn : Upto (dueN z p) last n) (S : Store) :
    f_count_at [.d (encZ z), .d (encP p), .d (.int last)] S = .ok (.d (optD (if n = 0 then none else some (((n - 1 : Nat) : Int))))) S := by
  unfold f_count_at
  rw [defF3]
  unfold b_count_at
  have du := dues_spec hz hp (first := 0) (by omega) (by omega) l0 l1 hn S
  rw [rows_tl hz hp] at du
  have ne := ne_rows ((List.range n).map fun k => (k, dv z p k)) []
  simp only [List.map_nil] at ne
  by_cases h : n = 0
  · subst h
    simp only [List.range_zero, List.map_nil, decide_true, Bool.not_true] at ne du
    simp [du, ne]
  · obtain ⟨m, rfl⟩ : ∃ m, n = m + 1 := ⟨n - 1, by omega⟩
    have hne : ((List.range (m + 1)).map fun k => (k, dv z p k)) ≠ [] := by simp
    have e : ((List.range (m + 1)).map fun k => (k, dv z p k)).map encR = (((List.range m).map fun k => (k, dv z p k)).map encR) ++ [encR (m, dv z p m)] := by
      rw [List.range_succ, List.map_append, List.map_append]; rfl
    simp only [hne, decide_false, Bool.not_false] at ne
    rw [e] at du ne
    have ix : ixop (encR (m, dv z p m)) (.int 0) = some (.int (m : Nat)) := rfl
    simp [du, ne, atI_last, ix, -List.map_map]
end Q
set_option Elab.async false
set_option maxRecDepth 100000
set_option linter.all false
set_option maxHeartbeats 1000000
/-! Where plans meet. -/
namespace Q
open PySem QT
theorem meet_spec {z : Z} (hz : ZOk z) {p q : Pl} (hp : PlOk p) (hq : PlOk q) {last : Int} (l0 : 0 ≤ last) (l1 : last ≤ 9999) {n n' : Nat} (hn : Upto (dueN z p) last n) (hn' : Upto (dueN z q) last n') (S : Store) :
    f_meet [.d (encZ z), .d (encP p), .d (encP q), .d (.int last)] S = .ok (.d (optD ((tl z p n).filter fun m => decide (m ∈ tl z q n')).head?)) S := by
  unfold f_meet
  rw [defF4]
  unfold b_meet
  have d1 := dues_spec hz hp (first := 0) (by omega) (by omega) l0 l1 hn
  have d2 := dues_spec hz hq (first := 0) (by omega) (by omega) l0 l1 hn'
  simp only [rows_tl hz hp, rows_tl hz hq] at d1 d2
  have u1 := upto_le hz hp l0 hn
  have u2 := upto_le hz hq l0 hn'
  have c2 : ∀ (w0 w1 w2 w3 w4 w5 w6 w7 : Option W) (S : Store), compL (.tp [(.nm 5), (.nm 6)]) [5, 6] (evC .non) (ev (.tup (.cons (.var 6) (.cons (.c (.bl true)) .nil)))) [w0, w1, w2, w3, w4, w5, w6, w7] (((List.range n').map fun k => (k, dv z q k)).map encR) S = .ok ((tl z q n').map fun m => D.tup [.int m, .bl true]) S := by
    intro w0 w1 w2 w3 w4 w5 w6 w7 S
    have e := compL_map (tg := .tp [(.nm 5), (.nm 6)]) (vs := [5, 6]) (elt := ev (.tup (.cons (.var 6) (.cons (.c (.bl true)) .nil)))) (ρ := [w0, w1, w2, w3, w4, w5, w6, w7]) (S := S) (g := encR) (f := fun r => D.tup [.int r.2, .bl true]) ((List.range n').map fun k => (k, dv z q k)) (fun r _ => ⟨_, rfl, by simp [wipeE]⟩)
    rw [e, tl, List.map_map, List.map_map]
    rfl
  have c1 : ∀ (w0 w1 w2 w3 w5 w6 w7 : Option W) (S : Store), compL (.tp [(.nm 5), (.nm 6)]) [5, 6] (evC (.som (.cmp .inn (.var 6) (.var 4)))) (ev (.var 6)) [w0, w1, w2, w3, some (.d (.dct (mergeD [] ((tl z q n').map fun m => (.inl m, .bl true))))), w5, w6, w7] (((List.range n).map fun k => (k, dv z p k)).map encR) S = .ok (((tl z p n).filter fun m => decide (m ∈ tl z q n')).map D.int) S := by
    intro w0 w1 w2 w3 w5 w6 w7 S
    have e := compL_pure (tg := .tp [(.nm 5), (.nm 6)]) (vs := [5, 6]) (cond := evC (.som (.cmp .inn (.var 6) (.var 4)))) (elt := ev (.var 6)) (ρ := [w0, w1, w2, w3, some (.d (.dct (mergeD [] ((tl z q n').map fun m => (.inl m, .bl true))))), w5, w6, w7]) (S := S) (g := encR) (f := fun r => D.int r.2) (p := fun r => decide (r.2 ∈ tl z q n')) ((List.range n).map fun k => (k, dv z p k)) (fun r _ => ⟨_, rfl, by simp [wipeE, in_dict], fun _ => by simp [wipeE]⟩)
    rw [e, show tl z p n = (List.range n).map (dv z p) from rfl, List.filter_map, List.filter_map, List.map_map, List.map_map]
    rfl
  have l1' : (((List.range n).map fun k => (k, dv z p k)).map encR).length ≤ sizeLine := by rw [List.length_map, List.length_map, List.length_range, line_val]; omega
  have l2' : (((List.range n').map fun k => (k, dv z q k)).map encR).length ≤ sizeLine := by rw [List.length_map, List.length_map, List.length_range, line_val]; omega
  have fo := first_or ((tl z p n).filter fun m => decide (m ∈ tl z q n')) (Nat.le_trans (List.length_filter_le _ _) (by rw [tl_len]; omega)) S
  have ix := first_at0 ((tl z p n).filter fun m => decide (m ∈ tl z q n'))
  simp only [ixop_L] at ix
  generalize ((tl z p n).filter fun m => decide (m ∈ tl z q n')) = L at c1 fo ix ⊢
  simp [need_zone_spec hz, need_plan_spec hp, need_plan_spec hq, need_moment_spec l0 l1, d1, d2, c1, c2, l1', l2', dict_ints, fo, ix, -List.map_map, -List.length_map]
end Q
set_option Elab.async false
set_option maxRecDepth 100000
set_option linter.all false
set_option maxHeartbeats 1000000
/-! Rising lists of moments. -/
namespace Q
open PySem QT
theorem eq_optD : EqEnc optD := fun a b => by
  cases a <;> cases b <;> simp [optD, toPy, PyData.eqv]
  rfl
theorem ok_optD : OkEnc 9 optD := fun a => by cases a <;> rfl
theorem eq_opt (a b : Option Int) : cop .eq (optD a) (optD b) = some (decide (a = b)) := eq_val eq_optD ok_optD a b
theorem ne_opt (a b : Option Int) : cop .ne (optD a) (optD b) = some (!decide (a = b)) := ne_val eq_optD ok_optD a b
theorem dv_mono {z : Z} (hz : ZOk z) {p : Pl} (hp : PlOk p) {last : Int} {n : Nat} (hn : Upto (dueN z p) last n) {i j : Nat} (hij : i < j) (hj : j < n) : dv z p i ≤ dv z p j := by
  obtain ⟨m, e, _⟩ := hn.1 j hj
  unfold dv
  cases p with
  | once x =>
    simp only [dueN] at e
    split at e
    · omega
    · cases e
  | every b st =>
    simp only [dueN, Option.getD_some]
    have := Int.mul_le_mul_of_nonneg_right (show (i : Int) ≤ j by omega) (show 0 ≤ st by have := hp.2.2.1; omega)
    omega
  | daily h =>
    simp only [dueN, Option.getD_some]
    exact fst_mono hz (by omega)
theorem tl_sorted {z : Z} (hz : ZOk z) {p : Pl} (hp : PlOk p) {last : Int} {n : Nat} (hn : Upto (dueN z p) last n) : (tl z p n).Pairwise (· ≤ ·) := by
  unfold tl
  rw [List.pairwise_iff_getElem]
  intro i j hi hj hij
  simp only [List.length_map, List.length_range] at hi hj
  simp only [List.getElem_map, List.getElem_range]
  exact dv_mono hz hp hn hij hj
theorem head_both {A B : List Int} (hA : A.Pairwise (· ≤ ·)) (hB : B.Pairwise (· ≤ ·)) : (A.filter fun m => decide (m ∈ B)).head? = (B.filter fun m => decide (m ∈ A)).head? := by
  have fA := hA.filter (fun m => decide (m ∈ B))
  have fB := hB.filter (fun m => decide (m ∈ A))
  have mA : ∀ x, x ∈ A.filter (fun m => decide (m ∈ B)) ↔ x ∈ B.filter (fun m => decide (m ∈ A)) := fun x => by
    simp only [List.mem_filter, decide_eq_true_eq]
    exact And.comm
  generalize A.filter (fun m => decide (m ∈ B)) = L at fA mA ⊢
  generalize B.filter (fun m => decide (m ∈ A)) = M at fB mA ⊢
  cases L with
  | nil =>
    cases M with
    | nil => rfl
    | cons y r => exact absurd ((mA y).mpr (List.mem_cons_self ..)) (by simp)
  | cons x r =>
    cases M with
    | nil => exact absurd ((mA x).mp (List.mem_cons_self ..)) (by simp)
    | cons y s =>
      have h1 : x ≤ y := by
        rcases List.mem_cons.mp ((mA y).mpr (List.mem_cons_self ..)) with e | e
        · omega
        · exact (List.pairwise_cons.mp fA).1 y e
      have h2 : y ≤ x := by
        rcases List.mem_cons.mp ((mA x).mp (List.mem_cons_self ..)) with e | e
        · omega
        · exact (List.pairwise_cons.mp fB).1 x e
      show some x = some y
      congr 1
      omega
theorem filter_self (A : List Int) : (A.filter fun m => decide (m ∈ A)) = A := by
  rw [List.filter_eq_self.mpr]
  intro x hx
  exact decide_eq_true hx
theorem rows_len (z : Z) (p : Pl) (b : Int) (n : Nat) : (rowsF z p b n).length = ((tl z p n).filter fun m => decide (b ≤ m)).length := by
  unfold rowsF tl
  rw [List.filter_map, List.filter_map, List.length_map, List.length_map]
  rfl
theorem head_opt (l : List Int) (h : l.length ≤ 100000) (S : Store) : (op2 (bop .add) (.d (.lst (l.map D.int))) (.d (.lst [.non])) S).bind (fun x S1 => ixW x (.d (.int 0)) S1) = .ok (.d (optD l.head?)) S := by
  have ix := first_at0 l
  rw [op2_d, first_or l h S]
  simp only [ofD_some, R.bind_ok, ixW_d, ix]
end Q
set_option Elab.async false
set_option maxRecDepth 100000
set_option linter.all false
set_option maxHeartbeats 1000000
/-! _law_dues of k02 and the laws behind it. -/
namespace Q
open PySem QT
noncomputable def cUpA : E := (.cmp .lt (.var 4) (.call "_law_clock" QTA.f_law_clock (.cons (.var 0) (.cons (.c (.int 0)) .nil))))
def bUpA : Sts := (.cons (.set 4 (.bin .add (.var 4) (.c (.int 24)))) .nil)
noncomputable def cInA : E := (.cmp .le (.var 4) (.call "_law_clock" QTA.f_law_clock (.cons (.var 0) (.cons (.var 5) .nil))))
def bInA : Sts := (.cons (.ex (.app (.var 3) (.var 5))) (.cons (.set 4 (.bin .add (.var 4) (.c (.int 24)))) .nil))
theorem up_loopA {z : Z} (hz : ZOk z) (o1 o2 o3 o5 : Option W) (S : Store) : ∀ (d n : Nat) (g : Int), shown z 0 ≤ g + 24 * d → d < n → ∃ d' : Nat, shown z 0 ≤ g + 24 * d' ∧ (d' = 0 ∨ g + 24 * d' < shown z 0 + 24) ∧
    whileL (evT cUpA) (evB bUpA) n [some (.d (encZ z)), o1, o2, o3, some (.d (.int g)), o5] S = .nx [some (.d (encZ z)), o1, o2, o3, some (.d (.int (g + 24 * d'))), o5] S := by
  intro d
  induction d with
  | zero =>
    intro n g h1 h2
    refine ⟨0, by omega, .inl rfl, ?_⟩
    rw [whileL_stop (S1 := S) (by omega) (by simp [cUpA, clock_spec hz]; omega)]
    simp
  | succ d ih =>
    intro n g h1 h2
    by_cases c : g < shown z 0
    · obtain ⟨d', e1, e2, e3⟩ := ih (n - 1) (g + 24) (by omega) (by omega)
      refine ⟨d' + 1, by omega, .inr (by omega), ?_⟩
      rw [whileL_step (S1 := S) (ρ2 := [some (.d (encZ z)), o1, o2, o3, some (.d (.int (g + 24))), o5]) (S2 := S) (by omega) (by simp [cUpA, clock_spec hz, c]) (by simp [bUpA]), e3]
      have : g + 24 + 24 * (d' : Int) = g + 24 * ((d' + 1 : Nat) : Int) := by omega
      rw [this]
    · refine ⟨0, by omega, .inl rfl, ?_⟩
      rw [whileL_stop (S1 := S) (by omega) (by simp [cUpA, clock_spec hz, c])]
      simp
/-- the times that fall on one moment -/
theorem in_loopA {z : Z} (hz : ZOk z) (g : Int) (m : Int) (m0 : 0 ≤ m) (o1 o2 : Option W) (S : Store) : ∀ (d k n : Nat), shown z m < g + 24 * k + 24 * d → d < n → k + d < 100000 → (∀ x, 0 ≤ x → x < m → shown z x < g + 24 * k) →
    ∃ k', k ≤ k' ∧ k' ≤ k + d ∧ shown z m < g + 24 * k' ∧ (∀ j, k ≤ j → j < k' → fst z (g + 24 * j) = m) ∧
      whileL (evT cInA) (evB bInA) n [some (.d (encZ z)), o1, o2, some (.loc S.length), some (.d (.int (g + 24 * k))), some (.d (.int m))] (S ++ [.lst (((List.range k).map fun (j : Nat) => fst z (g + 24 * j)).map D.int)]) =
        .nx [some (.d (encZ z)), o1, o2, some (.loc S.length), some (.d (.int (g + 24 * k'))), some (.d (.int m))] (S ++ [.lst (((List.range k').map fun (j : Nat) => fst z (g + 24 * j)).map D.int)]) := by
  intro d
  induction d with
  | zero =>
    intro k n h1 h2 _ h3
    refine ⟨k, Nat.le_refl _, Nat.le_refl _, by omega, fun j _ _ => by omega, ?_⟩
    exact whileL_stop h2 (by simp [cInA, clock_spec hz]; omega)
  | succ d ih =>
    intro k n h1 h2 hk h3
    by_cases c : g + 24 * k ≤ shown z m
    · have hf : fst z (g + 24 * k) = m := fst_eq hz m0 c h3
      obtain ⟨k', a1, a2, a3, a4, a5⟩ := ih (k + 1) (n - 1) (by omega) (by omega) (by omega) (fun x x0 x1 => by have := h3 x x0 x1; omega)
      refine ⟨k', by omega, by omega, a3, fun j j1 j2 => ?_, ?_⟩
      · by_cases q : j = k
        · subst q; exact hf
        · exact a4 j (by omega) j2
      · rw [whileL_step (ρ2 := [some (.d (encZ z)), o1, o2, some (.loc S.length), some (.d (.int (g + 24 * (k + 1 : Nat)))), some (.d (.int m))])
          (S1 := S ++ [.lst (((List.range k).map fun (j : Nat) => fst z (g + 24 * j)).map D.int)])
          (S2 := S ++ [.lst (((List.range (k + 1)).map fun (j : Nat) => fst z (g + 24 * j)).map D.int)]) (by omega) (by simp [cInA, clock_spec hz, c]) ?_]
        · exact a5
        · simp only [bInA, evB_cons, evS_ex, ev_app, ev_var, lookV_zero, lookV_succ, R.bind_ok, recvL_new]
          rw [appW_new _ _ _ (by simp only [List.length_map, List.length_range]; rw [line_val]; omega)]
          have e : g + 24 * (k : Int) + 24 = g + 24 * ((k + 1 : Nat) : Int) := by omega
          simp [List.range_succ, hf, e]
    · refine ⟨k, Nat.le_refl _, by omega, by omega, fun j _ _ => by omega, ?_⟩
      exact whileL_stop (by omega) (by simp [cInA, clock_spec hz]; omega)
noncomputable def bDayA : Sts := .cons (.whl 1000000 cInA bInA) .nil
theorem day_loopA {z : Z} (hz : ZOk z) (g : Int) (hg : -12 ≤ g) (o1 o2 : Option W) (S : Store) : ∀ (n : Nat) (m k : Nat) (o5 : Option W), m + n ≤ 20000 → k ≤ 2000 → (∀ x : Int, 0 ≤ x → x < m → shown z x < g + 24 * k) → (∀ j : Nat, j < k → fst z (g + 24 * j) < m) →
    ∃ (k' : Nat) (o5' : Option W), k' ≤ 2000 ∧ (∀ x : Int, 0 ≤ x → x < m + n → shown z x < g + 24 * k') ∧ (∀ j : Nat, j < k' → fst z (g + 24 * j) < m + n) ∧
      forL (.nm 5) (evB bDayA) ((seqI m n).map D.int) [some (.d (encZ z)), o1, o2, some (.loc S.length), some (.d (.int (g + 24 * k))), o5] (S ++ [.lst (((List.range k).map fun (j : Nat) => fst z (g + 24 * j)).map D.int)]) =
        .nx [some (.d (encZ z)), o1, o2, some (.loc S.length), some (.d (.int (g + 24 * k'))), o5'] (S ++ [.lst (((List.range k').map fun (j : Nat) => fst z (g + 24 * j)).map D.int)]) := by
  intro n
  induction n with
  | zero => intro m k o5 _ hk h1 h2; exact ⟨k, o5, hk, by simpa using h1, by simpa using h2, rfl⟩
  | succ n ih =>
    intro m k o5 hm hk h1 h2
    have hs := hz.shown m
    obtain ⟨k', a1, a2, a3, a4, a5⟩ := in_loopA hz g m (by omega) o1 o2 S ((shown z m - g).toNat + 1) k 1000000 (by omega) (by omega) (by omega) h1
    have k'l : k' ≤ 2000 := by
      by_cases q : k' = k
      · omega
      · have e := a4 (k' - 1) (by omega) (by omega)
        have f := (fst_spec hz (g + 24 * ((k' - 1 : Nat) : Int))).2.1
        rw [e] at f
        omega
    obtain ⟨k2, o', b1, b2, b3, b4⟩ := ih (m + 1) k' (some (.d (.int m))) (by omega) k'l (fun x x0 x1 => by
      by_cases q : x < m
      · have := h1 x x0 q; omega
      · have : x = m := by omega
        subst this; exact a3) (fun j hj => by
      by_cases q : j < k
      · have := h2 j q; omega
      · have := a4 j (by omega) hj; omega)
    refine ⟨k2, o', b1, fun x x0 x1 => b2 x x0 (by omega), fun j hj => by have := b3 j hj; omega, ?_⟩
    show forL (.nm 5) (evB bDayA) (D.int m :: (seqI ((m : Int) + 1) n).map D.int) _ _ = _
    rw [forL_cons]
    simp only [tgD_nm, List.set_cons_succ, List.set_cons_zero]
    have e : evB bDayA [some (.d (encZ z)), o1, o2, some (.loc S.length), some (.d (.int (g + 24 * k))), some (.d (.int m))] (S ++ [.lst (((List.range k).map fun (j : Nat) => fst z (g + 24 * j)).map D.int)]) = .nx [some (.d (encZ z)), o1, o2, some (.loc S.length), some (.d (.int (g + 24 * k'))), some (.d (.int m))] (S ++ [.lst (((List.range k').map fun (j : Nat) => fst z (g + 24 * j)).map D.int)]) := by
      unfold bDayA
      rw [evB_cons, evS_whl, a5]
      rfl
    rw [e]
    exact b4
theorem duesA_daily {z : Z} (hz : ZOk z) {h : Int} (hp : PlOk (.daily h)) (last : Nat) (hl : last ≤ 19000) (S : Store) :
    ∃ n, Upto (dueN z (.daily h)) last n ∧ QTA.f_law_dues [.d (encZ z), .d (encP (.daily h)), .d (.int last)] S = .ok (.d (.lst (((List.range n).map fun k => dv z (.daily h) k).map D.int))) S := by
  have s0 := hz.shown 0
  have lo := goal0_lo z h
  have hp1 := hp.1
  have hp2 := hp.2
  obtain ⟨k', o', a1, a2, a3, a4⟩ := day_loopA hz (goal0 z h) (by omega) (some (.d (encP (.daily h)))) (some (.d (.int last))) S (last + 1) 0 0 none (by omega) (by omega) (fun x x0 x1 => by omega) (fun j hj => by omega)
  refine ⟨k', ⟨fun j hj => ⟨_, rfl, by have := a3 j hj; omega⟩, .inr ⟨_, rfl, ?_⟩⟩, ?_⟩
  · obtain ⟨f1, f2, f3⟩ := fst_spec hz (goal0 z h + 24 * k')
    refine Classical.byContradiction fun q => ?_
    have := a2 _ f1 (by omega)
    omega
  · obtain ⟨d', u1, u2, u⟩ := up_loopA hz (some (.d (encP (.daily h)))) (some (.d (.int last))) (some (.loc S.length)) none (S ++ [.lst []]) 3 1000000 (h - 24) (by omega) (by omega)
    have g1 : h - 24 + 24 * (d' : Int) = goal0 z h := goal0_eq (q := (d' : Int) - 1) (by omega) u1 (by omega)
    rw [g1] at u
    unfold QTA.f_law_dues
    rw [defF3]
    unfold QTA.b_law_dues
    have it := itR1_nat (last + 1) (by omega) (S ++ [.lst []])
    simp only [Int.natCast_add, Int.cast_ofNat_Int] at it
    simp only [cUpA, bUpA, encP] at u
    simp only [bDayA, cInA, bInA, encP, List.range_zero, List.map_nil, Int.cast_ofNat_Int, Int.mul_zero, Int.add_zero] at a4
    simp [encP, u, it]
    rw [a4]
    simp [dv, dueN]
theorem duesA_spec {z : Z} (hz : ZOk z) {p : Pl} (hp : PlOk p) {last n : Nat} (hl : last ≤ 19000) (hn : Upto (dueN z p) last n) (S : Store) :
    QTA.f_law_dues [.d (encZ z), .d (encP p), .d (.int last)] S = .ok (.d (.lst (((List.range n).map fun k => dv z p k).map D.int))) S := by
  cases p with
  | daily h =>
    obtain ⟨n', h1, h2⟩ := duesA_daily hz hp last hl S
    rw [hn.uniq h1]
    exact h2
  | once x =>
    have mul : ∀ k : Nat, k ≤ 1 → bop .mul (.lst [.int x]) (.int k) = some (.lst (List.replicate k (D.int x))) := fun k hk => by
      unfold bop
      dsimp only
      rw [if_pos (by
        refine ⟨by omega, by omega, ?_⟩
        rw [line_val]; simp; omega)]
      have : k = 0 ∨ k = 1 := by omega
      rcases this with rfl | rfl <;> rfl
    have m0 := mul 0 (by omega)
    have m1 := mul 1 (by omega)
    simp only [Int.cast_ofNat_Int] at m0 m1
    unfold QTA.f_law_dues
    rw [defF3]
    unfold QTA.b_law_dues
    by_cases c : x ≤ last
    · have : n = 1 := hn.uniq ⟨fun j hj => ⟨x, by simp [dueN]; omega, c⟩, .inl (by simp [dueN])⟩
      subst this
      simp [encP, c, dv, dueN, m1]
    · have : n = 0 := hn.uniq ⟨fun j hj => by omega, .inr ⟨x, by simp [dueN], by omega⟩⟩
      subst this
      simp [encP, c, m0]
  | every b st =>
    have e := hn.uniq (upto_every hp.2.2.1 last)
    unfold QTA.f_law_dues
    rw [defF3]
    unfold QTA.b_law_dues
    have hn2 := upto_le hz hp (show (0 : Int) ≤ last by omega) hn
    have h1 := hp.1
    have h2 := hp.2.1
    have h3 := hp.2.2.1
    have h4 := hp.2.2.2
    simp [encP]
    rw [lrgW_int (by omega) (by omega) (by omega) (by omega) h3 (by omega) (by rw [← e, line_val]; omega), ← e]
    simp [rngC, dv, dueN]
end Q
set_option Elab.async false
set_option maxRecDepth 100000
set_option linter.all false
set_option maxHeartbeats 1000000
/-! Plans of the first fifteen laws. -/
namespace Q
open PySem QT
def PlInA : Pl → Prop
  | .once m => 0 ≤ m ∧ m < 2500
  | .every b st => 0 ≤ b ∧ b < 50 ∧ 1 ≤ st ∧ st ≤ 999
  | .daily h => 0 ≤ h ∧ h ≤ 23
theorem PlInA.ok : ∀ {p : Pl}, PlInA p → PlOk p
  | .once m, h => ⟨h.1, by have := h.2; omega⟩
  | .every b st, h => ⟨h.1, by have := h.2.1; omega, h.2.2.1, h.2.2.2⟩
  | .daily h, q => q
theorem planA_spec (ns : List Int) (k : Nat) (hk : k + 10 ≤ 100000) (S : Store) :
    ∃ (p : Pl) (k' : Nat), PlInA p ∧ k ≤ k' ∧ k' ≤ k + 5 ∧ QTA.f_law_plan [.d (.scr ns), .loc 0] (town k :: S) = .ok (.d (encP p)) (town k' :: S) := by
  obtain ⟨kd, hkd, dk⟩ := drawA_ex ns k (by omega) (many := 5) (by omega)
  unfold QTA.f_law_plan
  rw [defF2]
  unfold QTA.b_law_plan
  by_cases h0 : kd = 0
  · subst h0
    obtain ⟨v, hv, pv⟩ := pickA_int ns (k + 1) (by omega) [100, 100, 2500] (by decide)
    have hv2 : 1 ≤ v ∧ v ≤ 2500 := by
      simp only [List.mem_cons, List.not_mem_nil, or_false] at hv
      omega
    simp only [List.map] at pv
    obtain ⟨m, hm, dm⟩ := drawA_ex ns (k + 1 + 1) (by omega) (many := v) (by omega)
    refine ⟨.once m, k + 1 + 1 + 1, ⟨by omega, by omega⟩, by omega, by omega, ?_⟩
    simp only [Int.cast_ofNat_Int] at dk
    simp [dk, pv, dm, fin_rtT0, encP]
  · have h0' : ¬ (kd : Int) = 0 := by omega
    by_cases h1 : (kd : Int) < 3
    · obtain ⟨v, hv, pv⟩ := pickA_int ns (k + 1) (by omega) [30, 30, 999] (by decide)
      have hv2 : 1 ≤ v ∧ v ≤ 999 := by
        simp only [List.mem_cons, List.not_mem_nil, or_false] at hv
        omega
      simp only [List.map] at pv
      obtain ⟨st, hst, ds⟩ := drawA_ex ns (k + 1 + 1) (by omega) (many := v) (by omega)
      obtain ⟨m, hm, dm⟩ := drawA_ex ns (k + 1 + 1 + 1) (by omega) (many := 50) (by omega)
      refine ⟨.every m (1 + st), k + 1 + 1 + 1 + 1, ⟨by omega, by omega, by omega, by omega⟩, by omega, by omega, ?_⟩
      simp [dk, pv, ds, dm, fin_rtT0, encP, h0', h0, h1]
    · obtain ⟨m, hm, dm⟩ := drawA_ex ns (k + 1) (by omega) (many := 24) (by omega)
      refine ⟨.daily m, k + 1 + 1, ⟨by omega, by omega⟩, by omega, by omega, ?_⟩
      simp [dk, dm, fin_rtT0, encP, h0', h0, h1]
end Q
set_option Elab.async false
set_option maxRecDepth 100000
set_option linter.all false
set_option maxHeartbeats 1000000
/-! Two stretches of a plan's times. -/
namespace Q
open PySem QT
theorem rows_join {z : Z} (hz : ZOk z) {p : Pl} (hp : PlOk p) {cut last : Int} (hc : cut ≤ last) {n1 n2 : Nat} (h1 : Upto (dueN z p) cut n1) (h2 : Upto (dueN z p) last n2) : rowsF z p 0 n1 ++ rowsF z p (cut + 1) n2 = rowsF z p 0 n2 := by
  have hle : n1 ≤ n2 := by
    refine Classical.byContradiction fun q => ?_
    obtain ⟨m, e, l⟩ := h1.1 n2 (by omega)
    rcases h2.2 with k | ⟨m', e', l'⟩
    · rw [k] at e; cases e
    · rw [e] at e'; cases e'; omega
  have lo : ∀ k : Nat, k < n1 → dv z p k ≤ cut := fun k hk => by
    obtain ⟨m, e, l⟩ := h1.1 k hk
    unfold dv; rw [e]; exact l
  have hi : ∀ k : Nat, n1 ≤ k → k < n2 → cut < dv z p k := fun k hk hk2 => by
    have h0 : cut < dv z p n1 := by
      rcases h1.2 with e | ⟨m, e, l⟩
      · obtain ⟨m, e', _⟩ := h2.1 n1 (by omega)
        rw [e] at e'; cases e'
      · unfold dv; rw [e]; exact l
    by_cases q : k = n1
    · subst q; exact h0
    · have := dv_mono hz hp h2 (show n1 < k by omega) hk2
      omega
  rw [rows_tl hz hp, rows_tl hz hp]
  obtain ⟨d, rfl⟩ := Nat.le.dest hle
  unfold rowsF
  rw [List.range_add, List.map_append, List.filter_append]
  congr 1
  rw [List.filter_eq_nil_iff.mpr, List.filter_eq_self.mpr, List.nil_append]
  · intro r hr
    obtain ⟨k, hk, rfl⟩ := List.mem_map.mp hr
    obtain ⟨i, hi', rfl⟩ := List.mem_map.mp hk
    have := hi (n1 + i) (by omega) (by have := List.mem_range.mp hi'; omega)
    exact decide_eq_true (by show cut + 1 ≤ dv z p (n1 + i); omega)
  · intro r hr
    obtain ⟨k, hk, rfl⟩ := List.mem_map.mp hr
    have := lo k (List.mem_range.mp hk)
    have q : ¬ cut + 1 ≤ dv z p k := by omega
    simpa using q
end Q
set_option Elab.async false
set_option maxRecDepth 100000
set_option linter.all false
set_option maxHeartbeats 1000000
/-! Each second one. -/
namespace Q
open PySem QT
theorem ev2_range {α : Type} (g : Nat → α) (n : Nat) : ev2 ((List.range n).map g) = (List.range ((n + 1) / 2)).map fun k => g (2 * k) := by
  unfold ev2
  rw [List.length_map, List.length_range, List.filterMap_map]
  have go : ∀ l : List Nat, (∀ k ∈ l, 2 * k < n) → l.filterMap ((fun i => ((List.range n).map g)[i]?) ∘ fun k => 2 * k) = l.map fun k => g (2 * k) := by
    intro l
    induction l with
    | nil => intro _; rfl
    | cons k r ih =>
      intro h
      have hk := h k (List.mem_cons_self ..)
      rw [List.filterMap_cons]
      have e : ((fun i => ((List.range n).map g)[i]?) ∘ fun k => 2 * k) k = some (g (2 * k)) := by
        show ((List.range n).map g)[2 * k]? = _
        rw [List.getElem?_map, List.getElem?_range hk]
        rfl
      rw [e, ih fun j hj => h j (List.mem_cons_of_mem _ hj)]
      rfl
  exact go _ fun k hk => by have := List.mem_range.mp hk; omega
@[simp] theorem ev_sl2 (a : E) (ρ : Env) (S : Store) : ev (.sl2 a) ρ S = (ev a ρ S).bind fun x S1 => sl2W x S1 := nf rfl
@[simp] theorem sl2W_d (xs : List D) (S : Store) : sl2W (.d (.lst xs)) S = .ok (.d (.lst (ev2 xs))) S := nf rfl
end Q
set_option Elab.async false
set_option maxRecDepth 100000
set_option linter.all false
set_option maxHeartbeats 1000000
/-! One more shift behind a last moment. -/
namespace Q
open PySem QT
theorem ahead_snoc (l : List (Int × Int)) (s : Int × Int) (x : Int) : ∀ a : Int, aheadA a (l ++ [s]) x = if s.1 ≤ x then s.2 else aheadA a l x := by
  induction l with
  | nil => intro a; rfl
  | cons t r ih => intro a; exact ih (if t.1 ≤ x then t.2 else a)
theorem shown_snoc (z : Z) (s : Int × Int) {x : Int} (h : x < s.1) : shown (z.1, z.2 ++ [s]) x = shown z x := by
  unfold shown
  rw [ahead_snoc, if_neg (by omega)]
theorem fst_same {z z' : Z} (hz : ZOk z) (hz' : ZOk z') {last : Int} (h : ∀ x : Int, 0 ≤ x → x ≤ last → shown z' x = shown z x) (g : Int) : (fst z g ≤ last → fst z' g = fst z g) ∧ (last < fst z g → last < fst z' g) := by
  obtain ⟨a, b, c⟩ := fst_spec hz g
  refine ⟨fun l => fst_eq hz' a (by rw [h _ a l]; exact b) fun x x0 x1 => by rw [h x x0 (by omega)]; exact c x x0 x1, fun l => ?_⟩
  obtain ⟨a', b', c'⟩ := fst_spec hz' g
  refine Classical.byContradiction fun q => ?_
  have := c _ a' (by omega)
  rw [h _ a' (by omega)] at b'
  omega
end Q
set_option Elab.async false
set_option maxRecDepth 100000
set_option linter.all false
set_option maxHeartbeats 1000000
namespace Q
open PySem QT
theorem eq_encS : EqEnc encS := fun a b => by
  obtain ⟨a1, a2⟩ := a
  obtain ⟨b1, b2⟩ := b
  simp only [encS, toPy, toPys, PyData.eqv, PyData.eqvAll, Prod.mk.injEq]
  by_cases h1 : a1 = b1 <;> by_cases h2 : a2 = b2 <;> simp [h1, h2]
theorem eq_tnil (l : List (Int × Int)) : cop .eq (.tup (l.map encS)) (.tup []) = some (decide (l = [])) := by
  have ok : ∀ n, OkEnc (n + 1) encS := fun n a => okds_map (ok_int n) [a.1, a.2]
  show (if (okd 9 (.tup (l.map encS)) && okd 9 (.tup [])) = true then some (PyData.eqv (.tuple (toPys (l.map encS))) (.tuple (toPys []))) else none) = _
  have h1 : okd 9 (.tup (l.map encS)) = true := okds_map (ok 7) l
  rw [h1, if_pos (show (true && okd 9 (.tup [])) = true from rfl)]
  congr 1
  have := eqvAll_map eq_encS l []
  simpa [PyData.eqv] using this
end Q
set_option Elab.async false
set_option maxRecDepth 100000
set_option linter.all false
set_option maxHeartbeats 1000000
/-! What is told of an error. -/
namespace Q
open PySem QT
theorem newlOf_ds (xs : List D) (h : xs.length ≤ sizeLine) (S : Store) : newlOf (xs.map W.d) S = .ok (.loc S.length) (S ++ [.lst xs]) := by
  unfold newlOf
  rw [List.length_map, if_pos h, allD_map]
@[simp] theorem newlOf_d4 (a b c d : D) (S : Store) : newlOf [.d a, .d b, .d c, .d d] S = .ok (.loc S.length) (S ++ [.lst [a, b, c, d]]) := nf rfl
theorem extW_new (S : Store) (xs ys : List D) (h : xs.length + ys.length ≤ sizeLine) : extW (.loc S.length) (.d (.lst ys)) (S ++ [.lst xs]) = .ok (.d .non) (S ++ [.lst (xs ++ ys)]) := by
  simp [extW, h]
theorem cntW_new (S : Store) (xs : List D) (y : D) : cntW (.loc S.length) (.d y) (S ++ [.lst xs]) = ofD (cntD xs y) (S ++ [.lst xs]) := by
  simp [cntW, view_new]
theorem idxW_new (S : Store) (xs : List D) (y : D) : idxW (.loc S.length) (.d y) (S ++ [.lst xs]) = ofD (idxD xs y) (S ++ [.lst xs]) := by
  simp [idxW, view_new]
end Q
namespace QTA
open PySem Q
theorem which_spec (c : Nat) (h1 : 1 ≤ c) (h2 : c ≤ 11) (a : PySem.Addr) (S : Store) : QTA.f_law_which c a [.at_ a] S = .ok (.d (.tup [.str "refused", .int ((c : Int) - 1)])) S := by
  unfold QTA.f_law_which
  rw [defF1]
  unfold QTA.b_law_which
  have e1 := extW_new S ([isC c 1, isC c 2, isC c 3, isC c 4].map D.bl) ([isC c 5, isC c 6, isC c 7, isC c 8].map D.bl) (by rw [line_val]; simp)
  have e2 := extW_new S ([isC c 1, isC c 2, isC c 3, isC c 4, isC c 5, isC c 6, isC c 7, isC c 8].map D.bl) ([isC c 9, isC c 10, isC c 11].map D.bl) (by rw [line_val]; simp)
  have c1 : cntD ([isC c 1, isC c 2, isC c 3, isC c 4, isC c 5, isC c 6, isC c 7, isC c 8, isC c 9, isC c 10, isC c 11].map D.bl) (.bl true) = some (.int 1) := by
    obtain rfl | rfl | rfl | rfl | rfl | rfl | rfl | rfl | rfl | rfl | rfl : c = 1 ∨ c = 2 ∨ c = 3 ∨ c = 4 ∨ c = 5 ∨ c = 6 ∨ c = 7 ∨ c = 8 ∨ c = 9 ∨ c = 10 ∨ c = 11 := by omega
    all_goals rfl
  have i1 : idxD ([isC c 1, isC c 2, isC c 3, isC c 4, isC c 5, isC c 6, isC c 7, isC c 8, isC c 9, isC c 10, isC c 11].map D.bl) (.bl true) = some (.int ((c : Int) - 1)) := by
    obtain rfl | rfl | rfl | rfl | rfl | rfl | rfl | rfl | rfl | rfl | rfl : c = 1 ∨ c = 2 ∨ c = 3 ∨ c = 4 ∨ c = 5 ∨ c = 6 ∨ c = 7 ∨ c = 8 ∨ c = 9 ∨ c = 10 ∨ c = 11 := by omega
    all_goals rfl
  simp only [List.map_cons, List.map_nil, List.cons_append, List.nil_append] at e1 e2 c1 i1
  simp [e1, e2, cntW_new, idxW_new, c1, i1]
end QTA
namespace QT
open PySem Q
theorem which_spec (c : Nat) (h1 : 1 ≤ c) (h2 : c ≤ 14) (a : PySem.Addr) (S : Store) : QT.f_law_which c a [.at_ a] S = .ok (.d (.tup [.str "refused", .int ((c : Int) - 1)])) S := by
  unfold QT.f_law_which
  rw [defF1]
  unfold QT.b_law_which
  have e1 := extW_new S ([isC c 1, isC c 2, isC c 3, isC c 4].map D.bl) ([isC c 5, isC c 6, isC c 7, isC c 8].map D.bl) (by rw [line_val]; simp)
  have e2 := extW_new S ([isC c 1, isC c 2, isC c 3, isC c 4, isC c 5, isC c 6, isC c 7, isC c 8].map D.bl) ([isC c 9, isC c 10, isC c 11, isC c 12].map D.bl) (by rw [line_val]; simp)
  have e3 := extW_new S ([isC c 1, isC c 2, isC c 3, isC c 4, isC c 5, isC c 6, isC c 7, isC c 8, isC c 9, isC c 10, isC c 11, isC c 12].map D.bl) ([isC c 13, isC c 14].map D.bl) (by rw [line_val]; simp)
  have c1 : cntD ([isC c 1, isC c 2, isC c 3, isC c 4, isC c 5, isC c 6, isC c 7, isC c 8, isC c 9, isC c 10, isC c 11, isC c 12, isC c 13, isC c 14].map D.bl) (.bl true) = some (.int 1) := by
    obtain rfl | rfl | rfl | rfl | rfl | rfl | rfl | rfl | rfl | rfl | rfl | rfl | rfl | rfl : c = 1 ∨ c = 2 ∨ c = 3 ∨ c = 4 ∨ c = 5 ∨ c = 6 ∨ c = 7 ∨ c = 8 ∨ c = 9 ∨ c = 10 ∨ c = 11 ∨ c = 12 ∨ c = 13 ∨ c = 14 := by omega
    all_goals rfl
  have i1 : idxD ([isC c 1, isC c 2, isC c 3, isC c 4, isC c 5, isC c 6, isC c 7, isC c 8, isC c 9, isC c 10, isC c 11, isC c 12, isC c 13, isC c 14].map D.bl) (.bl true) = some (.int ((c : Int) - 1)) := by
    obtain rfl | rfl | rfl | rfl | rfl | rfl | rfl | rfl | rfl | rfl | rfl | rfl | rfl | rfl : c = 1 ∨ c = 2 ∨ c = 3 ∨ c = 4 ∨ c = 5 ∨ c = 6 ∨ c = 7 ∨ c = 8 ∨ c = 9 ∨ c = 10 ∨ c = 11 ∨ c = 12 ∨ c = 13 ∨ c = 14 := by omega
    all_goals rfl
  simp only [List.map_cons, List.map_nil, List.cons_append, List.nil_append] at e1 e2 e3 c1 i1
  simp [e1, e2, e3, cntW_new, idxW_new, c1, i1]
end QT
set_option Elab.async false
set_option maxRecDepth 100000
set_option linter.all false
set_option maxHeartbeats 1000000
/-! What is no zone, no plan, no moment. -/
namespace Q
open PySem QT
mutual
/-- a thing that is looked at -/
def pln : D → Bool
  | .non => true
  | .bl _ => true
  | .int _ => true
  | .str s => PyData.strOk s
  | .tup xs => plns xs
  | .lst _ => true
  | _ => false
def plns : List D → Bool
  | [] => true
  | x :: xs => pln x && plns xs
end
def wholeD (x : D) (lo hi : Int) : Bool := match x with
  | .int i => decide (lo ≤ i) && decide (i ≤ hi)
  | _ => false
theorem whole_gen (x : D) (h : pln x = true) (lo hi : Int) (S : Store) : f_is_whole [.d x, .d (.int lo), .d (.int hi)] S = .ok (.d (.bl (wholeD x lo hi))) S := by
  unfold f_is_whole
  rw [defF3]
  unfold b_is_whole
  cases x with
  | int i => by_cases c : lo ≤ i <;> simp [c, wholeD]
  | non => simp [isi, wholeD]
  | bl b => simp [isi, wholeD]
  | str s => simp [isi, wholeD]
  | tup xs => simp [isi, wholeD]
  | lst xs => simp [isi, wholeD]
  | scr _ => simp [pln] at h
  | fn _ => simp [pln] at h
  | dct _ => simp [pln] at h
def shiftsD : Int → List D → Bool
  | _, [] => true
  | last, .tup [.int i, b] :: r => wholeD b (-12) 14 && decide (last + 1 ≤ i) && decide (i ≤ 9999) && shiftsD i r
  | _, _ :: _ => false
def isZoneD : D → Bool
  | .tup [a, .tup l] => wholeD a (-12) 14 && decide (l.length ≤ 6) && shiftsD 0 l
  | _ => false
theorem shifts_step (z0 : Option W) (a : Int) (x : D) (hx : pln x = true) (S : Store) : (∃ (i : Int) (b : D), x = .tup [.int i, b] ∧ (wholeD b (-12) 14 && decide (a + 1 ≤ i) && decide (i ≤ 9999)) = true ∧ evB (.cons (.ife (.or (.cons (.nt (.isi (.var 2) .tuple)) (.cons (.cmp .ne (.bi .len (.cons (.var 2) .nil)) (.c (.int 2))) (.cons (.nt (.call "is_whole" QT.f_is_whole (.cons (.ix (.var 2) (.c (.int 1))) (.cons (.gl "LOW" (.int (-12))) (.cons (.gl "HIGH" (.int 14)) .nil))))) .nil)))) (.cons (.ret (.c (.bl false))) .nil) .nil) (.cons (.ife (.nt (.call "is_whole" QT.f_is_whole (.cons (.ix (.var 2) (.c (.int 0))) (.cons (.bin .add (.var 1) (.c (.int 1))) (.cons (.gl "MOMENTS" (.int 9999)) .nil))))) (.cons (.ret (.c (.bl false))) .nil) .nil) (.cons (.set 1 (.ix (.var 2) (.c (.int 0)))) .nil))) [z0, some (.d (.int a)), some (.d x)] S = .nx [z0, some (.d (.int i)), some (.d x)] S) ∨
    ((∀ r, shiftsD a (x :: r) = false) ∧ evB (.cons (.ife (.or (.cons (.nt (.isi (.var 2) .tuple)) (.cons (.cmp .ne (.bi .len (.cons (.var 2) .nil)) (.c (.int 2))) (.cons (.nt (.call "is_whole" QT.f_is_whole (.cons (.ix (.var 2) (.c (.int 1))) (.cons (.gl "LOW" (.int (-12))) (.cons (.gl "HIGH" (.int 14)) .nil))))) .nil)))) (.cons (.ret (.c (.bl false))) .nil) .nil) (.cons (.ife (.nt (.call "is_whole" QT.f_is_whole (.cons (.ix (.var 2) (.c (.int 0))) (.cons (.bin .add (.var 1) (.c (.int 1))) (.cons (.gl "MOMENTS" (.int 9999)) .nil))))) (.cons (.ret (.c (.bl false))) .nil) .nil) (.cons (.set 1 (.ix (.var 2) (.c (.int 0)))) .nil))) [z0, some (.d (.int a)), some (.d x)] S = .rt (.d (.bl false)) S) := by
  cases x with
  | int i => right; exact ⟨fun r => rfl, by simp [isi]⟩
  | non => right; exact ⟨fun r => rfl, by simp [isi]⟩
  | bl b => right; exact ⟨fun r => rfl, by simp [isi]⟩
  | str s => right; exact ⟨fun r => rfl, by simp [isi]⟩
  | lst xs => right; exact ⟨fun r => rfl, by simp [isi]⟩
  | scr _ => simp [pln] at hx
  | fn _ => simp [pln] at hx
  | dct _ => simp [pln] at hx
  | tup ys =>
    rcases ys with _ | ⟨y, _ | ⟨b, _ | ⟨c, r⟩⟩⟩
    · right; exact ⟨fun r => rfl, by simp⟩
    · right; exact ⟨fun r => by simp [shiftsD], by simp⟩
    · simp only [pln, plns, Bool.and_eq_true, and_true] at hx
      have wb := whole_gen b hx.2 (-12) 14 S
      have wy := whole_gen y hx.1 (a + 1) 9999 S
      by_cases cb : wholeD b (-12) 14 = true
      · rw [cb] at wb
        cases y with
        | int i =>
          by_cases cy : (decide (a + 1 ≤ i) && decide (i ≤ 9999)) = true
          · left
            refine ⟨i, b, rfl, by rw [cb]; simpa using cy, ?_⟩
            have wy' : wholeD (.int i) (a + 1) 9999 = true := cy
            rw [wy'] at wy
            simp [wb, wy]
          · right
            have wy' : wholeD (.int i) (a + 1) 9999 = false := by
              show (decide (a + 1 ≤ i) && decide (i ≤ 9999)) = false
              exact Bool.eq_false_iff.mpr cy
            rw [wy'] at wy
            refine ⟨fun r => ?_, by simp [wb, wy]⟩
            simp only [Bool.and_eq_true, decide_eq_true_eq] at cy
            simp only [shiftsD]
            by_cases q : a + 1 ≤ i
            · have : ¬ i ≤ 9999 := fun z => cy ⟨q, z⟩
              simp [this]
            · simp [q]
        | non => right; exact ⟨fun r => rfl, by simp [wb, wy, wholeD]⟩
        | bl _ => right; exact ⟨fun r => rfl, by simp [wb, wy, wholeD]⟩
        | str _ => right; exact ⟨fun r => rfl, by simp [wb, wy, wholeD]⟩
        | tup _ => right; exact ⟨fun r => rfl, by simp [wb, wy, wholeD]⟩
        | lst _ => right; exact ⟨fun r => rfl, by simp [wb, wy, wholeD]⟩
        | scr _ => simp [pln] at hx
        | fn _ => simp [pln] at hx
        | dct _ => simp [pln] at hx
      · have cb' : wholeD b (-12) 14 = false := by simpa using cb
        rw [cb'] at wb
        right
        refine ⟨fun r => ?_, by simp [wb]⟩
        cases y <;> simp [shiftsD, cb']
    · right
      refine ⟨fun r => by cases y <;> rfl, ?_⟩
      have : ¬ ((r.length : Int) + 1 + 1 + 1 = 2) := by omega
      simp [this]
theorem zone_loop_gen (z0 : Option W) (S : Store) : ∀ (l : List D) (a : Int) (o2 : Option W), plns l = true →
    (∃ ρ, forL (.nm 2) (evB (.cons (.ife (.or (.cons (.nt (.isi (.var 2) .tuple)) (.cons (.cmp .ne (.bi .len (.cons (.var 2) .nil)) (.c (.int 2))) (.cons (.nt (.call "is_whole" QT.f_is_whole (.cons (.ix (.var 2) (.c (.int 1))) (.cons (.gl "LOW" (.int (-12))) (.cons (.gl "HIGH" (.int 14)) .nil))))) .nil)))) (.cons (.ret (.c (.bl false))) .nil) .nil) (.cons (.ife (.nt (.call "is_whole" QT.f_is_whole (.cons (.ix (.var 2) (.c (.int 0))) (.cons (.bin .add (.var 1) (.c (.int 1))) (.cons (.gl "MOMENTS" (.int 9999)) .nil))))) (.cons (.ret (.c (.bl false))) .nil) .nil) (.cons (.set 1 (.ix (.var 2) (.c (.int 0)))) .nil)))) l [z0, some (.d (.int a)), o2] S = if shiftsD a l = true then .nx ρ S else .rt (.d (.bl false)) S) := by
  intro l
  induction l with
  | nil => intro a o2 _; exact ⟨_, rfl⟩
  | cons x r ih =>
    intro a o2 hp
    simp only [plns, Bool.and_eq_true] at hp
    rcases shifts_step z0 a x hp.1 S with ⟨i, b, rfl, hb, e⟩ | ⟨hno, e⟩
    · obtain ⟨ρ, h⟩ := ih i (some (.d (.tup [.int i, b]))) hp.2
      refine ⟨ρ, ?_⟩
      rw [forL_cons]
      simp only [tgD_nm, List.set_cons_succ, List.set_cons_zero, e, andThen_nx, h]
      have : shiftsD a (.tup [.int i, b] :: r) = shiftsD i r := by
        show (wholeD b (-12) 14 && decide (a + 1 ≤ i) && decide (i ≤ 9999) && shiftsD i r) = _
        rw [hb, Bool.true_and]
      rw [this]
    · refine ⟨[], ?_⟩
      rw [forL_cons]
      simp only [tgD_nm, List.set_cons_succ, List.set_cons_zero, e, andThen_rt, hno]
      simp
theorem is_zone_gen (x : D) (h : pln x = true) (S : Store) : f_is_zone [.d x] S = .ok (.d (.bl (isZoneD x))) S := by
  unfold f_is_zone
  rw [defF1]
  unfold b_is_zone
  cases x with
  | int i => simp [isi, isZoneD]
  | non => simp [isi, isZoneD]
  | bl b => simp [isi, isZoneD]
  | str s => simp [isi, isZoneD]
  | lst xs => simp [isi, isZoneD]
  | scr _ => simp [pln] at h
  | fn _ => simp [pln] at h
  | dct _ => simp [pln] at h
  | tup ys =>
    rcases ys with _ | ⟨y, _ | ⟨b, _ | ⟨c, r⟩⟩⟩
    · simp [isZoneD]
    · simp [isZoneD]
    · simp only [pln, plns, Bool.and_eq_true, and_true] at h
      have wy := whole_gen y h.1 (-12) 14 S
      by_cases cy : wholeD y (-12) 14 = true
      · rw [cy] at wy
        cases b with
        | tup l =>
          have hl : plns l = true := by simpa [pln] using h.2
          obtain ⟨ρ, q⟩ := zone_loop_gen (some (.d (.tup [y, .tup l]))) S l 0 none hl
          by_cases c6 : l.length ≤ 6
          · have c6' : ¬ (6 : Int) < l.length := by omega
            simp [wy, c6', isZoneD, cy, c6]
            rw [q]
            by_cases cs : shiftsD 0 l = true
            · simp [cs]
            · simp [cs]
          · have c6' : (6 : Int) < l.length := by omega
            simp [wy, c6', isZoneD, cy, c6]
        | int _ => simp [wy, isi, isZoneD]
        | non => simp [wy, isi, isZoneD]
        | bl _ => simp [wy, isi, isZoneD]
        | str _ => simp [wy, isi, isZoneD]
        | lst _ => simp [wy, isi, isZoneD]
        | scr _ => simp [pln] at h
        | fn _ => simp [pln] at h
        | dct _ => simp [pln] at h
      · have cy' : wholeD y (-12) 14 = false := by simpa using cy
        rw [cy'] at wy
        cases b <;> simp [wy, isZoneD, cy']
    · have : ¬ ((r.length : Int) + 1 + 1 + 1 = 2) := by omega
      simp [this, isZoneD]
theorem need_zone_gen (x : D) (h : pln x = true) (S : Store) : f_need_zone [.d x] S = if isZoneD x = true then .ok (.d .non) S else .exc 1 S := by
  unfold f_need_zone
  rw [defF1]
  unfold b_need_zone
  by_cases c : isZoneD x = true <;> simp [is_zone_gen x h, c]
theorem need_zone_no (x : D) (h : pln x = true) (k : isZoneD x = false) (S : Store) : f_need_zone [.d x] S = .exc 1 S := by
  rw [need_zone_gen x h, k]; rfl
theorem need_moment_gen (x : D) (h : pln x = true) (S : Store) : f_need_moment [.d x] S = if wholeD x 0 9999 = true then .ok (.d .non) S else .exc 3 S := by
  unfold f_need_moment
  rw [defF1]
  unfold b_need_moment
  by_cases c : wholeD x 0 9999 = true <;> simp [whole_gen x h, c]
theorem need_moment_no (x : D) (h : pln x = true) (k : wholeD x 0 9999 = false) (S : Store) : f_need_moment [.d x] S = .exc 3 S := by
  rw [need_moment_gen x h, k]; rfl
def isS (s t : Str) : Bool := PyData.eqv (.str s) (.str t)
theorem cop_eqS {s t : Str} (hs : PyData.strOk s = true) (ht : PyData.strOk t = true) : cop .eq (.str s) (.str t) = some (isS s t) := by
  show (if (okd 9 (.str s) && okd 9 (.str t)) = true then some (PyData.eqv (toPy (.str s)) (toPy (.str t))) else none) = _
  simp [okd, hs, ht, toPy, isS]
def isPlanD : D → Bool
  | .tup (.str s :: r) => if isS s "once" then (match r with
      | [a] => wholeD a 0 9999
      | _ => false) else if isS s "every" then (match r with
      | [a, b] => wholeD a 0 9999 && wholeD b 1 999
      | _ => false) else isS s "daily" && (match r with
      | [a] => wholeD a 0 23
      | _ => false)
  | _ => false
theorem is_plan_gen (x : D) (h : pln x = true) (S : Store) : f_is_plan [.d x] S = .ok (.d (.bl (isPlanD x))) S := by
  unfold f_is_plan
  rw [defF1]
  unfold b_is_plan
  cases x with
  | int i => simp [isi, isPlanD]
  | non => simp [isi, isPlanD]
  | bl b => simp [isi, isPlanD]
  | str s => simp [isi, isPlanD]
  | lst xs => simp [isi, isPlanD]
  | scr _ => simp [pln] at h
  | fn _ => simp [pln] at h
  | dct _ => simp [pln] at h
  | tup ys =>
    rcases ys with _ | ⟨y, r⟩
    · simp [isPlanD]
    · have n0 : ¬ ((r.length : Int) + 1 = 0) := by omega
      simp only [pln, plns, Bool.and_eq_true] at h
      cases y with
      | int _ => simp [n0, isi, isPlanD]
      | non => simp [n0, isi, isPlanD]
      | bl _ => simp [n0, isi, isPlanD]
      | tup _ => simp [n0, isi, isPlanD]
      | lst _ => simp [n0, isi, isPlanD]
      | scr _ => simp [pln] at h
      | fn _ => simp [pln] at h
      | dct _ => simp [pln] at h
      | str s =>
        have hs : PyData.strOk s = true := by simpa [pln] using h.1
        have e1 := cop_eqS hs (t := "once") (by decide +kernel)
        have e2 := cop_eqS hs (t := "every") (by decide +kernel)
        have e3 := cop_eqS hs (t := "daily") (by decide +kernel)
        by_cases c1 : isS s "once" = true
        · rw [c1] at e1
          rcases r with _ | ⟨a, _ | ⟨b, r⟩⟩
          · simp [isi, isPlanD, e1, c1]
          · simp only [plns, Bool.and_eq_true, and_true] at h
            simp [isi, isPlanD, e1, c1, whole_gen a h.2]
          · have : ¬ ((r.length : Int) + 1 + 1 + 1 = 2) := by omega
            have n0 : ¬ ((r.length : Int) + 1 + 1 + 1 = 0) := by omega
            simp [isi, isPlanD, e1, c1, this, n0]
        · have c1' : isS s "once" = false := by simpa using c1
          rw [c1'] at e1
          by_cases c2 : isS s "every" = true
          · rw [c2] at e2
            rcases r with _ | ⟨a, _ | ⟨b, _ | ⟨c, r⟩⟩⟩
            · simp [isi, isPlanD, e1, e2, c1', c2]
            · simp [isi, isPlanD, e1, e2, c1', c2]
            · simp only [plns, Bool.and_eq_true, and_true] at h
              by_cases ca : wholeD a 0 9999 = true <;> simp [isi, isPlanD, e1, e2, c1', c2, whole_gen a h.2.1, whole_gen b h.2.2, ca]
            · have : ¬ ((r.length : Int) + 1 + 1 + 1 + 1 = 3) := by omega
              have n0 : ¬ ((r.length : Int) + 1 + 1 + 1 + 1 = 0) := by omega
              simp [isi, isPlanD, e1, e2, c1', c2, this, n0]
          · have c2' : isS s "every" = false := by simpa using c2
            rw [c2'] at e2
            by_cases c3 : isS s "daily" = true
            · rw [c3] at e3
              rcases r with _ | ⟨a, _ | ⟨b, r⟩⟩
              · simp [isi, isPlanD, e1, e2, e3, c1', c2', c3]
              · simp only [plns, Bool.and_eq_true, and_true] at h
                simp [isi, isPlanD, e1, e2, e3, c1', c2', c3, whole_gen a h.2]
              · have : ¬ ((r.length : Int) + 1 + 1 + 1 = 2) := by omega
                have n0 : ¬ ((r.length : Int) + 1 + 1 + 1 = 0) := by omega
                simp [isi, isPlanD, e1, e2, e3, c1', c2', c3, this, n0]
            · have c3' : isS s "daily" = false := by simpa using c3
              rw [c3'] at e3
              simp [isi, isPlanD, e1, e2, e3, c1', c2', c3', n0]
theorem need_plan_gen (x : D) (h : pln x = true) (S : Store) : f_need_plan [.d x] S = if isPlanD x = true then .ok (.d .non) S else .exc 2 S := by
  unfold f_need_plan
  rw [defF1]
  unfold b_need_plan
  by_cases c : isPlanD x = true <;> simp [is_plan_gen x h, c]
theorem need_plan_no (x : D) (h : pln x = true) (k : isPlanD x = false) (S : Store) : f_need_plan [.d x] S = .exc 2 S := by
  rw [need_plan_gen x h, k]; rfl
/-- what a list holds, one of its things is drawn -/
theorem getD_all {p : D → Bool} {xs : List D} {i : Nat} (h : xs.all p = true) (hi : i < xs.length) : p (xs.getD i .non) = true := by
  rw [List.getD_eq_getElem?_getD, List.getElem?_eq_getElem hi]
  exact List.all_eq_true.mp h _ (List.getElem_mem hi)
end Q
set_option Elab.async false
set_option maxRecDepth 100000
set_option linter.all false
set_option maxHeartbeats 1000000
/-! What is told of a refusal; things drawn of a list. -/
namespace Q
open PySem QT
def ref (n : Int) : D := .tup [.str "refused", .int n]
theorem rf (n : Int) : D.tup [.str "refused", .int n] = ref n := rfl
theorem cop_self {x : D} (h : okd 9 x = true) : cop .eq x x = some true := by
  show (if (okd 9 x && okd 9 x) = true then some (PyData.eqv (toPy x) (toPy x)) else none) = _
  rw [h, if_pos (show (true && true) = true from rfl), SeqAt.eqv_refl _ (lay_of 9 x h).1]
theorem cop_selfN {x : D} (h : okd 9 x = true) : cop .ne x x = some false := by
  show (cop .eq x x).map (!·) = _
  rw [cop_self h]; rfl
theorem okd_ref (k : Nat) (n : Int) : okd (k + 1) (ref n) = true := by
  have : PyData.strOk "refused" = true := by decide +kernel
  cases k <;> simp [ref, okd, okds, this]
theorem eq_ref (n : Int) : cop .eq (ref n) (ref n) = some true := cop_self (okd_ref 8 n)
theorem ne_ref (n : Int) : cop .ne (ref n) (ref n) = some false := cop_selfN (okd_ref 8 n)
theorem okds_refs (k : Nat) (n : Int) : ∀ m : Nat, okds (k + 1) (List.replicate m (ref n)) = true
  | 0 => by simp [okds]
  | m + 1 => by rw [List.replicate_succ, okds, okd_ref, okds_refs k n m]; rfl
theorem ne_refs (n : Int) (m : Nat) : cop .ne (.lst (List.replicate m (ref n))) (.lst (List.replicate m (ref n))) = some false := cop_selfN (by simpa [okd] using okds_refs 7 n m)
theorem mul_refs (n : Int) (m : Nat) (h : m ≤ 1000) : bop .mul (.lst [ref n]) (.int m) = some (.lst (List.replicate m (ref n))) := by
  rw [bop]
  have e : ((m : Int)).toNat = m := Int.toNat_natCast m
  have h3 : [ref n].length * ((m : Int)).toNat ≤ sizeLine := by
    rw [e, line_val]
    show 1 * m ≤ _
    omega
  have h1 : -(2 ^ 63) ≤ (m : Int) := by omega
  have h2 : (m : Int) < 2 ^ 63 := by omega
  rw [if_pos (And.intro h1 (And.intro h2 h3)), e]
  have go : ∀ m : Nat, (List.replicate m [ref n]).flatten = List.replicate m (ref n) := by
    intro m
    induction m with
    | zero => rfl
    | succ m ih => rw [List.replicate_succ, List.flatten_cons, ih, List.replicate_succ]; rfl
  rw [go]
theorem pickB_all (ns : List Int) (k : Nat) (hk : k < 100000) {p : D → Bool} {xs : List D} (hp : xs.all p = true) (h : 0 < xs.length) : ∃ x, p x = true ∧ ∀ S : Store, f_law_pick [.d (.scr ns), .loc 0, .d (.lst xs)] (town k :: S) = .ok (.d x) (town (k + 1) :: S) := by
  have h1 := mixN_lo ns (k + 1) (many := xs.length) (by omega)
  have h2 := mixN_hi ns (k + 1) (many := xs.length) (by omega)
  exact ⟨_, getD_all hp (by omega), fun S => pick_spec ns k hk xs h S⟩
theorem pickA_all (ns : List Int) (k : Nat) (hk : k < 100000) {p : D → Bool} {xs : List D} (hp : xs.all p = true) (h : 0 < xs.length) : ∃ x, p x = true ∧ ∀ S : Store, QTA.f_law_pick [.d (.scr ns), .loc 0, .d (.lst xs)] (town k :: S) = .ok (.d x) (town (k + 1) :: S) := by
  obtain ⟨i, hi, pk⟩ := pickA_at ns k hk xs h
  exact ⟨_, getD_all hp hi, pk⟩
@[simp] theorem lstOf_d9 (a b c d e f g h i : D) (S : Store) : lstOf [.d a, .d b, .d c, .d d, .d e, .d f, .d g, .d h, .d i] S = .ok (.d (.lst [a, b, c, d, e, f, g, h, i])) S := nf rfl
@[simp] theorem newlOf_d2 (a b : D) (S : Store) : newlOf [.d a, .d b] S = .ok (.loc S.length) (S ++ [.lst [a, b]]) := nf rfl
theorem odd_zone_ex (ns : List Int) (k : Nat) (hk : k < 100000) : ∃ x, pln x = true ∧ isZoneD x = false ∧ ∀ S : Store, f_law_odd_zone [.d (.scr ns), .loc 0] (town k :: S) = .ok (.d x) (town (k + 1) :: S) := by
  obtain ⟨x, hx, pk⟩ := pickB_all ns k hk (p := fun x => pln x && !isZoneD x) (xs := [.non, .int 5, .tup [], .tup [.int 0], .tup [.int 15, .tup []], .tup [.int (-13), .tup []], .tup [.int 0, .tup [.tup [.int 0, .int 1]]], .tup [.int 0, .tup [.tup [.int 5, .int 15]]], .tup [.int 0, .tup [.tup [.int 5, .int 1], .tup [.int 5, .int 2]]],
    .tup [.int 0, .lst [.tup [.int 5, .int 1]]], .lst [.int 0, .tup []], .tup [.bl true, .tup []], .tup [.int 0, .tup [.tup [.int 5]]], .str "+0", .tup [.int 0, .tup [.tup [.int 9, .int 1], .tup [.int 5, .int 2]]]]) (by decide +kernel) (by simp)
  simp only [Bool.and_eq_true, Bool.not_eq_true'] at hx
  refine ⟨x, hx.1, hx.2, fun S => ?_⟩
  unfold f_law_odd_zone
  rw [defF2]
  unfold b_law_odd_zone
  simp
  rw [if_pos (by rw [line_val]; omega)]
  simp [pk, fin_rtT0]
theorem odd_plan_ex (ns : List Int) (k : Nat) (hk : k < 100000) : ∃ x, pln x = true ∧ isPlanD x = false ∧ ∀ S : Store, f_law_odd_plan [.d (.scr ns), .loc 0] (town k :: S) = .ok (.d x) (town (k + 1) :: S) := by
  obtain ⟨x, hx, pk⟩ := pickB_all ns k hk (p := fun x => pln x && !isPlanD x) (xs := [.non, .int 5, .tup [], .tup [.str "once"], .tup [.str "once", .int (-1)], .tup [.str "once", .int 10000], .tup [.str "every", .int 5], .tup [.str "every", .int 5, .int 0], .tup [.str "every", .int 5, .int 1000],
    .tup [.str "daily", .int 24], .tup [.str "daily", .int (-1)], .lst [.str "once", .int 5], .tup [.str "Once", .int 5], .tup [.str "daily", .bl true]]) (by decide +kernel) (by simp)
  simp only [Bool.and_eq_true, Bool.not_eq_true'] at hx
  refine ⟨x, hx.1, hx.2, fun S => ?_⟩
  unfold f_law_odd_plan
  rw [defF2]
  unfold b_law_odd_plan
  simp
  rw [if_pos (by rw [line_val]; omega)]
  simp [pk, fin_rtT0]
/-! dues refused -/
theorem dues_no_zone {x p a b : D} (h : pln x = true) (k : isZoneD x = false) (S : Store) : f_dues [.d x, .d p, .d a, .d b] S = .exc 1 S := by
  unfold f_dues
  rw [defF4]
  unfold b_dues
  simp [need_zone_no x h k]
theorem dues_no_plan {z : Z} (hz : ZOk z) {p a b : D} (h : pln p = true) (k : isPlanD p = false) (S : Store) : f_dues [.d (encZ z), .d p, .d a, .d b] S = .exc 2 S := by
  unfold f_dues
  rw [defF4]
  unfold b_dues
  simp [need_zone_spec hz, need_plan_no p h k]
theorem dues_no_first {z : Z} (hz : ZOk z) {p : Pl} (hp : PlOk p) {a b : D} (h : pln a = true) (k : wholeD a 0 9999 = false) (S : Store) : f_dues [.d (encZ z), .d (encP p), .d a, .d b] S = .exc 3 S := by
  unfold f_dues
  rw [defF4]
  unfold b_dues
  simp [need_zone_spec hz, need_plan_spec hp, need_moment_no a h k]
theorem dues_no_last {z : Z} (hz : ZOk z) {p : Pl} (hp : PlOk p) {a : Int} {b : D} (a0 : 0 ≤ a) (a1 : a ≤ 9999) (h : pln b = true) (k : wholeD b 0 9999 = false) (S : Store) : f_dues [.d (encZ z), .d (encP p), .d (.int a), .d b] S = .exc 3 S := by
  unfold f_dues
  rw [defF4]
  unfold b_dues
  simp [need_zone_spec hz, need_plan_spec hp, need_moment_spec a0 a1, need_moment_no b h k]
end Q
set_option Elab.async false
set_option maxRecDepth 100000
set_option linter.all false
set_option maxHeartbeats 1000000
namespace QLaw
open PySem L2 Q QT
theorem town_start (w0 : Option W) (n : Nat) : evS (.set 1 (.newl .nil)) (w0 :: List.replicate n none) [] = .nx (w0 :: (List.replicate n none).set 0 (some (.loc 0))) [town 0] := nf rfl
/-! asked -/
theorem ask0 {a b c d : D} {S : Store} {y : D} (h : f_due [.d a, .d b, .d c] S = .ok (.d y) S) : f_law_ask [.d (.int 0), .d a, .d b, .d c, .d d] S = .ok (.d y) S := by
  unfold f_law_ask
  rw [show ∀ w0 w1 w2 w3 w4 : W, defF true 6 5 b_law_ask [w0, w1, w2, w3, w4] S = fin true S (evB b_law_ask [some w0, some w1, some w2, some w3, some w4, none] S) from fun _ _ _ _ _ => rfl]
  unfold b_law_ask
  simp [h]
theorem ask1 {a b c d : D} {S : Store} {y : D} (h : f_dues [.d a, .d b, .d c, .d d] S = .ok (.d y) S) : f_law_ask [.d (.int 1), .d a, .d b, .d c, .d d] S = .ok (.d y) S := by
  unfold f_law_ask
  rw [show ∀ w0 w1 w2 w3 w4 : W, defF true 6 5 b_law_ask [w0, w1, w2, w3, w4] S = fin true S (evB b_law_ask [some w0, some w1, some w2, some w3, some w4, none] S) from fun _ _ _ _ _ => rfl]
  unfold b_law_ask
  simp [h]
theorem no0 {a b c d : D} {S : Store} {n : Nat} (hn : 1 ≤ n ∧ n ≤ 4) (h : f_due [.d a, .d b, .d c] S = .exc n S) : f_law_ask [.d (.int 0), .d a, .d b, .d c, .d d] S = .ok (.d (ref ((n : Int) - 1))) S := by
  unfold f_law_ask
  rw [show ∀ w0 w1 w2 w3 w4 : W, defF true 6 5 b_law_ask [w0, w1, w2, w3, w4] S = fin true S (evB b_law_ask [some w0, some w1, some w2, some w3, some w4, none] S) from fun _ _ _ _ _ => rfl]
  unfold b_law_ask
  simp [h]
  rw [catchA_exc (by obtain rfl | rfl | rfl | rfl : n = 1 ∨ n = 2 ∨ n = 3 ∨ n = 4 := by omega
                     all_goals rfl) (by simp) (QTA.which_spec n (by omega) (by omega) 0 S)]
  simp [ref]
theorem no1 {a b c d : D} {S : Store} {n : Nat} (hn : 1 ≤ n ∧ n ≤ 4) (h : f_dues [.d a, .d b, .d c, .d d] S = .exc n S) : f_law_ask [.d (.int 1), .d a, .d b, .d c, .d d] S = .ok (.d (ref ((n : Int) - 1))) S := by
  unfold f_law_ask
  rw [show ∀ w0 w1 w2 w3 w4 : W, defF true 6 5 b_law_ask [w0, w1, w2, w3, w4] S = fin true S (evB b_law_ask [some w0, some w1, some w2, some w3, some w4, none] S) from fun _ _ _ _ _ => rfl]
  unfold b_law_ask
  simp [h]
  rw [catchA_exc (by obtain rfl | rfl | rfl | rfl : n = 1 ∨ n = 2 ∨ n = 3 ∨ n = 4 := by omega
                     all_goals rfl) (by simp) (QTA.which_spec n (by omega) (by omega) 0 S)]
  simp [ref]
theorem due_no_zone {x p a : D} (h : pln x = true) (k : isZoneD x = false) (S : Store) : f_due [.d x, .d p, .d a] S = .exc 1 S := by
  unfold f_due
  rw [defF3]
  unfold b_due
  simp [need_zone_no x h k]
theorem due_no_plan {z : Z} (hz : ZOk z) {p a : D} (h : pln p = true) (k : isPlanD p = false) (S : Store) : f_due [.d (encZ z), .d p, .d a] S = .exc 2 S := by
  unfold f_due
  rw [defF3]
  unfold b_due
  simp [need_zone_spec hz, need_plan_no p h k]
theorem due_no_count {z : Z} (hz : ZOk z) {p : Pl} (hp : PlOk p) {a : D} (h : pln a = true) (k : wholeD a 0 9999 = false) (S : Store) : f_due [.d (encZ z), .d (encP p), .d a] S = .exc 4 S := by
  unfold f_due
  rw [defF3]
  unfold b_due
  simp [need_zone_spec hz, need_plan_spec hp, whole_gen a h, k]
/-! lists -/
theorem okd_rows (rs : List (Nat × Int)) : okd 9 (.lst (rs.map encR)) = true := by
  have : ∀ rs : List (Nat × Int), okds 8 (rs.map encR) = true := by
    intro rs
    induction rs with
    | nil => simp [okds]
    | cons r rs ih => rw [List.map_cons]; simp [okds, okd, encR, ih]
  show okd 9 (.lst _) = true
  simp [okd, this]
theorem okd_ints (l : List Int) : okd 9 (.lst (l.map D.int)) = true := by
  have : ∀ l : List Int, okds 8 (l.map D.int) = true := by
    intro l
    induction l with
    | nil => simp [okds]
    | cons r rs ih => rw [List.map_cons]; simp [okds, okd, ih]
  simp [okd, this]
theorem rows_all {z : Z} (hz : ZOk z) {p : Pl} (hp : PlOk p) (n : Nat) : rowsF z p 0 n = (List.range n).map fun k => (k, dv z p k) := by
  unfold rowsF
  refine List.filter_eq_self.mpr fun r hr => ?_
  obtain ⟨k, _, rfl⟩ := List.mem_map.mp hr
  exact decide_eq_true (dv_nn hz hp k)
theorem enum_at : ∀ (xs : List D) (k : Nat), enumL k xs = (List.range xs.length).map fun i => .tup [.int ((k + i : Nat) : Int), xs.getD i .non]
  | [], k => rfl
  | x :: xs, k => by
    show D.tup [.int k, x] :: enumL (k + 1) xs = _
    rw [enum_at xs (k + 1), List.length_cons, List.range_succ_eq_map, List.map_cons, List.map_map]
    congr 1
    apply List.map_congr_left
    intro i _
    show D.tup [.int ((k + 1 + i : Nat) : Int), _] = D.tup [.int ((k + (i + 1) : Nat) : Int), _]
    rw [show k + 1 + i = k + (i + 1) by omega]
    rfl
theorem enum_rows (z : Z) (p : Pl) (n : Nat) : enumL 0 (((List.range n).map fun k => dv z p k).map D.int) = ((List.range n).map fun k => (k, dv z p k)).map encR := by
  rw [enum_at, List.length_map, List.length_map, List.length_range]
  refine Eq.trans (List.map_congr_left fun i hi => ?_) (List.map_map ..).symm
  have hi' := List.mem_range.mp hi
  rw [Nat.zero_add, List.getD_eq_getElem?_getD, List.getElem?_map, List.getElem?_map, List.getElem?_range hi']
  rfl
theorem comp_rows (z : Z) (p : Pl) (n : Nat) (f : Int) (w0 w1 w2 w3 w4 w6 w7 w8 w9 w10 w11 w12 w13 w14 : Option W) (S : Store) :
    compL (.tp [(.nm 8), (.nm 9)]) [8, 9] (evC (.som (.cmp .ge (.var 9) (.var 5)))) (ev (.tup (.cons (.var 8) (.cons (.var 9) .nil)))) [w0, w1, w2, w3, w4, some (.d (.int f)), w6, w7, w8, w9, w10, w11, w12, w13, w14] (((List.range n).map fun k => (k, dv z p k)).map encR) S = .ok ((rowsF z p f n).map encR) S := by
  unfold rowsF
  refine compL_pure _ fun r _ => ⟨_, rfl, ?_, fun _ => by simp [wipeE, encR]⟩
  simp [wipeE]
theorem comp_due {z : Z} (hz : ZOk z) {p : Pl} (hp : PlOk p) {last : Int} {n : Nat} (hn : Upto (dueN z p) last n) (h : n ≤ 9999) (w0 w1 w4 w5 w6 w7 w8 w9 w10 w11 w12 w13 w14 : Option W) (S : Store) :
    compL (.nm 8) [8] (evC .non) (ev (.call "_law_ask" f_law_ask (.cons (.c (.int 0)) (.cons (.var 2) (.cons (.var 3) (.cons (.var 8) (.cons (.c .non) .nil))))))) [w0, w1, some (.d (encZ z)), some (.d (encP p)), w4, w5, w6, w7, w8, w9, w10, w11, w12, w13, w14] ((List.range n).map fun i => D.int ((i : Nat) : Int)) S = .ok (((List.range n).map fun k => dv z p k).map D.int) S := by
  rw [List.map_map]
  refine compL_map (List.range n) fun k hk => ⟨_, rfl, ?_⟩
  have hk' := List.mem_range.mp hk
  obtain ⟨m, e, _⟩ := hn.1 k hk'
  have du := due_spec hz hp k (by omega) S
  have a0 := ask0 (d := .non) du
  have ed : dv z p k = m := by unfold dv; rw [e]; rfl
  simp [wipeE, a0, e, ed]
theorem pick_loc (ns : List Int) (k : Nat) (hk : k < 100000) {p : D → Bool} {xs : List D} (hp : xs.all p = true) (h : 0 < xs.length) : ∃ x, p x = true ∧ QTA.f_law_pick [.d (.scr ns), .loc 0, .loc 1] [town k, .lst xs] = .ok (.d x) [town (k + 1), .lst xs] := by
  obtain ⟨n, hn, dn⟩ := drawA_ex ns k hk (many := xs.length) (by omega)
  refine ⟨xs.getD n .non, getD_all hp (by omega), ?_⟩
  unfold QTA.f_law_pick
  rw [defF3]
  unfold QTA.b_law_pick
  have b1 : ∀ f (o : O), biW f [.loc 1] [o, .lst xs] = ofD (biop f [.lst xs]) [o, .lst xs] := fun _ _ => rfl
  have i1 : ∀ (o : O), ixW (.loc 1) (.d (.int n)) [o, .lst xs] = .ok (.d (xs.getD n .non)) [o, .lst xs] := fun o => by
    unfold ixW op2
    have v1 : view [o, .lst xs] (.loc 1) = some (.lst xs) := rfl
    have v2 : view [o, .lst xs] (.d (.int n)) = some (.int n) := rfl
    rw [v1, v2]
    dsimp only
    have : ixop (.lst xs) (.int n) = some (xs.getD n .non) := by
      show L2.atI xs n = _
      rw [L2.atI_nat (xs := xs) (j := n) (v := xs[n]'(by omega)) (by rw [List.getElem?_eq_getElem (by omega)]), List.getD_eq_getElem?_getD, List.getElem?_eq_getElem (by omega)]
      rfl
    rw [this]; rfl
  simp [dn, b1, i1]
  exact fin_rtT0
def bad1 : List D := [.non, .tup [], .tup [.str "once"], .tup [.str "once", .int (-1)], .tup [.str "once", .int 10000], .tup [.str "once", .bl true], .lst [.str "once", .int 1], .tup [.str "every", .int 1]]
def bad2 : List D := [.tup [.str "every", .int 1, .int 0], .tup [.str "every", .int 1, .int 1000], .tup [.str "every", .non, .int 1], .tup [.str "daily", .int 24], .tup [.str "daily", .int (-1)]]
def bad3 : List D := [.tup [.str "daily"], .tup [.str "weekly", .int 1], .str "daily"]
theorem ne_one (x : Int) : cop .ne (.lst [.int x]) (.lst []) = some true := by
  show (cop .eq (.lst [.int x]) (.lst [])).map (!·) = _
  have : cop .eq (.lst [.int x]) (.lst []) = some false := by
    show (if (okd 9 (.lst [.int x]) && okd 9 (.lst [])) = true then some (PyData.eqv (toPy (.lst [.int x])) (toPy (.lst []))) else none) = _
    have : (okd 9 (.lst [.int x]) && okd 9 (.lst [])) = true := by simp [okd, okds]
    rw [if_pos this]
    rfl
  rw [this]; rfl
theorem law_true : ∀ ns : List Int, ns.length ≤ 63 → ∃ S', f_law [.d (.scr ns)] [] = .ok (.d (.bl true)) S' := by
  intro ns _
  obtain ⟨z, k1, hz, _, g1, g2, ez⟩ := zoneA_spec ns 0 (by omega)
  obtain ⟨p, k2, hp, g3, g4, ep⟩ := planA_spec ns k1 (by omega) []
  obtain ⟨v, hv, pv⟩ := pickA_int ns k2 (by omega) [500, 500, 500, 500, 9990] (by decide)
  simp only [List.mem_cons, List.not_mem_nil, or_false] at hv
  simp only [List.map] at pv
  obtain ⟨la, hla, dl⟩ := drawA_ex ns (k2 + 1) (by omega) (many := v) (by omega)
  obtain ⟨mn, hmn⟩ : ∃ mn : Int, (if (la : Int) + 40 < 10000 then (la : Int) + 40 else 10000) = mn := ⟨_, rfl⟩
  have mn1 : 40 ≤ mn ∧ mn ≤ 10000 := by rw [← hmn]; split <;> omega
  obtain ⟨f, hf, df⟩ := drawA_ex ns (k2 + 1 + 1) (by omega) (many := mn) (by omega)
  have f0 : (0 : Int) ≤ f := by omega
  have f1 : (f : Int) ≤ 9999 := by omega
  have l0 : (0 : Int) ≤ la := by omega
  have l1 : (la : Int) ≤ 9999 := by omega
  obtain ⟨n, hn⟩ := upto_ex hz hp.ok (last := la) (by omega)
  have nl := upto_le hz hp.ok l0 hn
  have n9 : n ≤ 9999 := by omega
  have du := fun S => duesA_spec hz hp.ok (last := la) (by omega) hn S
  have d1 := fun S => ask1 (dues_spec hz hp.ok f0 f1 l0 l1 hn S)
  have d2 := fun S => ask1 (dues_spec hz hp.ok (show (0 : Int) ≤ 0 by omega) (by omega) l0 l1 hn S)
  rw [rows_all hz hp.ok] at d2
  have d3 := fun S => ask0 (d := .non) (due_spec hz hp.ok n n9 S)
  have cr := fun w0 w1 w2 w3 w4 w6 w7 w8 w9 w10 w11 w12 w13 w14 S => comp_rows z p n f w0 w1 w2 w3 w4 w6 w7 w8 w9 w10 w11 w12 w13 w14 S
  have cd := fun w0 w1 w4 w5 w6 w7 w8 w9 w10 w11 w12 w13 w14 S => comp_due hz hp.ok hn n9 w0 w1 w4 w5 w6 w7 w8 w9 w10 w11 w12 w13 w14 S
  have er := enum_rows z p n
  have itE : ∀ S, itEnum (.d (.lst (((List.range n).map fun k => dv z p k).map D.int))) S = .ok (((List.range n).map fun k => (k, dv z p k)).map encR) S := fun S => by rw [← er]; rfl
  have olE : ∀ S, opW .lenum (.d (.lst (((List.range n).map fun k => dv z p k).map D.int))) [] S = .ok (.d (.lst (((List.range n).map fun k => (k, dv z p k)).map encR))) S := fun S => by rw [← er]; rfl
  have prE : ∀ w S, preW .lenum w S = .ok w S := fun _ _ => rfl
  have itn : ∀ S, itR1 (.d (.int n)) S = .ok ((List.range n).map fun i => D.int ((i : Nat) : Int)) S := fun S => by rw [itR1_int (by omega) (by omega), Int.toNat_natCast, rngL_nat]
  have ne1 := cop_selfN (okd_rows (rowsF z p f n))
  have ne2 := cop_selfN (okd_rows ((List.range n).map fun k => (k, dv z p k)))
  have ne3 := cop_selfN (okd_ints ((List.range n).map fun k => dv z p k))
  have len : ((List.range n).map fun k => dv z p k).length = n := by simp
  have blen : biop .len [.lst (((List.range n).map fun k => dv z p k).map D.int)] = some (.int n) := by
    show some (D.int (((((List.range n).map fun k => dv z p k).map D.int).length : Nat) : Int)) = _
    rw [List.length_map, len]
  have s1 : (((List.range n).map fun k => (k, dv z p k)).map encR).length ≤ sizeLine := by rw [line_val]; simp; omega
  have s2 : ((List.range n).map fun i => D.int ((i : Nat) : Int)).length ≤ sizeLine := by rw [line_val]; simp; omega
  have n8 : ∀ S, newlOf (bad1.map W.d) S = .ok (.loc S.length) (S ++ [.lst bad1]) := fun S => newlOf_ds bad1 (by rw [line_val]; decide) S
  have e1 := extW_new [town (k2 + 1 + 1 + 1)] bad1 bad2 (by rw [line_val]; decide)
  have e2 := extW_new [town (k2 + 1 + 1 + 1)] (bad1 ++ bad2) bad3 (by rw [line_val]; decide)
  have rc : ∀ (o : O) xs, recvL (.loc 1) [o, .lst xs] = .ok (.loc 1) [o, .lst xs] := fun _ _ => rfl
  obtain ⟨x, hx, px⟩ := pick_loc ns (k2 + 1 + 1 + 1) (by omega) (p := fun x => pln x && !isPlanD x) (xs := bad1 ++ bad2 ++ bad3) (by decide +kernel) (by decide)
  simp only [Bool.and_eq_true, Bool.not_eq_true'] at hx
  obtain ⟨y, hy, py⟩ := pickA_all ns (k2 + 1 + 1 + 1 + 1) (by omega) (p := fun x => pln x && !wholeD x 0 9999) (xs := [.int (-1), .int 10000, .non, .bl true, .str "1"]) (by decide +kernel) (by decide)
  simp only [Bool.and_eq_true, Bool.not_eq_true'] at hy
  have r1 := fun S => no0 (d := .non) (n := 2) (by omega) (due_no_plan (a := .non) hz hx.1 hx.2 S)
  have r2 := fun S => no1 (n := 2) (by omega) (dues_no_plan (a := .non) (b := .non) hz hx.1 hx.2 S)
  have r3 := fun S => no0 (d := .non) (n := 4) (by omega) (due_no_count hz hp.ok hy.1 hy.2 S)
  have r4 := fun S => no1 (n := 3) (by omega) (dues_no_first (b := .int 5) hz hp.ok hy.1 hy.2 S)
  have r5 := fun S => no1 (n := 3) (by omega) (dues_no_last (a := 5) hz hp.ok (by omega) (by omega) hy.1 hy.2 S)
  have zn : pln .non = true ∧ isZoneD .non = false := by decide +kernel
  have r6 := fun S => no0 (d := .non) (n := 1) (by omega) (due_no_zone (p := .non) (a := .non) zn.1 zn.2 S)
  have r7 := fun S => no1 (n := 1) (by omega) (dues_no_zone (p := .non) (a := .non) (b := .non) zn.1 zn.2 S)
  simp only [Int.cast_ofNat_Int] at r1 r2 r3 r4 r5 r6 r7
  have rr1 := ne_ref 1
  have rr2 := ne_ref 2
  have rr3 := ne_ref 3
  have q1 : (2 : Int) - 1 = 1 := rfl
  have q2 : (3 : Int) - 1 = 2 := rfl
  have q3 : (4 : Int) - 1 = 3 := rfl
  have q0 : (1 : Int) - 1 = 0 := rfl
  rw [q1] at r1 r2
  rw [q2] at r4 r5
  rw [q3] at r3
  rw [q0] at r6 r7
  have cl : ∀ w0 w1 w2 w3 w4 w5 w6 w7 w8 w9 w10 w11 w12 w13 w14 S, compL (.nm 14) [14] (evC .non) (ev (.call "_law_ask" f_law_ask (.cons (.var 14) (.cons (.c .non) (.cons (.c .non) (.cons (.c .non) (.cons (.c .non) .nil))))))) [w0, w1, w2, w3, w4, w5, w6, w7, w8, w9, w10, w11, w12, w13, w14] [.int 0, .int 1] S = .ok (List.replicate 2 (ref 0)) S := fun w0 w1 w2 w3 w4 w5 w6 w7 w8 w9 w10 w11 w12 w13 w14 S => by
    simp [compL, wipeE, r6, r7]
  have m2 : bop .mul (.lst [ref 0]) (.int 2) = some (.lst [ref 0, ref 0]) := mul_refs 0 2 (by omega)
  have sl2 : 2 ≤ sizeLine := by rw [line_val]; omega
  have i2 : ∀ S, itR1 (.d (.int 2)) S = .ok [.int 0, .int 1] S := fun S => rfl
  have eqr : cop .eq (.lst [ref 0, ref 0]) (.lst [ref 0, ref 0]) = some true := cop_self (by have q := okds_refs 7 0 2; simpa [okd, List.replicate] using q)
  -- the later one
  have lat : ∀ (w0 w1 w2 w5 w7 w8 w9 w11 w12 w13 w14 : Option W) (S : Store), evT (.or (.cons (.and (.cons (.cmp .eq (.ix (.var 3) (.c (.int 0))) (.c (.str "once"))) (.cons (.cmp .ne (.var 6) (.lst .nil)) (.cons (.cmp .isnot (.var 10) (.c .non)) .nil)))) (.cons (.and (.cons (.cmp .isnot (.var 10) (.c .non)) (.cons (.cmp .le (.var 10) (.var 4)) .nil))) .nil)))
      [w0, w1, w2, some (.d (encP p)), some (.d (.int la)), w5, some (.d (.lst (((List.range n).map fun k => dv z p k).map D.int))), w7, w8, w9, some (.d (optD (dueN z p n))), w11, w12, w13, w14] S = .ok false S := by
    intro w0 w1 w2 w5 w7 w8 w9 w11 w12 w13 w14 S
    have le0 : ∀ S, lstOf [] S = .ok (.d (.lst [])) S := fun _ => rfl
    rcases hn.2 with e | ⟨m, e, l⟩
    · rw [e]
      cases p with
      | once x =>
        by_cases c : n = 0
        · subst c
          have e' : (some x : Option Int) = none := e
          cases e'
        · have n1 : n = 1 := by
            by_cases d : n = 1
            · exact d
            · obtain ⟨m, e2, _⟩ := hn.1 1 (by omega)
              cases e2
          subst n1
          have l1 : ((List.range 1).map fun k => dv z (.once x) k).map D.int = [.int x] := rfl
          rw [l1]
          simp [encP, ne_one, le0]
      | every b st => simp [encP]
      | daily h => simp [encP]
    · rw [e]
      have nl : ¬ m ≤ (la : Int) := by omega
      cases p with
      | once x =>
        have n0 : n = 0 := by
          by_cases c : n = 0
          · exact c
          · have e' : (none : Option Int) = some m := by rw [← e]; simp [dueN, c]
            cases e'
        subst n0
        have ne0 : cop .ne (.lst []) (.lst []) = some false := cop_selfN rfl
        simp [encP, ne0, le0, nl]
        omega
      | every b st => simp [encP, nl]
      | daily h => simp [encP, nl]
  refine ⟨[], ?_⟩
  unfold f_law
  rw [defF1]
  unfold b_law
  generalize hC : (E.or (.cons (.and (.cons (.cmp .eq (.ix (.var 3) (.c (.int 0))) (.c (.str "once"))) (.cons (.cmp .ne (.var 6) (.lst .nil)) (.cons (.cmp .isnot (.var 10) (.c .non)) .nil)))) (.cons (.and (.cons (.cmp .isnot (.var 10) (.c .non)) (.cons (.cmp .le (.var 10) (.var 4)) .nil))) .nil))) = C at lat ⊢
  clear er itE olE
  have itE : ∀ S, itEnum (.d (.lst (((List.range n).map fun k => dv z p k).map D.int))) S = .ok (((List.range n).map fun k => (k, dv z p k)).map encR) S := fun S => by rw [← enum_rows z p n]; rfl
  have olE : ∀ S, opW .lenum (.d (.lst (((List.range n).map fun k => dv z p k).map D.int))) [] S = .ok (.d (.lst (((List.range n).map fun k => (k, dv z p k)).map encR))) S := fun S => by rw [← enum_rows z p n]; rfl
  clear len
  generalize ((List.range n).map fun k => dv z p k).map D.int = L1 at *
  generalize ((List.range n).map fun k => (k, dv z p k)).map encR = L2 at *
  generalize (rowsF z p f n).map encR = L3 at *
  generalize ((List.range n).map fun i => D.int ((i : Nat) : Int)) = L4 at *
  have mn' : biop .min [.int 10000, .int ((la : Int) + 40)] = some (.int mn) := by
    show some (D.int (if (la : Int) + 40 < 10000 then (la : Int) + 40 else 10000)) = _
    rw [hmn]
  rw [evB_cons, town_start]
  have nn8 : ∀ S, newlOf [.d .non, .d (.tup []), .d (.tup [.str "once"]), .d (.tup [.str "once", .int (-1)]), .d (.tup [.str "once", .int 10000]), .d (.tup [.str "once", .bl true]), .d (.lst [.str "once", .int 1]), .d (.tup [.str "every", .int 1])] S = .ok (.loc S.length) (S ++ [.lst bad1]) := n8
  have b2 : D.lst [.tup [.str "every", .int 1, .int 0], .tup [.str "every", .int 1, .int 1000], .tup [.str "every", .non, .int 1], .tup [.str "daily", .int 24], .tup [.str "daily", .int (-1)]] = .lst bad2 := rfl
  have b3 : D.lst [.tup [.str "daily"], .tup [.str "weekly", .int 1], .str "daily"] = .lst bad3 := rfl
  have e1' : extW (.loc 1) (.d (.lst bad2)) [town (k2 + 1 + 1 + 1), .lst bad1] = .ok (.d .non) [town (k2 + 1 + 1 + 1), .lst (bad1 ++ bad2)] := e1
  have e2' : extW (.loc 1) (.d (.lst bad3)) [town (k2 + 1 + 1 + 1), .lst (bad1 ++ bad2)] = .ok (.d .non) [town (k2 + 1 + 1 + 1), .lst (bad1 ++ bad2 ++ bad3)] := e2
  clear e1 e2 n8
  generalize bad1 ++ bad2 ++ bad3 = B3 at *
  generalize bad1 ++ bad2 = B2 at *
  simp [ez, ep, pv, dl, mn', df, du, itE, olE, prE, s1, s2, cr, cd, d1, d2, d3, blen, itn, ne1, ne2, ne3, lat, nn8, b2, b3, e1', e2', rc, px, py, r1, r2, r3, r4, r5, rr1, rr2, rr3, rf, i2, cl, m2, sl2, eqr]
end QLaw
set_option Elab.async false
set_option maxRecDepth 100000
set_option linter.all false
set_option maxHeartbeats 4000000
namespace QLaw
open PySem L2 Q QT
section
variable {K : PySem.W.Frag} {mg : Str → Option Value} {h base : Heap} {P : Program} {w : World}
theorem all_ok (X : K.In h) (G : h.Ns mainGlobals mg) (zb : ∀ x ∈ (["len", "abs", "max", "min", "int", "str", "list", "tuple", "sum", "all", "range", "enumerate", "zip", "isinstance", "bool", "dict", "sorted", "set"] : List Str), PySem.W.nsIn K mainGlobals x = some none) {t_DAY : Tok} (g_DAY : PySem.W.nsIn K mainGlobals "DAY" = some (some (.int (24) t_DAY))) {t_HIGH : Tok} (g_HIGH : PySem.W.nsIn K mainGlobals "HIGH" = some (some (.int (14) t_HIGH))) {t_LOW : Tok} (g_LOW : PySem.W.nsIn K mainGlobals "LOW" = some (some (.int (-12) t_LOW))) {t_MOMENTS : Tok} (g_MOMENTS : PySem.W.nsIn K mainGlobals "MOMENTS" = some (some (.int (9999) t_MOMENTS))) {t_SHIFTS : Tok} (g_SHIFTS : PySem.W.nsIn K mainGlobals "SHIFTS" = some (some (.int (6) t_SHIFTS))) {t_STEP : Tok} (g_STEP : PySem.W.nsIn K mainGlobals "STEP" = some (some (.int (999) t_STEP))) {C_DueError : Addr} {C_NoDeeds : Addr} {C_NoDeed : Addr} {C_NoRunner : Addr} {C_NoTerm : Addr} {C_NotHolder : Addr} {C_Nothing : Addr} {C_NoCall : Addr} {C_NoZone : Addr} (x_NoZone : FactX K "NoZone" C_NoZone) {C_NoPlan : Addr} (x_NoPlan : FactX K "NoPlan" C_NoPlan) {C_NoMoment : Addr} (x_NoMoment : FactX K "NoMoment" C_NoMoment) {C_NoCount : Addr} (x_NoCount : FactX K "NoCount" C_NoCount) (gf : FactG K) (nve : PySem.W.nsIn K mainGlobals "ValueError" = some none) (n_DueError : FactN K "DueError" C_DueError) (n_NoZone : FactN K "NoZone" C_NoZone) (n_NoPlan : FactN K "NoPlan" C_NoPlan) (n_NoMoment : FactN K "NoMoment" C_NoMoment) (n_NoCount : FactN K "NoCount" C_NoCount) (n_NoDeeds : FactN K "NoDeeds" C_NoDeeds) (n_NoDeed : FactN K "NoDeed" C_NoDeed) (n_NoRunner : FactN K "NoRunner" C_NoRunner) (n_NoTerm : FactN K "NoTerm" C_NoTerm) (n_NotHolder : FactN K "NotHolder" C_NotHolder) (n_Nothing : FactN K "Nothing" C_Nothing) (n_NoCall : FactN K "NoCall" C_NoCall) (r_NoZone : FactR K C_NoZone) (r_NoPlan : FactR K C_NoPlan) (r_NoMoment : FactR K C_NoMoment) (r_NoCount : FactR K C_NoCount) (s_NoZone_DueError : PySem.W.subIn K (.ref C_NoZone) (.ref C_DueError) = some true) (s_NoZone_NoZone : PySem.W.subIn K (.ref C_NoZone) (.ref C_NoZone) = some true) (s_NoZone_NoPlan : PySem.W.subIn K (.ref C_NoZone) (.ref C_NoPlan) = some false) (s_NoZone_NoMoment : PySem.W.subIn K (.ref C_NoZone) (.ref C_NoMoment) = some false) (s_NoZone_NoCount : PySem.W.subIn K (.ref C_NoZone) (.ref C_NoCount) = some false) (s_NoZone_NoDeeds : PySem.W.subIn K (.ref C_NoZone) (.ref C_NoDeeds) = some false) (s_NoZone_NoDeed : PySem.W.subIn K (.ref C_NoZone) (.ref C_NoDeed) = some false) (s_NoZone_NoRunner : PySem.W.subIn K (.ref C_NoZone) (.ref C_NoRunner) = some false) (s_NoZone_NoTerm : PySem.W.subIn K (.ref C_NoZone) (.ref C_NoTerm) = some false) (s_NoZone_NotHolder : PySem.W.subIn K (.ref C_NoZone) (.ref C_NotHolder) = some false) (s_NoZone_Nothing : PySem.W.subIn K (.ref C_NoZone) (.ref C_Nothing) = some false) (s_NoZone_NoCall : PySem.W.subIn K (.ref C_NoZone) (.ref C_NoCall) = some false) (s_NoPlan_DueError : PySem.W.subIn K (.ref C_NoPlan) (.ref C_DueError) = some true) (s_NoPlan_NoZone : PySem.W.subIn K (.ref C_NoPlan) (.ref C_NoZone) = some false) (s_NoPlan_NoPlan : PySem.W.subIn K (.ref C_NoPlan) (.ref C_NoPlan) = some true) (s_NoPlan_NoMoment : PySem.W.subIn K (.ref C_NoPlan) (.ref C_NoMoment) = some false) (s_NoPlan_NoCount : PySem.W.subIn K (.ref C_NoPlan) (.ref C_NoCount) = some false) (s_NoPlan_NoDeeds : PySem.W.subIn K (.ref C_NoPlan) (.ref C_NoDeeds) = some false) (s_NoPlan_NoDeed : PySem.W.subIn K (.ref C_NoPlan) (.ref C_NoDeed) = some false) (s_NoPlan_NoRunner : PySem.W.subIn K (.ref C_NoPlan) (.ref C_NoRunner) = some false) (s_NoPlan_NoTerm : PySem.W.subIn K (.ref C_NoPlan) (.ref C_NoTerm) = some false) (s_NoPlan_NotHolder : PySem.W.subIn K (.ref C_NoPlan) (.ref C_NotHolder) = some false) (s_NoPlan_Nothing : PySem.W.subIn K (.ref C_NoPlan) (.ref C_Nothing) = some false) (s_NoPlan_NoCall : PySem.W.subIn K (.ref C_NoPlan) (.ref C_NoCall) = some false) (s_NoMoment_DueError : PySem.W.subIn K (.ref C_NoMoment) (.ref C_DueError) = some true) (s_NoMoment_NoZone : PySem.W.subIn K (.ref C_NoMoment) (.ref C_NoZone) = some false) (s_NoMoment_NoPlan : PySem.W.subIn K (.ref C_NoMoment) (.ref C_NoPlan) = some false) (s_NoMoment_NoMoment : PySem.W.subIn K (.ref C_NoMoment) (.ref C_NoMoment) = some true) (s_NoMoment_NoCount : PySem.W.subIn K (.ref C_NoMoment) (.ref C_NoCount) = some false) (s_NoMoment_NoDeeds : PySem.W.subIn K (.ref C_NoMoment) (.ref C_NoDeeds) = some false) (s_NoMoment_NoDeed : PySem.W.subIn K (.ref C_NoMoment) (.ref C_NoDeed) = some false) (s_NoMoment_NoRunner : PySem.W.subIn K (.ref C_NoMoment) (.ref C_NoRunner) = some false) (s_NoMoment_NoTerm : PySem.W.subIn K (.ref C_NoMoment) (.ref C_NoTerm) = some false) (s_NoMoment_NotHolder : PySem.W.subIn K (.ref C_NoMoment) (.ref C_NotHolder) = some false) (s_NoMoment_Nothing : PySem.W.subIn K (.ref C_NoMoment) (.ref C_Nothing) = some false) (s_NoMoment_NoCall : PySem.W.subIn K (.ref C_NoMoment) (.ref C_NoCall) = some false) (s_NoCount_DueError : PySem.W.subIn K (.ref C_NoCount) (.ref C_DueError) = some true) (s_NoCount_NoZone : PySem.W.subIn K (.ref C_NoCount) (.ref C_NoZone) = some false) (s_NoCount_NoPlan : PySem.W.subIn K (.ref C_NoCount) (.ref C_NoPlan) = some false) (s_NoCount_NoMoment : PySem.W.subIn K (.ref C_NoCount) (.ref C_NoMoment) = some false) (s_NoCount_NoCount : PySem.W.subIn K (.ref C_NoCount) (.ref C_NoCount) = some true) (s_NoCount_NoDeeds : PySem.W.subIn K (.ref C_NoCount) (.ref C_NoDeeds) = some false) (s_NoCount_NoDeed : PySem.W.subIn K (.ref C_NoCount) (.ref C_NoDeed) = some false) (s_NoCount_NoRunner : PySem.W.subIn K (.ref C_NoCount) (.ref C_NoRunner) = some false) (s_NoCount_NoTerm : PySem.W.subIn K (.ref C_NoCount) (.ref C_NoTerm) = some false) (s_NoCount_NotHolder : PySem.W.subIn K (.ref C_NoCount) (.ref C_NotHolder) = some false) (s_NoCount_Nothing : PySem.W.subIn K (.ref C_NoCount) (.ref C_Nothing) = some false) (s_NoCount_NoCall : PySem.W.subIn K (.ref C_NoCount) (.ref C_NoCall) = some false) {ad_law_cell_at : Addr} {oc_law_cell_at kV_law_cell_at dc_law_cell_at pm_law_cell_at cd_law_cell_at ct_law_cell_at : Value} {od_law_cell_at an_law_cell_at : Option Addr} {sl_law_cell_at : Array (Option Value)} (d_law_cell_at : FactD K "_law_cell_at" (top 33) ad_law_cell_at oc_law_cell_at od_law_cell_at kV_law_cell_at dc_law_cell_at pm_law_cell_at an_law_cell_at cd_law_cell_at ct_law_cell_at sl_law_cell_at) {ad_law_mixed : Addr} {oc_law_mixed kV_law_mixed dc_law_mixed pm_law_mixed cd_law_mixed ct_law_mixed : Value} {od_law_mixed an_law_mixed : Option Addr} {sl_law_mixed : Array (Option Value)} (d_law_mixed : FactD K "_law_mixed" (top 34) ad_law_mixed oc_law_mixed od_law_mixed kV_law_mixed dc_law_mixed pm_law_mixed an_law_mixed cd_law_mixed ct_law_mixed sl_law_mixed) {ad_law_draw : Addr} {oc_law_draw kV_law_draw dc_law_draw pm_law_draw cd_law_draw ct_law_draw : Value} {od_law_draw an_law_draw : Option Addr} {sl_law_draw : Array (Option Value)} (d_law_draw : FactD K "_law_draw" (top 35) ad_law_draw oc_law_draw od_law_draw kV_law_draw dc_law_draw pm_law_draw an_law_draw cd_law_draw ct_law_draw sl_law_draw) {ad_law_pick : Addr} {oc_law_pick kV_law_pick dc_law_pick pm_law_pick cd_law_pick ct_law_pick : Value} {od_law_pick an_law_pick : Option Addr} {sl_law_pick : Array (Option Value)} (d_law_pick : FactD K "_law_pick" (top 36) ad_law_pick oc_law_pick od_law_pick kV_law_pick dc_law_pick pm_law_pick an_law_pick cd_law_pick ct_law_pick sl_law_pick) {ad_law_zone : Addr} {oc_law_zone kV_law_zone dc_law_zone pm_law_zone cd_law_zone ct_law_zone : Value} {od_law_zone an_law_zone : Option Addr} {sl_law_zone : Array (Option Value)} (d_law_zone : FactD K "_law_zone" (top 37) ad_law_zone oc_law_zone od_law_zone kV_law_zone dc_law_zone pm_law_zone an_law_zone cd_law_zone ct_law_zone sl_law_zone) {ad_law_plan : Addr} {oc_law_plan kV_law_plan dc_law_plan pm_law_plan cd_law_plan ct_law_plan : Value} {od_law_plan an_law_plan : Option Addr} {sl_law_plan : Array (Option Value)} (d_law_plan : FactD K "_law_plan" (top 39) ad_law_plan oc_law_plan od_law_plan kV_law_plan dc_law_plan pm_law_plan an_law_plan cd_law_plan ct_law_plan sl_law_plan) {ad_law_clock : Addr} {oc_law_clock kV_law_clock dc_law_clock pm_law_clock cd_law_clock ct_law_clock : Value} {od_law_clock an_law_clock : Option Addr} {sl_law_clock : Array (Option Value)} (d_law_clock : FactD K "_law_clock" (top 38) ad_law_clock oc_law_clock od_law_clock kV_law_clock dc_law_clock pm_law_clock an_law_clock cd_law_clock ct_law_clock sl_law_clock) {ad_law_dues : Addr} {oc_law_dues kV_law_dues dc_law_dues pm_law_dues cd_law_dues ct_law_dues : Value} {od_law_dues an_law_dues : Option Addr} {sl_law_dues : Array (Option Value)} (d_law_dues : FactD K "_law_dues" (top 40) ad_law_dues oc_law_dues od_law_dues kV_law_dues dc_law_dues pm_law_dues an_law_dues cd_law_dues ct_law_dues sl_law_dues) {ad_is_whole : Addr} {oc_is_whole kV_is_whole dc_is_whole pm_is_whole cd_is_whole ct_is_whole : Value} {od_is_whole an_is_whole : Option Addr} {sl_is_whole : Array (Option Value)} (d_is_whole : FactD K "is_whole" (top 19) ad_is_whole oc_is_whole od_is_whole kV_is_whole dc_is_whole pm_is_whole an_is_whole cd_is_whole ct_is_whole sl_is_whole) {ad_is_zone : Addr} {oc_is_zone kV_is_zone dc_is_zone pm_is_zone cd_is_zone ct_is_zone : Value} {od_is_zone an_is_zone : Option Addr} {sl_is_zone : Array (Option Value)} (d_is_zone : FactD K "is_zone" (top 20) ad_is_zone oc_is_zone od_is_zone kV_is_zone dc_is_zone pm_is_zone an_is_zone cd_is_zone ct_is_zone sl_is_zone) {ad_need_zone : Addr} {oc_need_zone kV_need_zone dc_need_zone pm_need_zone cd_need_zone ct_need_zone : Value} {od_need_zone an_need_zone : Option Addr} {sl_need_zone : Array (Option Value)} (d_need_zone : FactD K "need_zone" (top 21) ad_need_zone oc_need_zone od_need_zone kV_need_zone dc_need_zone pm_need_zone an_need_zone cd_need_zone ct_need_zone sl_need_zone) {ad_is_plan : Addr} {oc_is_plan kV_is_plan dc_is_plan pm_is_plan cd_is_plan ct_is_plan : Value} {od_is_plan an_is_plan : Option Addr} {sl_is_plan : Array (Option Value)} (d_is_plan : FactD K "is_plan" (top 27) ad_is_plan oc_is_plan od_is_plan kV_is_plan dc_is_plan pm_is_plan an_is_plan cd_is_plan ct_is_plan sl_is_plan) {ad_need_plan : Addr} {oc_need_plan kV_need_plan dc_need_plan pm_need_plan cd_need_plan ct_need_plan : Value} {od_need_plan an_need_plan : Option Addr} {sl_need_plan : Array (Option Value)} (d_need_plan : FactD K "need_plan" (top 28) ad_need_plan oc_need_plan od_need_plan kV_need_plan dc_need_plan pm_need_plan an_need_plan cd_need_plan ct_need_plan sl_need_plan) {ad_wall_at : Addr} {oc_wall_at kV_wall_at dc_wall_at pm_wall_at cd_wall_at ct_wall_at : Value} {od_wall_at an_wall_at : Option Addr} {sl_wall_at : Array (Option Value)} (d_wall_at : FactD K "wall_at" (top 23) ad_wall_at oc_wall_at od_wall_at kV_wall_at dc_wall_at pm_wall_at an_wall_at cd_wall_at ct_wall_at sl_wall_at) {ad_first_at : Addr} {oc_first_at kV_first_at dc_first_at pm_first_at cd_first_at ct_first_at : Value} {od_first_at an_first_at : Option Addr} {sl_first_at : Array (Option Value)} (d_first_at : FactD K "first_at" (top 24) ad_first_at oc_first_at od_first_at kV_first_at dc_first_at pm_first_at an_first_at cd_first_at ct_first_at sl_first_at) {ad_due_at : Addr} {oc_due_at kV_due_at dc_due_at pm_due_at cd_due_at ct_due_at : Value} {od_due_at an_due_at : Option Addr} {sl_due_at : Array (Option Value)} (d_due_at : FactD K "due_at" (top 29) ad_due_at oc_due_at od_due_at kV_due_at dc_due_at pm_due_at an_due_at cd_due_at ct_due_at sl_due_at) {ad_due : Addr} {oc_due kV_due dc_due pm_due cd_due ct_due : Value} {od_due an_due : Option Addr} {sl_due : Array (Option Value)} (d_due : FactD K "due" (top 30) ad_due oc_due od_due kV_due dc_due pm_due an_due cd_due ct_due sl_due) {ad_need_moment : Addr} {oc_need_moment kV_need_moment dc_need_moment pm_need_moment cd_need_moment ct_need_moment : Value} {od_need_moment an_need_moment : Option Addr} {sl_need_moment : Array (Option Value)} (d_need_moment : FactD K "need_moment" (top 22) ad_need_moment oc_need_moment od_need_moment kV_need_moment dc_need_moment pm_need_moment an_need_moment cd_need_moment ct_need_moment sl_need_moment) {ad_dues : Addr} {oc_dues kV_dues dc_dues pm_dues cd_dues ct_dues : Value} {od_dues an_dues : Option Addr} {sl_dues : Array (Option Value)} (d_dues : FactD K "dues" (top 31) ad_dues oc_dues od_dues kV_dues dc_dues pm_dues an_dues cd_dues ct_dues sl_dues) {ad_law_which : Addr} {oc_law_which kV_law_which dc_law_which pm_law_which cd_law_which ct_law_which : Value} {od_law_which an_law_which : Option Addr} {sl_law_which : Array (Option Value)} (d_law_which : FactD K "_law_which" (top 41) ad_law_which oc_law_which od_law_which kV_law_which dc_law_which pm_law_which an_law_which cd_law_which ct_law_which sl_law_which) {ad_law_ask : Addr} {oc_law_ask kV_law_ask dc_law_ask pm_law_ask cd_law_ask ct_law_ask : Value} {od_law_ask an_law_ask : Option Addr} {sl_law_ask : Array (Option Value)} (d_law_ask : FactD K "_law_ask" (top 42) ad_law_ask oc_law_ask od_law_ask kV_law_ask dc_law_ask pm_law_ask an_law_ask cd_law_ask ct_law_ask sl_law_ask) {ad_law : Addr} {oc_law kV_law dc_law pm_law cd_law ct_law : Value} {od_law an_law : Option Addr} {sl_law : Array (Option Value)} (d_law : FactD K "law" (top 43) ad_law oc_law od_law kV_law dc_law pm_law an_law cd_law ct_law sl_law) (fa : Addr) (hfa : mg "law" = some (.ref fa)) :
    ∃ fd : FuncData, (∀ (s : Shared) (u : Value), BindsTo s fd ⟨[u], []⟩ [("_law_script", u)]) ∧ ∀ base : Heap, FnOk P w K mg base (L2.CX P w) 6 fa fd ["_law_script"] (spEnd K) := by
  have bf := bf_of X G zb
  replace d_law_cell_at := d_law_cell_at.fact
  replace d_law_mixed := d_law_mixed.fact
  replace d_law_draw := d_law_draw.fact
  replace d_law_pick := d_law_pick.fact
  replace d_law_zone := d_law_zone.fact
  replace d_law_plan := d_law_plan.fact
  replace d_law_clock := d_law_clock.fact
  replace d_law_dues := d_law_dues.fact
  replace d_is_whole := d_is_whole.fact
  replace d_is_zone := d_is_zone.fact
  replace d_need_zone := d_need_zone.fact
  replace d_is_plan := d_is_plan.fact
  replace d_need_plan := d_need_plan.fact
  replace d_wall_at := d_wall_at.fact
  replace d_first_at := d_first_at.fact
  replace d_due_at := d_due_at.fact
  replace d_due := d_due.fact
  replace d_need_moment := d_need_moment.fact
  replace d_dues := d_dues.fact
  replace d_law_which := d_law_which.fact
  replace d_law_ask := d_law_ask.fact
  obtain ⟨h1, h2, h3, h4⟩ := d_law
  have e := hfa.symm.trans (PySem.W.mg_of X G h1)
  cases e
  refine ⟨PySem.W.fnOf "law" "law" (defArgs (top 43)) (defBody (top 43)) (defScope (top 43)) .none kV_law dc_law pm_law an_law cd_law ct_law, fun s v => .of_eq rfl, fun base => ?_⟩
  have G_DAY := gl_int X G g_DAY
  have G_HIGH := gl_int X G g_HIGH
  have G_LOW := gl_int X G g_LOW
  have G_MOMENTS := gl_int X G g_MOMENTS
  have G_SHIFTS := gl_int X G g_SHIFTS
  have G_STEP := gl_int X G g_STEP
  have R_NoZone : RaiseOk K mg ((clOf [0, C_NoZone, C_NoPlan, C_NoMoment, C_NoCount, 0, 0, 0, 0, 0, 0, 0, 0, 0, 0]) 1) "NoZone" := raise_of X G x_NoZone
  have R_NoPlan : RaiseOk K mg ((clOf [0, C_NoZone, C_NoPlan, C_NoMoment, C_NoCount, 0, 0, 0, 0, 0, 0, 0, 0, 0, 0]) 2) "NoPlan" := raise_of X G x_NoPlan
  have R_NoMoment : RaiseOk K mg ((clOf [0, C_NoZone, C_NoPlan, C_NoMoment, C_NoCount, 0, 0, 0, 0, 0, 0, 0, 0, 0, 0]) 3) "NoMoment" := raise_of X G x_NoMoment
  have R_NoCount : RaiseOk K mg ((clOf [0, C_NoZone, C_NoPlan, C_NoMoment, C_NoCount, 0, 0, 0, 0, 0, 0, 0, 0, 0, 0]) 4) "NoCount" := raise_of X G x_NoCount
  have c_law_cell_at : CallOk P w K mg base (clOf [0, C_NoZone, C_NoPlan, C_NoMoment, C_NoCount, 0, 0, 0, 0, 0, 0, 0, 0, 0, 0]) 1 "_law_cell_at" QT.f_law_cell_at := call_ok X G d_law_cell_at sc_law_cell_at ck_law_cell_at bf (fun _ _ _ _ _ _ us hl => match us, hl with | [_, _], _ => rfl) (by skip; unfold QT.b_law_cell_at; simp only [okB, okS, okE, okEs, okEo, okIt, and_true, true_and, List.mem_cons, List.not_mem_nil, or_false, forall_eq_or_imp, forall_eq]; (repeat' first | assumption | trivial | apply And.intro))
  have c_law_mixed : CallOk P w K mg base (clOf [0, C_NoZone, C_NoPlan, C_NoMoment, C_NoCount, 0, 0, 0, 0, 0, 0, 0, 0, 0, 0]) 2 "_law_mixed" QTA.f_law_mixed := call_ok X G d_law_mixed sc_law_mixed ck_law_mixed bf (fun _ _ _ _ _ _ us hl => match us, hl with | [_, _, _], _ => rfl) (by have U_law_cell_at := c_law_cell_at.mono (show 1 ≤ 1 by decide); unfold QTA.b_law_mixed; simp only [okB, okS, okE, okEs, okEo, okIt, and_true, true_and, List.mem_cons, List.not_mem_nil, or_false, forall_eq_or_imp, forall_eq]; (repeat' first | assumption | trivial | apply And.intro))
  have c_law_draw : CallOk P w K mg base (clOf [0, C_NoZone, C_NoPlan, C_NoMoment, C_NoCount, 0, 0, 0, 0, 0, 0, 0, 0, 0, 0]) 3 "_law_draw" QTA.f_law_draw := call_ok X G d_law_draw sc_law_draw ck_law_draw bf (fun _ _ _ _ _ _ us hl => match us, hl with | [_, _, _], _ => rfl) (by have U_law_mixed := c_law_mixed.mono (show 2 ≤ 2 by decide); unfold QTA.b_law_draw; simp only [okB, okS, okE, okEs, okEo, okIt, and_true, true_and, List.mem_cons, List.not_mem_nil, or_false, forall_eq_or_imp, forall_eq]; (repeat' first | assumption | trivial | apply And.intro))
  have c_law_pick : CallOk P w K mg base (clOf [0, C_NoZone, C_NoPlan, C_NoMoment, C_NoCount, 0, 0, 0, 0, 0, 0, 0, 0, 0, 0]) 4 "_law_pick" QTA.f_law_pick := call_ok X G d_law_pick sc_law_pick ck_law_pick bf (fun _ _ _ _ _ _ us hl => match us, hl with | [_, _, _], _ => rfl) (by have U_law_draw := c_law_draw.mono (show 3 ≤ 3 by decide); unfold QTA.b_law_pick; simp only [okB, okS, okE, okEs, okEo, okIt, and_true, true_and, List.mem_cons, List.not_mem_nil, or_false, forall_eq_or_imp, forall_eq]; (repeat' first | assumption | trivial | apply And.intro))
  have c_law_zone : CallOk P w K mg base (clOf [0, C_NoZone, C_NoPlan, C_NoMoment, C_NoCount, 0, 0, 0, 0, 0, 0, 0, 0, 0, 0]) 5 "_law_zone" QTA.f_law_zone := call_ok X G d_law_zone sc_law_zone ck_law_zone bf (fun _ _ _ _ _ _ us hl => match us, hl with | [_, _], _ => rfl) (by have U_law_draw := c_law_draw.mono (show 3 ≤ 4 by decide); have U_law_pick := c_law_pick.mono (show 4 ≤ 4 by decide); unfold QTA.b_law_zone; simp only [okB, okS, okE, okEs, okEo, okIt, and_true, true_and, List.mem_cons, List.not_mem_nil, or_false, forall_eq_or_imp, forall_eq]; (repeat' first | assumption | trivial | apply And.intro))
  have c_law_plan : CallOk P w K mg base (clOf [0, C_NoZone, C_NoPlan, C_NoMoment, C_NoCount, 0, 0, 0, 0, 0, 0, 0, 0, 0, 0]) 5 "_law_plan" QTA.f_law_plan := call_ok X G d_law_plan sc_law_plan ck_law_plan bf (fun _ _ _ _ _ _ us hl => match us, hl with | [_, _], _ => rfl) (by have U_law_draw := c_law_draw.mono (show 3 ≤ 4 by decide); have U_law_pick := c_law_pick.mono (show 4 ≤ 4 by decide); unfold QTA.b_law_plan; simp only [okB, okS, okE, okEs, okEo, okIt, and_true, true_and, List.mem_cons, List.not_mem_nil, or_false, forall_eq_or_imp, forall_eq]; (repeat' first | assumption | trivial | apply And.intro))
  have c_law_clock : CallOk P w K mg base (clOf [0, C_NoZone, C_NoPlan, C_NoMoment, C_NoCount, 0, 0, 0, 0, 0, 0, 0, 0, 0, 0]) 1 "_law_clock" QTA.f_law_clock := call_ok X G d_law_clock sc_law_clock ck_law_clock bf (fun _ _ _ _ _ _ us hl => match us, hl with | [_, _], _ => rfl) (by skip; unfold QTA.b_law_clock; simp only [okB, okS, okE, okEs, okEo, okIt, and_true, true_and, List.mem_cons, List.not_mem_nil, or_false, forall_eq_or_imp, forall_eq]; (repeat' first | assumption | trivial | apply And.intro))
  have c_law_dues : CallOk P w K mg base (clOf [0, C_NoZone, C_NoPlan, C_NoMoment, C_NoCount, 0, 0, 0, 0, 0, 0, 0, 0, 0, 0]) 2 "_law_dues" QTA.f_law_dues := call_ok X G d_law_dues sc_law_dues ck_law_dues bf (fun _ _ _ _ _ _ us hl => match us, hl with | [_, _, _], _ => rfl) (by have U_law_clock := c_law_clock.mono (show 1 ≤ 1 by decide); unfold QTA.b_law_dues; simp only [okB, okS, okE, okEs, okEo, okIt, and_true, true_and, List.mem_cons, List.not_mem_nil, or_false, forall_eq_or_imp, forall_eq]; (repeat' first | assumption | trivial | apply And.intro))
  have c_is_whole : CallOk P w K mg base (clOf [0, C_NoZone, C_NoPlan, C_NoMoment, C_NoCount, 0, 0, 0, 0, 0, 0, 0, 0, 0, 0]) 1 "is_whole" QT.f_is_whole := call_ok X G d_is_whole sc_is_whole ck_is_whole bf (fun _ _ _ _ _ _ us hl => match us, hl with | [_, _, _], _ => rfl) (by skip; unfold QT.b_is_whole; simp only [okB, okS, okE, okEs, okEo, okIt, and_true, true_and, List.mem_cons, List.not_mem_nil, or_false, forall_eq_or_imp, forall_eq]; (repeat' first | assumption | trivial | apply And.intro))
  have c_is_zone : CallOk P w K mg base (clOf [0, C_NoZone, C_NoPlan, C_NoMoment, C_NoCount, 0, 0, 0, 0, 0, 0, 0, 0, 0, 0]) 2 "is_zone" QT.f_is_zone := call_ok X G d_is_zone sc_is_zone ck_is_zone bf (fun _ _ _ _ _ _ us hl => match us, hl with | [_], _ => rfl) (by have U_is_whole := c_is_whole.mono (show 1 ≤ 1 by decide); unfold QT.b_is_zone; simp only [okB, okS, okE, okEs, okEo, okIt, and_true, true_and, List.mem_cons, List.not_mem_nil, or_false, forall_eq_or_imp, forall_eq]; (repeat' first | assumption | trivial | apply And.intro))
  have c_need_zone : CallOk P w K mg base (clOf [0, C_NoZone, C_NoPlan, C_NoMoment, C_NoCount, 0, 0, 0, 0, 0, 0, 0, 0, 0, 0]) 3 "need_zone" QT.f_need_zone := call_ok X G d_need_zone sc_need_zone ck_need_zone bf (fun _ _ _ _ _ _ us hl => match us, hl with | [_], _ => rfl) (by have U_is_zone := c_is_zone.mono (show 2 ≤ 2 by decide); unfold QT.b_need_zone; simp only [okB, okS, okE, okEs, okEo, okIt, and_true, true_and, List.mem_cons, List.not_mem_nil, or_false, forall_eq_or_imp, forall_eq]; (repeat' first | assumption | trivial | apply And.intro))
  have c_is_plan : CallOk P w K mg base (clOf [0, C_NoZone, C_NoPlan, C_NoMoment, C_NoCount, 0, 0, 0, 0, 0, 0, 0, 0, 0, 0]) 2 "is_plan" QT.f_is_plan := call_ok X G d_is_plan sc_is_plan ck_is_plan bf (fun _ _ _ _ _ _ us hl => match us, hl with | [_], _ => rfl) (by have U_is_whole := c_is_whole.mono (show 1 ≤ 1 by decide); unfold QT.b_is_plan; simp only [okB, okS, okE, okEs, okEo, okIt, and_true, true_and, List.mem_cons, List.not_mem_nil, or_false, forall_eq_or_imp, forall_eq]; (repeat' first | assumption | trivial | apply And.intro))
  have c_need_plan : CallOk P w K mg base (clOf [0, C_NoZone, C_NoPlan, C_NoMoment, C_NoCount, 0, 0, 0, 0, 0, 0, 0, 0, 0, 0]) 3 "need_plan" QT.f_need_plan := call_ok X G d_need_plan sc_need_plan ck_need_plan bf (fun _ _ _ _ _ _ us hl => match us, hl with | [_], _ => rfl) (by have U_is_plan := c_is_plan.mono (show 2 ≤ 2 by decide); unfold QT.b_need_plan; simp only [okB, okS, okE, okEs, okEo, okIt, and_true, true_and, List.mem_cons, List.not_mem_nil, or_false, forall_eq_or_imp, forall_eq]; (repeat' first | assumption | trivial | apply And.intro))
  have c_wall_at : CallOk P w K mg base (clOf [0, C_NoZone, C_NoPlan, C_NoMoment, C_NoCount, 0, 0, 0, 0, 0, 0, 0, 0, 0, 0]) 1 "wall_at" QT.f_wall_at := call_ok X G d_wall_at sc_wall_at ck_wall_at bf (fun _ _ _ _ _ _ us hl => match us, hl with | [_, _], _ => rfl) (by skip; unfold QT.b_wall_at; simp only [okB, okS, okE, okEs, okEo, okIt, and_true, true_and, List.mem_cons, List.not_mem_nil, or_false, forall_eq_or_imp, forall_eq]; (repeat' first | assumption | trivial | apply And.intro))
  have c_first_at : CallOk P w K mg base (clOf [0, C_NoZone, C_NoPlan, C_NoMoment, C_NoCount, 0, 0, 0, 0, 0, 0, 0, 0, 0, 0]) 1 "first_at" QT.f_first_at := call_ok X G d_first_at sc_first_at ck_first_at bf (fun _ _ _ _ _ _ us hl => match us, hl with | [_, _], _ => rfl) (by skip; unfold QT.b_first_at; simp only [okB, okS, okE, okEs, okEo, okIt, and_true, true_and, List.mem_cons, List.not_mem_nil, or_false, forall_eq_or_imp, forall_eq]; (repeat' first | assumption | trivial | apply And.intro))
  have c_due_at : CallOk P w K mg base (clOf [0, C_NoZone, C_NoPlan, C_NoMoment, C_NoCount, 0, 0, 0, 0, 0, 0, 0, 0, 0, 0]) 2 "due_at" QT.f_due_at := call_ok X G d_due_at sc_due_at ck_due_at bf (fun _ _ _ _ _ _ us hl => match us, hl with | [_, _, _], _ => rfl) (by have U_wall_at := c_wall_at.mono (show 1 ≤ 1 by decide); have U_first_at := c_first_at.mono (show 1 ≤ 1 by decide); unfold QT.b_due_at; simp only [okB, okS, okE, okEs, okEo, okIt, and_true, true_and, List.mem_cons, List.not_mem_nil, or_false, forall_eq_or_imp, forall_eq]; (repeat' first | assumption | trivial | apply And.intro))
  have c_due : CallOk P w K mg base (clOf [0, C_NoZone, C_NoPlan, C_NoMoment, C_NoCount, 0, 0, 0, 0, 0, 0, 0, 0, 0, 0]) 4 "due" QT.f_due := call_ok X G d_due sc_due ck_due bf (fun _ _ _ _ _ _ us hl => match us, hl with | [_, _, _], _ => rfl) (by have U_need_zone := c_need_zone.mono (show 3 ≤ 3 by decide); have U_need_plan := c_need_plan.mono (show 3 ≤ 3 by decide); have U_is_whole := c_is_whole.mono (show 1 ≤ 3 by decide); have U_due_at := c_due_at.mono (show 2 ≤ 3 by decide); unfold QT.b_due; simp only [okB, okS, okE, okEs, okEo, okIt, and_true, true_and, List.mem_cons, List.not_mem_nil, or_false, forall_eq_or_imp, forall_eq]; (repeat' first | assumption | trivial | apply And.intro))
  have c_need_moment : CallOk P w K mg base (clOf [0, C_NoZone, C_NoPlan, C_NoMoment, C_NoCount, 0, 0, 0, 0, 0, 0, 0, 0, 0, 0]) 2 "need_moment" QT.f_need_moment := call_ok X G d_need_moment sc_need_moment ck_need_moment bf (fun _ _ _ _ _ _ us hl => match us, hl with | [_], _ => rfl) (by have U_is_whole := c_is_whole.mono (show 1 ≤ 1 by decide); unfold QT.b_need_moment; simp only [okB, okS, okE, okEs, okEo, okIt, and_true, true_and, List.mem_cons, List.not_mem_nil, or_false, forall_eq_or_imp, forall_eq]; (repeat' first | assumption | trivial | apply And.intro))
  have c_dues : CallOk P w K mg base (clOf [0, C_NoZone, C_NoPlan, C_NoMoment, C_NoCount, 0, 0, 0, 0, 0, 0, 0, 0, 0, 0]) 4 "dues" QT.f_dues := call_ok X G d_dues sc_dues ck_dues bf (fun _ _ _ _ _ _ us hl => match us, hl with | [_, _, _, _], _ => rfl) (by have U_need_zone := c_need_zone.mono (show 3 ≤ 3 by decide); have U_need_plan := c_need_plan.mono (show 3 ≤ 3 by decide); have U_need_moment := c_need_moment.mono (show 2 ≤ 3 by decide); have U_due_at := c_due_at.mono (show 2 ≤ 3 by decide); unfold QT.b_dues; simp only [okB, okS, okE, okEs, okEo, okIt, and_true, true_and, List.mem_cons, List.not_mem_nil, or_false, forall_eq_or_imp, forall_eq]; (repeat' first | assumption | trivial | apply And.intro))
  have c_law_which : HotCall P w K mg base (clOf [0, C_NoZone, C_NoPlan, C_NoMoment, C_NoCount, 0, 0, 0, 0, 0, 0, 0, 0, 0, 0]) 1 "_law_which" QTA.f_law_which [1, 2, 3, 4] := hot_call X G d_law_which sc_law_which ck_law_which (bf "isinstance" (by decide +kernel)) (fun _ _ => by simp [QTA.b_law_which, hotB, hotS, hotE, hotEs, hotT]) (fun _ _ _ _ _ _ us hl => match us, hl with | [_], _ => rfl) (by
      intro c hc a oe X0 hK hm hp hz hf
      simp only [List.mem_cons, List.not_mem_nil, or_false] at hc
      rcases hc with rfl | rfl | rfl | rfl
      · have hz : Zc (.ref C_NoZone) none oe := hz
        have I_NoCount : IskOk X0 a (isC 1 4) "NoCount" := isk_of X G hK hm hp hz hf gf n_NoZone r_NoZone n_NoCount s_NoZone_NoCount
        have I_NoMoment : IskOk X0 a (isC 1 3) "NoMoment" := isk_of X G hK hm hp hz hf gf n_NoZone r_NoZone n_NoMoment s_NoZone_NoMoment
        have I_NoPlan : IskOk X0 a (isC 1 2) "NoPlan" := isk_of X G hK hm hp hz hf gf n_NoZone r_NoZone n_NoPlan s_NoZone_NoPlan
        have I_NoZone : IskOk X0 a (isC 1 1) "NoZone" := isk_of X G hK hm hp hz hf gf n_NoZone r_NoZone n_NoZone s_NoZone_NoZone
        have I_NoTerm : IskOk X0 a (isC 1 8) "NoTerm" := isk_of X G hK hm hp hz hf gf n_NoZone r_NoZone n_NoTerm s_NoZone_NoTerm
        have I_NoRunner : IskOk X0 a (isC 1 7) "NoRunner" := isk_of X G hK hm hp hz hf gf n_NoZone r_NoZone n_NoRunner s_NoZone_NoRunner
        have I_NoDeed : IskOk X0 a (isC 1 6) "NoDeed" := isk_of X G hK hm hp hz hf gf n_NoZone r_NoZone n_NoDeed s_NoZone_NoDeed
        have I_NoDeeds : IskOk X0 a (isC 1 5) "NoDeeds" := isk_of X G hK hm hp hz hf gf n_NoZone r_NoZone n_NoDeeds s_NoZone_NoDeeds
        have I_NoCall : IskOk X0 a (isC 1 11) "NoCall" := isk_of X G hK hm hp hz hf gf n_NoZone r_NoZone n_NoCall s_NoZone_NoCall
        have I_Nothing : IskOk X0 a (isC 1 10) "Nothing" := isk_of X G hK hm hp hz hf gf n_NoZone r_NoZone n_Nothing s_NoZone_Nothing
        have I_NotHolder : IskOk X0 a (isC 1 9) "NotHolder" := isk_of X G hK hm hp hz hf gf n_NoZone r_NoZone n_NotHolder s_NoZone_NotHolder
        have I_V := isk_ve X G hK hm hp hz hf gf n_NoZone r_NoZone nve
        unfold QTA.b_law_which; simp only [okHB, okHS, okHE, okHEs, and_true, true_and]; (repeat' first | assumption | apply And.intro)
      · have hz : Zc (.ref C_NoPlan) none oe := hz
        have I_NoCount : IskOk X0 a (isC 2 4) "NoCount" := isk_of X G hK hm hp hz hf gf n_NoPlan r_NoPlan n_NoCount s_NoPlan_NoCount
        have I_NoMoment : IskOk X0 a (isC 2 3) "NoMoment" := isk_of X G hK hm hp hz hf gf n_NoPlan r_NoPlan n_NoMoment s_NoPlan_NoMoment
        have I_NoPlan : IskOk X0 a (isC 2 2) "NoPlan" := isk_of X G hK hm hp hz hf gf n_NoPlan r_NoPlan n_NoPlan s_NoPlan_NoPlan
        have I_NoZone : IskOk X0 a (isC 2 1) "NoZone" := isk_of X G hK hm hp hz hf gf n_NoPlan r_NoPlan n_NoZone s_NoPlan_NoZone
        have I_NoTerm : IskOk X0 a (isC 2 8) "NoTerm" := isk_of X G hK hm hp hz hf gf n_NoPlan r_NoPlan n_NoTerm s_NoPlan_NoTerm
        have I_NoRunner : IskOk X0 a (isC 2 7) "NoRunner" := isk_of X G hK hm hp hz hf gf n_NoPlan r_NoPlan n_NoRunner s_NoPlan_NoRunner
        have I_NoDeed : IskOk X0 a (isC 2 6) "NoDeed" := isk_of X G hK hm hp hz hf gf n_NoPlan r_NoPlan n_NoDeed s_NoPlan_NoDeed
        have I_NoDeeds : IskOk X0 a (isC 2 5) "NoDeeds" := isk_of X G hK hm hp hz hf gf n_NoPlan r_NoPlan n_NoDeeds s_NoPlan_NoDeeds
        have I_NoCall : IskOk X0 a (isC 2 11) "NoCall" := isk_of X G hK hm hp hz hf gf n_NoPlan r_NoPlan n_NoCall s_NoPlan_NoCall
        have I_Nothing : IskOk X0 a (isC 2 10) "Nothing" := isk_of X G hK hm hp hz hf gf n_NoPlan r_NoPlan n_Nothing s_NoPlan_Nothing
        have I_NotHolder : IskOk X0 a (isC 2 9) "NotHolder" := isk_of X G hK hm hp hz hf gf n_NoPlan r_NoPlan n_NotHolder s_NoPlan_NotHolder
        have I_V := isk_ve X G hK hm hp hz hf gf n_NoPlan r_NoPlan nve
        unfold QTA.b_law_which; simp only [okHB, okHS, okHE, okHEs, and_true, true_and]; (repeat' first | assumption | apply And.intro)
      · have hz : Zc (.ref C_NoMoment) none oe := hz
        have I_NoCount : IskOk X0 a (isC 3 4) "NoCount" := isk_of X G hK hm hp hz hf gf n_NoMoment r_NoMoment n_NoCount s_NoMoment_NoCount
        have I_NoMoment : IskOk X0 a (isC 3 3) "NoMoment" := isk_of X G hK hm hp hz hf gf n_NoMoment r_NoMoment n_NoMoment s_NoMoment_NoMoment
        have I_NoPlan : IskOk X0 a (isC 3 2) "NoPlan" := isk_of X G hK hm hp hz hf gf n_NoMoment r_NoMoment n_NoPlan s_NoMoment_NoPlan
        have I_NoZone : IskOk X0 a (isC 3 1) "NoZone" := isk_of X G hK hm hp hz hf gf n_NoMoment r_NoMoment n_NoZone s_NoMoment_NoZone
        have I_NoTerm : IskOk X0 a (isC 3 8) "NoTerm" := isk_of X G hK hm hp hz hf gf n_NoMoment r_NoMoment n_NoTerm s_NoMoment_NoTerm
        have I_NoRunner : IskOk X0 a (isC 3 7) "NoRunner" := isk_of X G hK hm hp hz hf gf n_NoMoment r_NoMoment n_NoRunner s_NoMoment_NoRunner
        have I_NoDeed : IskOk X0 a (isC 3 6) "NoDeed" := isk_of X G hK hm hp hz hf gf n_NoMoment r_NoMoment n_NoDeed s_NoMoment_NoDeed
        have I_NoDeeds : IskOk X0 a (isC 3 5) "NoDeeds" := isk_of X G hK hm hp hz hf gf n_NoMoment r_NoMoment n_NoDeeds s_NoMoment_NoDeeds
        have I_NoCall : IskOk X0 a (isC 3 11) "NoCall" := isk_of X G hK hm hp hz hf gf n_NoMoment r_NoMoment n_NoCall s_NoMoment_NoCall
        have I_Nothing : IskOk X0 a (isC 3 10) "Nothing" := isk_of X G hK hm hp hz hf gf n_NoMoment r_NoMoment n_Nothing s_NoMoment_Nothing
        have I_NotHolder : IskOk X0 a (isC 3 9) "NotHolder" := isk_of X G hK hm hp hz hf gf n_NoMoment r_NoMoment n_NotHolder s_NoMoment_NotHolder
        have I_V := isk_ve X G hK hm hp hz hf gf n_NoMoment r_NoMoment nve
        unfold QTA.b_law_which; simp only [okHB, okHS, okHE, okHEs, and_true, true_and]; (repeat' first | assumption | apply And.intro)
      · have hz : Zc (.ref C_NoCount) none oe := hz
        have I_NoCount : IskOk X0 a (isC 4 4) "NoCount" := isk_of X G hK hm hp hz hf gf n_NoCount r_NoCount n_NoCount s_NoCount_NoCount
        have I_NoMoment : IskOk X0 a (isC 4 3) "NoMoment" := isk_of X G hK hm hp hz hf gf n_NoCount r_NoCount n_NoMoment s_NoCount_NoMoment
        have I_NoPlan : IskOk X0 a (isC 4 2) "NoPlan" := isk_of X G hK hm hp hz hf gf n_NoCount r_NoCount n_NoPlan s_NoCount_NoPlan
        have I_NoZone : IskOk X0 a (isC 4 1) "NoZone" := isk_of X G hK hm hp hz hf gf n_NoCount r_NoCount n_NoZone s_NoCount_NoZone
        have I_NoTerm : IskOk X0 a (isC 4 8) "NoTerm" := isk_of X G hK hm hp hz hf gf n_NoCount r_NoCount n_NoTerm s_NoCount_NoTerm
        have I_NoRunner : IskOk X0 a (isC 4 7) "NoRunner" := isk_of X G hK hm hp hz hf gf n_NoCount r_NoCount n_NoRunner s_NoCount_NoRunner
        have I_NoDeed : IskOk X0 a (isC 4 6) "NoDeed" := isk_of X G hK hm hp hz hf gf n_NoCount r_NoCount n_NoDeed s_NoCount_NoDeed
        have I_NoDeeds : IskOk X0 a (isC 4 5) "NoDeeds" := isk_of X G hK hm hp hz hf gf n_NoCount r_NoCount n_NoDeeds s_NoCount_NoDeeds
        have I_NoCall : IskOk X0 a (isC 4 11) "NoCall" := isk_of X G hK hm hp hz hf gf n_NoCount r_NoCount n_NoCall s_NoCount_NoCall
        have I_Nothing : IskOk X0 a (isC 4 10) "Nothing" := isk_of X G hK hm hp hz hf gf n_NoCount r_NoCount n_Nothing s_NoCount_Nothing
        have I_NotHolder : IskOk X0 a (isC 4 9) "NotHolder" := isk_of X G hK hm hp hz hf gf n_NoCount r_NoCount n_NotHolder s_NoCount_NotHolder
        have I_V := isk_ve X G hK hm hp hz hf gf n_NoCount r_NoCount nve
        unfold QTA.b_law_which; simp only [okHB, okHS, okHE, okHEs, and_true, true_and]; (repeat' first | assumption | apply And.intro)
      ) (fun c => .tup [.str "refused", .int ((c : Int) - 1)]) (by
      intro c hc a S
      simp only [List.mem_cons, List.not_mem_nil, or_false] at hc
      exact QTA.which_spec c (by omega) (by omega) a S)
  have TY_law_ask : TryOk P w K mg base (clOf [0, C_NoZone, C_NoPlan, C_NoMoment, C_NoCount, 0, 0, 0, 0, 0, 0, 0, 0, 0, 0]) 4 (some ("_law_which", QTA.f_law_which)) [1, 2, 3, 4] := ⟨⟨_, PySem.W.mg_of X G n_DueError.1, by
      intro c hc
      simp only [List.mem_cons, List.not_mem_nil, or_false] at hc
      rcases hc with rfl | rfl | rfl | rfl
      · exact exm_of n_DueError s_NoZone_DueError
      · exact exm_of n_DueError s_NoPlan_DueError
      · exact exm_of n_DueError s_NoMoment_DueError
      · exact exm_of n_DueError s_NoCount_DueError
    ⟩, (c_law_which.mono (show 1 ≤ 4 by decide))⟩
  have c_law_ask : CallOk P w K mg base (clOf [0, C_NoZone, C_NoPlan, C_NoMoment, C_NoCount, 0, 0, 0, 0, 0, 0, 0, 0, 0, 0]) 5 "_law_ask" f_law_ask := call_ok X G d_law_ask sc_law_ask ck_law_ask bf (fun _ _ _ _ _ _ us hl => match us, hl with | [_, _, _, _, _], _ => rfl) (by have U_due := c_due.mono (show 4 ≤ 4 by decide); have U_dues := c_dues.mono (show 4 ≤ 4 by decide); unfold b_law_ask; simp only [okB, okS, okE, okEs, okEo, okIt, and_true, true_and, List.mem_cons, List.not_mem_nil, or_false, forall_eq_or_imp, forall_eq]; (repeat' first | assumption | trivial | apply And.intro))
  exact end_imp (def_ok (cl := clOf [0, C_NoZone, C_NoPlan, C_NoMoment, C_NoCount, 0, 0, 0, 0, 0, 0, 0, 0, 0, 0]) (tr := true) (fun_mk (st := top 43) h2 h3 h4) sc_law ck_law bf (by have U_law_zone := c_law_zone.mono (show 5 ≤ 5 by decide); have U_law_plan := c_law_plan.mono (show 5 ≤ 5 by decide); have U_law_draw := c_law_draw.mono (show 3 ≤ 5 by decide); have U_law_pick := c_law_pick.mono (show 4 ≤ 5 by decide); have U_law_dues := c_law_dues.mono (show 2 ≤ 5 by decide); have U_law_ask := c_law_ask.mono (show 5 ≤ 5 by decide); unfold b_law; simp only [okB, okS, okE, okEs, okEo, okIt, and_true, true_and, List.mem_cons, List.not_mem_nil, or_false, forall_eq_or_imp, forall_eq]; (repeat' first | assumption | trivial | apply And.intro))) law_true
end
end QLaw
open PySem PySem.W PyProof.Rows in
set_option maxRecDepth 100000 in
set_option maxHeartbeats 0 in
theorem PySem.Challenge.cw_duehall_k02_dues_holds : PySem.Challenge.rw_duehall_k02_dues.Holds := by
  w_on; o_law; k_head; (case hw => w_witness2)
  k_fill
  refine Q.q_walk (k := 6) (x := "_law_script") rfl rfl ⟨rfl, by decide, by decide⟩ (fun w h Y => PySem.W.kIn_of Y) ?F
  case F =>
    intro w mg fa h KX G hmg
    refine' Q.drop_base (QLaw.all_ok (P := PySem.Challenge.rw_duehall_k02_dues.prog) (w := w) KX G ?zb ?g_DAY ?g_HIGH ?g_LOW ?g_MOMENTS ?g_SHIFTS ?g_STEP ?x_NoZone ?x_NoPlan ?x_NoMoment ?x_NoCount ?gf ?nve ?n_DueError ?n_NoZone ?n_NoPlan ?n_NoMoment ?n_NoCount ?n_NoDeeds ?n_NoDeed ?n_NoRunner ?n_NoTerm ?n_NotHolder ?n_Nothing ?n_NoCall ?r_NoZone ?r_NoPlan ?r_NoMoment ?r_NoCount ?s_NoZone_DueError ?s_NoZone_NoZone ?s_NoZone_NoPlan ?s_NoZone_NoMoment ?s_NoZone_NoCount ?s_NoZone_NoDeeds ?s_NoZone_NoDeed ?s_NoZone_NoRunner ?s_NoZone_NoTerm ?s_NoZone_NotHolder ?s_NoZone_Nothing ?s_NoZone_NoCall ?s_NoPlan_DueError ?s_NoPlan_NoZone ?s_NoPlan_NoPlan ?s_NoPlan_NoMoment ?s_NoPlan_NoCount ?s_NoPlan_NoDeeds ?s_NoPlan_NoDeed ?s_NoPlan_NoRunner ?s_NoPlan_NoTerm ?s_NoPlan_NotHolder ?s_NoPlan_Nothing ?s_NoPlan_NoCall ?s_NoMoment_DueError ?s_NoMoment_NoZone ?s_NoMoment_NoPlan ?s_NoMoment_NoMoment ?s_NoMoment_NoCount ?s_NoMoment_NoDeeds ?s_NoMoment_NoDeed ?s_NoMoment_NoRunner ?s_NoMoment_NoTerm ?s_NoMoment_NotHolder ?s_NoMoment_Nothing ?s_NoMoment_NoCall ?s_NoCount_DueError ?s_NoCount_NoZone ?s_NoCount_NoPlan ?s_NoCount_NoMoment ?s_NoCount_NoCount ?s_NoCount_NoDeeds ?s_NoCount_NoDeed ?s_NoCount_NoRunner ?s_NoCount_NoTerm ?s_NoCount_NotHolder ?s_NoCount_Nothing ?s_NoCount_NoCall  ?d_law_cell_at ?d_law_mixed ?d_law_draw ?d_law_pick ?d_law_zone ?d_law_plan ?d_law_clock ?d_law_dues ?d_is_whole ?d_is_zone ?d_need_zone ?d_is_plan ?d_need_plan ?d_wall_at ?d_first_at ?d_due_at ?d_due ?d_need_moment ?d_dues ?d_law_which ?d_law_ask ?d_law fa hmg)
    (case zb =>
      intro x hx
      simp only [List.mem_cons, List.not_mem_nil, or_false] at hx
      rcases hx with rfl | rfl | rfl | rfl | rfl | rfl | rfl | rfl | rfl | rfl | rfl | rfl | rfl | rfl | rfl | rfl | rfl | rfl <;> k_is)
    (case g_DAY => k_is)
    (case g_HIGH => k_is)
    (case g_LOW => k_is)
    (case g_MOMENTS => k_is)
    (case g_SHIFTS => k_is)
    (case g_STEP => k_is)
    (case x_NoZone => refine' ⟨?a, ?b, ?c, ?d, ?e⟩; (case a => k_is); (case b => k_is); (case c => k_exc); (case d => k_is); (case e => k_is))
    (case x_NoPlan => refine' ⟨?a, ?b, ?c, ?d, ?e⟩; (case a => k_is); (case b => k_is); (case c => k_exc); (case d => k_is); (case e => k_is))
    (case x_NoMoment => refine' ⟨?a, ?b, ?c, ?d, ?e⟩; (case a => k_is); (case b => k_is); (case c => k_exc); (case d => k_is); (case e => k_is))
    (case x_NoCount => refine' ⟨?a, ?b, ?c, ?d, ?e⟩; (case a => k_is); (case b => k_is); (case c => k_exc); (case d => k_is); (case e => k_is))
    (case n_DueError => refine' ⟨?a, ?b, ?c, ?d, ?e⟩; (case a => k_is); (case b => k_is); (case c => k_is); (case d => k_is); (case e => k_is))
    (case n_NoZone => refine' ⟨?a, ?b, ?c, ?d, ?e⟩; (case a => k_is); (case b => k_is); (case c => k_is); (case d => k_is); (case e => k_is))
    (case n_NoPlan => refine' ⟨?a, ?b, ?c, ?d, ?e⟩; (case a => k_is); (case b => k_is); (case c => k_is); (case d => k_is); (case e => k_is))
    (case n_NoMoment => refine' ⟨?a, ?b, ?c, ?d, ?e⟩; (case a => k_is); (case b => k_is); (case c => k_is); (case d => k_is); (case e => k_is))
    (case n_NoCount => refine' ⟨?a, ?b, ?c, ?d, ?e⟩; (case a => k_is); (case b => k_is); (case c => k_is); (case d => k_is); (case e => k_is))
    (case n_NoDeeds => refine' ⟨?a, ?b, ?c, ?d, ?e⟩; (case a => k_is); (case b => k_is); (case c => k_is); (case d => k_is); (case e => k_is))
    (case n_NoDeed => refine' ⟨?a, ?b, ?c, ?d, ?e⟩; (case a => k_is); (case b => k_is); (case c => k_is); (case d => k_is); (case e => k_is))
    (case n_NoRunner => refine' ⟨?a, ?b, ?c, ?d, ?e⟩; (case a => k_is); (case b => k_is); (case c => k_is); (case d => k_is); (case e => k_is))
    (case n_NoTerm => refine' ⟨?a, ?b, ?c, ?d, ?e⟩; (case a => k_is); (case b => k_is); (case c => k_is); (case d => k_is); (case e => k_is))
    (case n_NotHolder => refine' ⟨?a, ?b, ?c, ?d, ?e⟩; (case a => k_is); (case b => k_is); (case c => k_is); (case d => k_is); (case e => k_is))
    (case n_Nothing => refine' ⟨?a, ?b, ?c, ?d, ?e⟩; (case a => k_is); (case b => k_is); (case c => k_is); (case d => k_is); (case e => k_is))
    (case n_NoCall => refine' ⟨?a, ?b, ?c, ?d, ?e⟩; (case a => k_is); (case b => k_is); (case c => k_is); (case d => k_is); (case e => k_is))
    (case gf => refine' ⟨?a, ?b⟩; (case a => k_is); (case b => k_is))
    (case nve => k_is)
    (case r_NoZone => refine' ⟨?a, ?b, ?c, ?d, ?e⟩; (case a => k_is); (case b => k_is); (case c => k_is); (case d => k_is); (case e => k_is))
    (case r_NoPlan => refine' ⟨?a, ?b, ?c, ?d, ?e⟩; (case a => k_is); (case b => k_is); (case c => k_is); (case d => k_is); (case e => k_is))
    (case r_NoMoment => refine' ⟨?a, ?b, ?c, ?d, ?e⟩; (case a => k_is); (case b => k_is); (case c => k_is); (case d => k_is); (case e => k_is))
    (case r_NoCount => refine' ⟨?a, ?b, ?c, ?d, ?e⟩; (case a => k_is); (case b => k_is); (case c => k_is); (case d => k_is); (case e => k_is))
    (case s_NoZone_DueError => k_is)
    (case s_NoZone_NoZone => k_is)
    (case s_NoZone_NoPlan => k_is)
    (case s_NoZone_NoMoment => k_is)
    (case s_NoZone_NoCount => k_is)
    (case s_NoZone_NoDeeds => k_is)
    (case s_NoZone_NoDeed => k_is)
    (case s_NoZone_NoRunner => k_is)
    (case s_NoZone_NoTerm => k_is)
    (case s_NoZone_NotHolder => k_is)
    (case s_NoZone_Nothing => k_is)
    (case s_NoZone_NoCall => k_is)
    (case s_NoPlan_DueError => k_is)
    (case s_NoPlan_NoZone => k_is)
    (case s_NoPlan_NoPlan => k_is)
    (case s_NoPlan_NoMoment => k_is)
    (case s_NoPlan_NoCount => k_is)
    (case s_NoPlan_NoDeeds => k_is)
    (case s_NoPlan_NoDeed => k_is)
    (case s_NoPlan_NoRunner => k_is)
    (case s_NoPlan_NoTerm => k_is)
    (case s_NoPlan_NotHolder => k_is)
    (case s_NoPlan_Nothing => k_is)
    (case s_NoPlan_NoCall => k_is)
    (case s_NoMoment_DueError => k_is)
    (case s_NoMoment_NoZone => k_is)
    (case s_NoMoment_NoPlan => k_is)
    (case s_NoMoment_NoMoment => k_is)
    (case s_NoMoment_NoCount => k_is)
    (case s_NoMoment_NoDeeds => k_is)
    (case s_NoMoment_NoDeed => k_is)
    (case s_NoMoment_NoRunner => k_is)
    (case s_NoMoment_NoTerm => k_is)
    (case s_NoMoment_NotHolder => k_is)
    (case s_NoMoment_Nothing => k_is)
    (case s_NoMoment_NoCall => k_is)
    (case s_NoCount_DueError => k_is)
    (case s_NoCount_NoZone => k_is)
    (case s_NoCount_NoPlan => k_is)
    (case s_NoCount_NoMoment => k_is)
    (case s_NoCount_NoCount => k_is)
    (case s_NoCount_NoDeeds => k_is)
    (case s_NoCount_NoDeed => k_is)
    (case s_NoCount_NoRunner => k_is)
    (case s_NoCount_NoTerm => k_is)
    (case s_NoCount_NotHolder => k_is)
    (case s_NoCount_Nothing => k_is)
    (case s_NoCount_NoCall => k_is)
    (case d_law_cell_at => refine' ⟨?a, ?l, ?c, ?k⟩; (case a => k_is); (case l => k_is); (case c => k_is); (case k => k_is))
    (case d_law_mixed => refine' ⟨?a, ?l, ?c, ?k⟩; (case a => k_is); (case l => k_is); (case c => k_is); (case k => k_is))
    (case d_law_draw => refine' ⟨?a, ?l, ?c, ?k⟩; (case a => k_is); (case l => k_is); (case c => k_is); (case k => k_is))
    (case d_law_pick => refine' ⟨?a, ?l, ?c, ?k⟩; (case a => k_is); (case l => k_is); (case c => k_is); (case k => k_is))
    (case d_law_zone => refine' ⟨?a, ?l, ?c, ?k⟩; (case a => k_is); (case l => k_is); (case c => k_is); (case k => k_is))
    (case d_law_plan => refine' ⟨?a, ?l, ?c, ?k⟩; (case a => k_is); (case l => k_is); (case c => k_is); (case k => k_is))
    (case d_law_clock => refine' ⟨?a, ?l, ?c, ?k⟩; (case a => k_is); (case l => k_is); (case c => k_is); (case k => k_is))
    (case d_law_dues => refine' ⟨?a, ?l, ?c, ?k⟩; (case a => k_is); (case l => k_is); (case c => k_is); (case k => k_is))
    (case d_is_whole => refine' ⟨?a, ?l, ?c, ?k⟩; (case a => k_is); (case l => k_is); (case c => k_is); (case k => k_is))
    (case d_is_zone => refine' ⟨?a, ?l, ?c, ?k⟩; (case a => k_is); (case l => k_is); (case c => k_is); (case k => k_is))
    (case d_need_zone => refine' ⟨?a, ?l, ?c, ?k⟩; (case a => k_is); (case l => k_is); (case c => k_is); (case k => k_is))
    (case d_is_plan => refine' ⟨?a, ?l, ?c, ?k⟩; (case a => k_is); (case l => k_is); (case c => k_is); (case k => k_is))
    (case d_need_plan => refine' ⟨?a, ?l, ?c, ?k⟩; (case a => k_is); (case l => k_is); (case c => k_is); (case k => k_is))
    (case d_wall_at => refine' ⟨?a, ?l, ?c, ?k⟩; (case a => k_is); (case l => k_is); (case c => k_is); (case k => k_is))
    (case d_first_at => refine' ⟨?a, ?l, ?c, ?k⟩; (case a => k_is); (case l => k_is); (case c => k_is); (case k => k_is))
    (case d_due_at => refine' ⟨?a, ?l, ?c, ?k⟩; (case a => k_is); (case l => k_is); (case c => k_is); (case k => k_is))
    (case d_due => refine' ⟨?a, ?l, ?c, ?k⟩; (case a => k_is); (case l => k_is); (case c => k_is); (case k => k_is))
    (case d_need_moment => refine' ⟨?a, ?l, ?c, ?k⟩; (case a => k_is); (case l => k_is); (case c => k_is); (case k => k_is))
    (case d_dues => refine' ⟨?a, ?l, ?c, ?k⟩; (case a => k_is); (case l => k_is); (case c => k_is); (case k => k_is))
    (case d_law_which => refine' ⟨?a, ?l, ?c, ?k⟩; (case a => k_is); (case l => k_is); (case c => k_is); (case k => k_is))
    (case d_law_ask => refine' ⟨?a, ?l, ?c, ?k⟩; (case a => k_is); (case l => k_is); (case c => k_is); (case k => k_is))
    (case d_law => refine' ⟨?a, ?l, ?c, ?k⟩; (case a => k_is); (case l => k_is); (case c => k_is); (case k => k_is))
