import PyProof.Rows.All
import HandS.ForMost
import HandS.ForExc
import HandS.Wide
import KE.KExcIs
import HandS.ExcInit
import HandS.ExcField
import HandS.ExcOwn
import HandS.ExcValue
import HandS.TryMany
import HandS.HeadHook2
import HandS.Defaults
import HandS.WideBits
import HandS.Style
import HandS.Deep
import HandS.IsInst
import HandS.TupAny
import HandS.WordsDict
import HandS.WordsExc
import HandS.More
import HandS.TryOnly
import HandS.Comp
import HandS.Conv
import HandS.Zip
import HandS.Head0
import HandS.Head1
import HandS.Head2
import HandS.HeadEnd
import HandS.HeadHook1
import PySem.Challenge.RW_slowroad_k35_whole_never_mistaken
set_option Elab.async false
set_option linter.all false
set_option maxRecDepth 100000
set_option maxHeartbeats 0
/-! The deep machine: values, memory, the intermediate form, its evaluator. -/
namespace DM
open PySem

/-- a value; tuples are inline, and lists that never change (con: the script); what may change stands in the memory -/
inductive W where
  | non | bl (b : Bool) | int (i : Int) | str (x : List Nat) | tup (xs : List W) | con (xs : List W) | ref (a : Nat)
  deriving Inhabited
mutual
def decW : (a b : W) → Decidable (a = b)
  | .non, .non => .isTrue rfl
  | .bl a, .bl b => match decEq a b with
    | .isTrue h => .isTrue (by rw [h])
    | .isFalse h => .isFalse fun e => h (W.bl.inj e)
  | .int a, .int b => match decEq a b with
    | .isTrue h => .isTrue (by rw [h])
    | .isFalse h => .isFalse fun e => h (W.int.inj e)
  | .str a, .str b => match decEq a b with
    | .isTrue h => .isTrue (by rw [h])
    | .isFalse h => .isFalse fun e => h (W.str.inj e)
  | .ref a, .ref b => match decEq a b with
    | .isTrue h => .isTrue (by rw [h])
    | .isFalse h => .isFalse fun e => h (W.ref.inj e)
  | .tup a, .tup b => match decWs a b with
    | .isTrue h => .isTrue (by rw [h])
    | .isFalse h => .isFalse fun e => h (W.tup.inj e)
  | .con a, .con b => match decWs a b with
    | .isTrue h => .isTrue (by rw [h])
    | .isFalse h => .isFalse fun e => h (W.con.inj e)
  | .con _, .non | .con _, .bl _ | .con _, .int _ | .con _, .str _ | .con _, .ref _ | .con _, .tup _ => .isFalse nofun
  | .non, .con _ | .bl _, .con _ | .int _, .con _ | .str _, .con _ | .ref _, .con _ | .tup _, .con _ => .isFalse nofun
  | .non, .bl _ | .non, .int _ | .non, .str _ | .non, .tup _ | .non, .ref _ => .isFalse nofun
  | .bl _, .non | .bl _, .int _ | .bl _, .str _ | .bl _, .tup _ | .bl _, .ref _ => .isFalse nofun
  | .int _, .non | .int _, .bl _ | .int _, .str _ | .int _, .tup _ | .int _, .ref _ => .isFalse nofun
  | .str _, .non | .str _, .bl _ | .str _, .int _ | .str _, .tup _ | .str _, .ref _ => .isFalse nofun
  | .tup _, .non | .tup _, .bl _ | .tup _, .int _ | .tup _, .str _ | .tup _, .ref _ => .isFalse nofun
  | .ref _, .non | .ref _, .bl _ | .ref _, .int _ | .ref _, .str _ | .ref _, .tup _ => .isFalse nofun
def decWs : (a b : List W) → Decidable (a = b)
  | [], [] => .isTrue rfl
  | [], _ :: _ => .isFalse nofun
  | _ :: _, [] => .isFalse nofun
  | x :: xs, y :: ys => match decW x y, decWs xs ys with
    | .isTrue h, .isTrue g => .isTrue (by rw [h, g])
    | .isFalse h, _ => .isFalse fun e => h (List.cons.inj e).1
    | _, .isFalse g => .isFalse fun e => g (List.cons.inj e).2
end
instance : DecidableEq W := decW
/-- what stands in the memory: a list, a dict, an instance -/
inductive Ob where
  | lst (xs : List W) | dic (kvs : List (W × W)) | ins (c : Nat) (fs : List (Nat × W)) | exc (c : Nat) (fs : List (Nat × W))
  deriving Inhabited
abbrev Mem := List Ob
structure Ex where
  c : Nat
  fs : List (Nat × W)
inductive R (α : Type) where
  | ok (a : α) (h : Mem) | ex (x : Ex) (h : Mem) | bad
def R.bind {α β : Type} (r : R α) (f : α → Mem → R β) : R β := match r with
  | .ok a h => f a h
  | .ex x h => .ex x h
  | .bad => .bad
@[simp] theorem R.bind_ok {α β : Type} (a : α) (h : Mem) (f : α → Mem → R β) : (R.ok a h).bind f = f a h := by
  cases h <;> rfl
@[simp] theorem R.bind_ex {α β : Type} (x : Ex) (h : Mem) (f : α → Mem → R β) : (R.ex x h : R α).bind f = .ex x h := rfl
@[simp] theorem R.bind_bad {α β : Type} (f : α → Mem → R β) : (R.bad : R α).bind f = .bad := rfl

/-- an exception may not leave it -/
def R.calm {α : Type} (r : R α) : R α := match r with
  | .ok a h => .ok a h
  | _ => .bad
@[simp] theorem R.calm_ok {α : Type} (a : α) (h : Mem) : (R.ok a h).calm = .ok a h := by
  cases h <;> rfl
abbrev Env := List (Option W)
abbrev Fn := List W → Mem → R W
abbrev Tab := List ((Nat × Nat) × Fn)
def Tab.get (t : Tab) (k : Nat × Nat) : Fn := match t.lookup k with
  | some f => f
  | none => fun _ _ => .bad

/-- no list, no text grows beyond it -/
def LIM : Nat := 100000
def alloc (o : Ob) (h : Mem) : R W := .ok (.ref h.length) (h ++ [o])
def newL (xs : List W) (h : Mem) : R W := if xs.length ≤ LIM then alloc (.lst xs) h else .bad
/-- a list that is read -/
def getL (h : Mem) : W → Option (List W)
  | .con xs => some xs
  | .ref a => match h[a]? with
    | some (.lst xs) => some xs
    | _ => none
  | _ => none
/-- what a sequence holds -/
def seqOf (h : Mem) : W → Option (List W)
  | .tup xs => some xs
  | x => getL h x

/-! ### data, compared -/
def toD (h : Mem) : Nat → W → Option PyData
  | _, .non => some .none
  | _, .bl b => some (.bool b)
  | _, .int i => some (.int i)
  | _, .str x => some (.str ⟨x.toArray⟩)
  | 0, .tup _ => none
  | n + 1, .tup xs => (xs.mapM (toD h n)).map .tuple
  | 0, .con _ => none
  | n + 1, .con xs => (xs.mapM (toD h n)).map .list
  | 0, .ref _ => none
  | n + 1, .ref a => match getL h (.ref a) with
    | some xs => (xs.mapM (toD h n)).map .list
    | none => none
def eqW (x y : W) (h : Mem) : R Bool := match toD h 30 x, toD h 30 y with
  | some d, some e => .ok (PyData.eqv d e) h
  | _, _ => .bad

/-- a key: an int or a text -/
def isKey : W → Bool
  | .int _ => true
  | .str _ => true
  | _ => false
def findK (kvs : List (W × W)) (k : W) : Option W := (kvs.find? fun kv => decide (kv.1 = k)).map (·.2)
/-- in its place, or behind all -/
def putKW (kvs : List (W × W)) (k v : W) : List (W × W) :=
  if (findK kvs k).isSome then kvs.map (fun kv => if kv.1 = k then (kv.1, v) else kv) else kvs ++ [(k, v)]
def dropKW (kvs : List (W × W)) (k : W) : List (W × W) := kvs.filter fun kv => decide (kv.1 ≠ k)
/-! ### operators -/
inductive Op where
  | add | sub | mul | fdiv | mod | pow | shl | shr | band | bor | bxor
  | eq | ne | lt | le | gt | ge | isin | notin | isn | notn
  deriving DecidableEq
def mulOk (i j : Int) : Bool := decide (i.natAbs < 18446744073709551616) || decide (j.natAbs < 18446744073709551616) || decide (i.natAbs.log2 + j.natAbs.log2 < 1000000)
/-- data that «in» looks through: no lists within -/
def flatW : W → Bool
  | .tup _ => false
  | .con _ => false
  | .ref _ => false
  | _ => true
def eqF : W → W → Bool
  | .non, .non => true
  | .bl a, .bl b => a == b
  | .bl a, .int j => (if a then 1 else 0) == j
  | .int i, .bl b => i == (if b then 1 else 0)
  | .int i, .int j => i == j
  | .str x, .str y => x == y
  | _, _ => false
/-- whether a text stands in another -/
def isIn (x y : List Nat) : Bool := (List.range (y.length + 1)).any fun i => decide ((y.drop i).take x.length = x)
def inW (x y : W) (h : Mem) : R Bool := match x, y with
  | .str a, .str b => .ok (isIn a b) h
  | x, .tup xs => if flatW x && xs.all flatW then .ok (xs.any fun z => eqF z x) h else .bad
  | x, y => match toD h 30 x, toD h 30 y with
    | some d, some (.list ds) => .ok (ds.any fun z => PyData.eqv z d) h
    | _, _ => match y with
      | .ref a => match h[a]? with
        | some (.dic kvs) => if isKey x then .ok (findK kvs x).isSome h else .bad
        | _ => .bad
      | _ => .bad
def bR (r : R Bool) : R W := r.bind fun b h => .ok (.bl b) h
def ordW (f : Int → Int → Bool) (x y : W) (h : Mem) : R Bool := match x, y with
  | .int i, .int j => .ok (f i j) h
  | _, _ => .bad
def isW (x y : W) (h : Mem) : R Bool := match x, y with
  | .non, .non => .ok true h
  | _, .non => .ok false h
  | .bl a, .bl b => .ok (decide (a = b)) h
  | _, _ => .bad
def op2 (o : Op) (x y : W) (h : Mem) : R W := match o with
  | .add => match x, y with
    | .int i, .int j => .ok (.int (i + j)) h
    | .str a, .str b => if a.length + b.length ≤ LIM then .ok (.str (a ++ b)) h else .bad
    | .tup a, .tup b => if a ≠ [] ∧ a.length + b.length ≤ LIM then .ok (.tup (a ++ b)) h else .bad
    | .ref a, .ref b => match h[a]?, h[b]? with
      | some (.lst xs), some (.lst ys) => newL (xs ++ ys) h
      | _, _ => .bad
    | _, _ => .bad
  | .sub => match x, y with
    | .int i, .int j => .ok (.int (i - j)) h
    | _, _ => .bad
  | .mul => match x, y with
    | .int i, .int j => if mulOk i j then .ok (.int (i * j)) h else .bad
    | .ref a, .int k => match h[a]? with
      | some (.lst xs) => if xs.length * k.toNat ≤ LIM ∧ -9223372036854775808 ≤ k ∧ k < 9223372036854775808 then alloc (.lst (List.replicate k.toNat xs).flatten) h else .bad
      | _ => .bad
    | _, _ => .bad
  | .fdiv => match x, y with
    | .int i, .int j => if 0 < j ∧ j.natAbs.log2 < 9000 then .ok (.int (i / j)) h else .bad
    | _, _ => .bad
  | .mod => match x, y with
    | .int i, .int j => if 0 < j then .ok (.int (i % j)) h else .bad
    | _, _ => .bad
  | .pow => match x, y with
    | .int i, .int j => if 0 ≤ j ∧ j ≤ 1000000 ∧ i.natAbs < 18446744073709551616 then .ok (.int (i ^ j.toNat)) h else .bad
    | _, _ => .bad
  | .shl => match x, y with
    | .int i, .int j => if 0 ≤ j ∧ (Builtin.Int.intBits i : Int) + j ≤ 134217728 then .ok (.int (i * 2 ^ j.toNat)) h else .bad
    | _, _ => .bad
  | .shr => match x, y with
    | .int i, .int j => if 0 ≤ j then .ok (.int (i / 2 ^ j.toNat)) h else .bad
    | _, _ => .bad
  | .band => match x, y with
    | .int i, .int j => .ok (.int (Builtin.bitAnd i j)) h
    | _, _ => .bad
  | .bor => match x, y with
    | .int i, .int j => .ok (.int (Builtin.bitOr i j)) h
    | _, _ => .bad
  | .bxor => match x, y with
    | .int i, .int j => .ok (.int (Builtin.bitXor i j)) h
    | _, _ => .bad
  | .eq => bR (eqW x y h)
  | .ne => bR ((eqW x y h).bind fun b h => .ok (!b) h)
  | .lt => bR (ordW (fun i j => decide (i < j)) x y h)
  | .le => bR (ordW (fun i j => decide (i ≤ j)) x y h)
  | .gt => bR (ordW (fun i j => decide (j < i)) x y h)
  | .ge => bR (ordW (fun i j => decide (j ≤ i)) x y h)
  | .isin => bR (inW x y h)
  | .notin => bR ((inW x y h).bind fun b h => .ok (!b) h)
  | .isn => bR (isW x y h)
  | .notn => bR ((isW x y h).bind fun b h => .ok (!b) h)
def truW (h : Mem) : W → Option Bool
  | .non => some false
  | .bl b => some b
  | .int i => some (i != 0)
  | .str x => some (!x.isEmpty)
  | .tup xs => some (!xs.isEmpty)
  | .con xs => some (!xs.isEmpty)
  | .ref a => match h[a]? with
    | some (.lst xs) => some (!xs.isEmpty)
    | some (.dic kvs) => some (!kvs.isEmpty)
    | _ => none

/-! ### places -/
def ixW (n : Nat) (i : Int) : Option Nat := L2.ixN n i
def atW (xs : List W) (i : Int) : Option W := (ixW xs.length i).bind fun j => xs[j]?
def cutW {α : Type} (xs : List α) (lo hi : Option Int) : List α := (xs.drop (HT.sIx xs.length 0 lo)).take (HT.sIx xs.length xs.length hi - HT.sIx xs.length 0 lo)
def index (x y : W) (h : Mem) : R W := match x, y with
  | .str z, .int i => match (ixW z.length i).bind fun j => z[j]? with
    | some c => .ok (.str [c]) h
    | none => .bad
  | .tup xs, .int i => match atW xs i with
    | some v => .ok v h
    | none => .bad
  | .con xs, .int i => match atW xs i with
    | some v => .ok v h
    | none => .bad
  | .ref a, k => match h[a]? with
    | some (.lst xs) => match k with
      | .int i => match atW xs i with
        | some v => .ok v h
        | none => .bad
      | _ => .bad
    | some (.dic kvs) => if isKey k then match findK kvs k with
        | some v => .ok v h
        | none => .bad
      else .bad
    | _ => .bad
  | _, _ => .bad
def slice (x : W) (lo hi : Option Int) (h : Mem) : R W := match x with
  | .str z => .ok (.str (cutW z lo hi)) h
  | .tup xs => .ok (.tup (cutW xs lo hi)) h
  | x => match getL h x with
    | some xs => alloc (.lst (cutW xs lo hi)) h
    | none => .bad
def putF (fs : List (Nat × W)) (f : Nat) (v : W) : List (Nat × W) := match fs with
  | [] => [(f, v)]
  | p :: r => if p.1 = f then (f, v) :: r else p :: putF r f v

/-- an attribute of an instance of one of the classes cl -/
def getF (cl : List Nat) (f : Nat) (x : W) (h : Mem) : R W := match x with
  | .ref a => match h[a]? with
    | some (.ins c fs) => if cl.contains c then (match fs.lookup f with
      | some v => .ok v h
      | none => .bad) else .bad
    | _ => .bad
  | _ => .bad
def storeF (cl : List Nat) (x : W) (f : Nat) (v : W) (h : Mem) : Option Mem := match x with
  | .ref a => match h[a]? with
    | some (.ins c fs) => if cl.contains c && decide (fs.length < 1000) then some (h.set a (.ins c (putF fs f v))) else none
    | _ => none
  | _ => none
/-- o.f += d -/
def addF (cl : List Nat) (x : W) (f : Nat) (d : Int) (h : Mem) : Option Mem := match x with
  | .ref a => match h[a]? with
    | some (.ins c fs) => if cl.contains c && decide (fs.length < 1000) then (match fs.lookup f with
      | some (.int u) => some (h.set a (.ins c (putF fs f (.int (u + d)))))
      | _ => none) else none
    | _ => none
  | _ => none
/-- an instance of the class c -/
def isI (c : Nat) (x : W) (h : Mem) : Bool := match x with
  | .ref a => match h[a]? with
    | some (.ins d _) => decide (d = c)
    | _ => false
  | _ => false
/-! ### built-in functions and methods -/
/-- a field of a caught exception -/
def getX (f : Nat) (x : W) (h : Mem) : R W := match x with
  | .ref a => match h[a]? with
    | some (.exc _ fs) => (match fs.lookup f with
      | some v => .ok v h
      | none => .bad)
    | _ => .bad
  | _ => .bad
/-- is a caught exception of one of these classes -/
def isX (ms : List Nat) (x : W) (h : Mem) : R W := match x with
  | .ref a => match h[a]? with
    | some (.exc c _) => .ok (.bl (ms.contains c)) h
    | _ => .bad
  | _ => .bad
inductive BI where
  | len | min | max | sum | all | any | abs | divmod | list | tuple | int | bool
  | isInt | isBool | isStr | isList | isTuple
  deriving DecidableEq
def intsOf : List W → Option (List Int)
  | [] => some []
  | .int i :: r => (intsOf r).map (i :: ·)
  | _ :: _ => none
def blsOf : List W → Option (List Bool)
  | [] => some []
  | .bl i :: r => (blsOf r).map (i :: ·)
  | _ :: _ => none
def maxL : Int → List Int → Int
  | m, [] => m
  | m, x :: r => maxL (if x > m then x else m) r
def minL : Int → List Int → Int
  | m, [] => m
  | m, x :: r => minL (if x < m then x else m) r
def kindOf (h : Mem) : W → Option Nat
  | .non => some 0
  | .bl _ => some 1
  | .int _ => some 2
  | .str _ => some 3
  | .tup _ => some 4
  | .con _ => some 5
  | .ref a => match h[a]? with
    | some (.lst _) => some 5
    | _ => none
def biS (f : BI) (vs : List W) (h : Mem) : R W := match f with
  | .len => match vs with
    | [.str z] => .ok (.int z.length) h
    | [.tup xs] => .ok (.int xs.length) h
    | [.con xs] => .ok (.int xs.length) h
    | [.ref a] => match h[a]? with
      | some (.lst xs) => .ok (.int xs.length) h
      | some (.dic kvs) => .ok (.int kvs.length) h
      | _ => .bad
    | _ => .bad
  | .min => match vs with
    | [.int i, .int j] => .ok (.int (if j < i then j else i)) h
    | [x] => match getL h x with
      | some xs => match intsOf xs with
        | some (x :: r) => .ok (.int (minL x r)) h
        | _ => .bad
      | none => .bad
    | _ => .bad
  | .max => match vs with
    | [.int i, .int j] => .ok (.int (if j > i then j else i)) h
    | [x] => match getL h x with
      | some xs => match intsOf xs with
        | some (x :: r) => .ok (.int (maxL x r)) h
        | _ => .bad
      | none => .bad
    | _ => .bad
  | .sum => match vs with
    | [x] => match getL h x with
      | some xs => match intsOf xs with
        | some ns => .ok (.int ns.sum) h
        | none => .bad
      | none => .bad
    | _ => .bad
  | .all => match vs with
    | [x] => match getL h x with
      | some xs => match blsOf xs with
        | some bs => .ok (.bl (bs.all id)) h
        | none => .bad
      | none => .bad
    | _ => .bad
  | .any => match vs with
    | [x] => match getL h x with
      | some xs => match blsOf xs with
        | some bs => .ok (.bl (bs.any id)) h
        | none => .bad
      | none => .bad
    | _ => .bad
  | .abs => match vs with
    | [.int i] => .ok (.int (if i < 0 then -i else i)) h
    | _ => .bad
  | .divmod => match vs with
    | [.int i, .int j] => if 0 < j ∧ j < 1073741824 then .ok (.tup [.int (i / j), .int (i % j)]) h else .bad
    | _ => .bad
  | .list => match vs with
    | [x] => match seqOf h x with
      | some xs => alloc (.lst xs) h
      | none => .bad
    | _ => .bad
  | .tuple => match vs with
    | [.tup xs] => .ok (.tup xs) h
    | [x] => match getL h x with
      | some xs => .ok (.tup xs) h
      | none => .bad
    | _ => .bad
  | .int => match vs with
    | [.int i] => .ok (.int i) h
    | [.bl b] => .ok (.int (if b then 1 else 0)) h
    | _ => .bad
  | .bool => match vs with
    | [.int i] => .ok (.bl (i != 0)) h
    | [.bl b] => .ok (.bl b) h
    | _ => .bad
  | .isInt => match vs with
    | [x] => match kindOf h x with
      | some k => .ok (.bl (k == 1 || k == 2)) h
      | none => .bad
    | _ => .bad
  | .isBool => match vs with
    | [x] => match kindOf h x with
      | some k => .ok (.bl (k == 1)) h
      | none => .bad
    | _ => .bad
  | .isStr => match vs with
    | [x] => match kindOf h x with
      | some k => .ok (.bl (k == 3)) h
      | none => .bad
    | _ => .bad
  | .isList => match vs with
    | [x] => match kindOf h x with
      | some k => .ok (.bl (k == 5)) h
      | none => .bad
    | _ => .bad
  | .isTuple => match vs with
    | [x] => match kindOf h x with
      | some k => .ok (.bl (k == 4)) h
      | none => .bad
    | _ => .bad
inductive BM where
  | append | pop | clear | insert | extend
  deriving DecidableEq
def bmS (f : BM) (x : W) (vs : List W) (h : Mem) : R W := match f with
  | .append => match x, vs with
    | .ref a, [y] => match h[a]? with
      | some (.lst xs) => if xs.length < LIM then .ok .non (h.set a (.lst (xs ++ [y]))) else .bad
      | _ => .bad
    | _, _ => .bad
  | .insert => match x, vs with
    | .ref a, [.int i, y] => match h[a]? with
      | some (.lst xs) => if xs.length < LIM ∧ 0 ≤ i ∧ i < 1000000000000 then .ok .non (h.set a (.lst (xs.take i.toNat ++ [y] ++ xs.drop i.toNat))) else .bad
      | _ => .bad
    | _, _ => .bad
  | .extend => match x, vs with
    | .ref a, [.ref b] => match h[a]?, h[b]? with
      | some (.lst xs), some (.lst ys) => if xs.length + ys.length ≤ LIM then .ok .non (h.set a (.lst (xs ++ ys))) else .bad
      | _, _ => .bad
    | _, _ => .bad
  | .pop => match x, vs with
    | .ref a, [] => match h[a]? with
      | some (.lst xs) => match xs[xs.length - 1]? with
        | some y => .ok y (h.set a (.lst xs.dropLast))
        | none => .bad
      | _ => .bad
    | _, _ => .bad
  | .clear => match x, vs with
    | .ref a, [] => match h[a]? with
      | some (.lst _) => .ok .non (h.set a (.lst []))
      | _ => .bad
    | _, _ => .bad

def isL (h : Mem) : W → Bool
  | .ref a => match h[a]? with
    | some (.lst _) => true
    | _ => false
  | _ => false
/-- whose method it is -/
def recv : BM → W → Mem → Bool
  | _, x, h => isL h x
/-! ### the intermediate form -/
/-- a target: a slot, a tuple of targets -/
inductive Tg where
  | nm (i : Nat) | tp (ts : List Tg)
mutual
inductive E where
  | var (i : Nat) | lit (w : W) | glo (x : List Nat) (w : W)
  | op (o : Op) (a b : E) | neg (a : E) | not (a : E) | and (a b : E) | or (a b : E)
  | ch (a : E) (c : Ch)
  | call (k : Nat) (es : Es)
  | fld (cl : List Nat) (o : E) (f : Nat) | meth (c m : Nat) (o : E) (es : Es) | make (c : Nat) (es : Es)
  | bi (f : BI) (es : Es) | bm (f : BM) (o : E) (es : Es)
  | idx (o i : E) | slc (o : E) (lo hi : Eo)
  | lst (es : Es) | tup (es : Es) | dic0
  | comp (t : Tg) (it : It) (own : List Nat) (c : Eo) (e : E)
  | xfl (o : E) (f : Nat) | xis (ms : List Nat) (o : E)
  | rev (o : E) | lof (it : It)
inductive Es where
  | nil | cons (e : E) (es : Es)
inductive Eo where
  | no | so (e : E)
/-- a chain of comparisons, behind its first operand -/
inductive Ch where
  | one (o : Op) (e : E) | more (o : Op) (e : E) (c : Ch)
/-- what a loop walks -/
inductive It where
  | of (e : E) | rng1 (a : E) | rng2 (a b : E) | rng3 (a b c : E) | enum (e : E) | zip (a b : E)
end
mutual
inductive S where
  | set (t : Tg) (e : E) | setI (o i e : E) | setF (cl : List Nat) (o : E) (f : Nat) (e : E) | incF (cl : List Nat) (o : E) (f : Nat) (d : Int) | aug (i : Nat) (o : Op) (e : E)
  | ret (e : E) | retN | expr (e : E) | pass | bad
  | ite (c : E) (a b : Ss) | for (t : Tg) (it : It) (b : Ss) | while (c : E) (b : Ss)
  | rai (c : Nat) (fl : List Nat) (es : Es) | try (b : Ss) (hs : Hs)
inductive Ss where
  | nil | cons (s : S) (ss : Ss)
/-- the clauses of a try: the classes, the slot of the name, the suite -/
inductive Hs where
  | nil | cons (c : Nat) (ms : List Nat) (i : Option Nat) (b : Ss) (r : Hs)
end

/-! ### targets -/
mutual
def asg : Tg → W → Env → Option Env
  | .nm i, v, env => some (env.set i (some v))
  | .tp ts, .tup xs, env => asgs ts xs env
  | .tp _, _, _ => none
def asgs : List Tg → List W → Env → Option Env
  | [], [], env => some env
  | t :: ts, x :: xs, env => match asg t x env with
    | some env' => asgs ts xs env'
    | none => none
  | _, _, _ => none
end
/-- = ..: a tuple of targets takes a list, too -/
def asgM (h : Mem) : Tg → W → Env → Option Env
  | .tp ts, .ref a, env => (match h[a]? with
    | some (.lst ws) => asgs ts ws env
    | _ => none)
  | t, v, env => asg t v env
theorem asgM_nm {h : Mem} {i : Nat} {v : W} {env : Env} : asgM h (.nm i) v env = some (env.set i (some v)) := by
  cases v <;> rfl
theorem asgM_tp {h : Mem} {ts : List Tg} {xs : List W} {env : Env} : asgM h (.tp ts) (.tup xs) env = asgs ts xs env := by
  cases xs <;> rfl
mutual
/-- the slots of a target -/
def Tg.slots : Tg → List Nat
  | .nm i => [i]
  | .tp ts => slotsL ts
def slotsL : List Tg → List Nat
  | [] => []
  | t :: ts => t.slots ++ slotsL ts
end
def wipe (env : Env) : List Nat → Env
  | [] => env
  | i :: r => wipe (env.set i none) r

/-- what a loop walks: the items, and the list (where it is one) that must stay -/
structure Walk where
  xs : List W
  at_ : Option Nat
  more : List (Nat × List W)
def upL (lo : Int) (n : Nat) : List W := (List.range n).map fun i => .int (lo + (i : Nat))
def rngL (lo st : Int) (n : Nat) : List W := (List.range n).map fun i => .int (lo + (i : Nat) * st)
def far (i : Int) : Bool := decide (i < -1000000000000) || decide (1000000000000 < i)
def rngOf (i j st : Int) : Option Walk :=
  if far i || far j then none
  else if st = 1 then some ⟨upL i (j - i).toNat, none, []⟩
  else if 1 < st ∧ st ≤ 1000000 then some ⟨rngL i st (if i < j then (j - i - 1) / st + 1 else 0).toNat, none, []⟩
  else none
def walkOf (h : Mem) : W → Option Walk
  | .tup xs => some ⟨xs, none, []⟩
  | .str x => some ⟨x.map fun c => .str [c], none, []⟩
  | .con xs => some ⟨xs, none, []⟩
  | .ref a => match getL h (.ref a) with
    | some xs => some ⟨xs, some a, []⟩
    | none => none
  | _ => none
/-- enumerate | zip: the items, in new pairs -/
def enumL : Nat → List W → List W
  | _, [] => []
  | i, x :: r => .tup [.int (i : Nat), x] :: enumL (i + 1) r
def zipL (xs ys : List W) : List W := (xs.zip ys).map fun p => .tup [p.1, p.2]
def srcOf (x : W) (xs : List W) : List (Nat × List W) := match x with
  | .ref a => [(a, xs)]
  | _ => []
def enumOf (h : Mem) (x : W) : Option Walk := match getL h x with
  | some xs => some ⟨enumL 0 xs, none, srcOf x xs⟩
  | none => none
def zipOf (h : Mem) (x y : W) : Option Walk := match x, y with
  | .tup xs, .tup ys => some ⟨zipL xs ys, none, []⟩
  | x, y => match getL h x, getL h y with
    | some xs, some ys => some ⟨zipL xs ys, none, srcOf x xs ++ srcOf y ys⟩
    | _, _ => none
/-- the walked list is as it was -/
def stays (h : Mem) (w : Walk) : Bool := (match w.at_ with
  | none => true
  | some a => decide (getL h (.ref a) = some w.xs)) && w.more.all fun p => decide (getL h (.ref p.1) = some p.2)

/-! ### the evaluator -/
inductive RS where
  | nx (env : Env) (h : Mem) | rt (w : W) (h : Mem) | ex (x : Ex) (env : Env) (h : Mem) | bad
/-- what follows a value within a statement -/
def R.st {α : Type} (r : R α) (env : Env) (f : α → Mem → RS) : RS := match r with
  | .ok a h => f a h
  | .ex x h => .ex x env h
  | .bad => .bad
@[simp] theorem R.st_ok {α : Type} (a : α) (h : Mem) (env : Env) (f : α → Mem → RS) : (R.ok a h).st env f = f a h := by
  cases h <;> rfl
@[simp] theorem R.st_ex {α : Type} (x : Ex) (h : Mem) (env : Env) (f : α → Mem → RS) : (R.ex x h : R α).st env f = .ex x env h := rfl
@[simp] theorem R.st_bad {α : Type} (env : Env) (f : α → Mem → RS) : (R.bad : R α).st env f = .bad := rfl
def RS.then (r : RS) (f : Env → Mem → RS) : RS := match r with
  | .nx env h => f env h
  | r => r
@[simp] theorem RS.then_nx (env : Env) (h : Mem) (f : Env → Mem → RS) : (RS.nx env h).then f = f env h := by
  cases h <;> rfl
@[simp] theorem RS.then_rt (w : W) (h : Mem) (f : Env → Mem → RS) : (RS.rt w h).then f = .rt w h := rfl
@[simp] theorem RS.then_ex (x : Ex) (env : Env) (h : Mem) (f : Env → Mem → RS) : (RS.ex x env h).then f = .ex x env h := rfl
@[simp] theorem RS.then_bad (f : Env → Mem → RS) : RS.bad.then f = .bad := rfl
/-- what is raised is caught, or not -/
def RS.catch (r : RS) (f : Ex → Env → Mem → RS) : RS := match r with
  | .ex x env h => f x env h
  | r => r
@[simp] theorem RS.catch_nx (env : Env) (h : Mem) (f : Ex → Env → Mem → RS) : (RS.nx env h).catch f = .nx env h := by
  cases h <;> rfl
@[simp] theorem RS.catch_rt (w : W) (h : Mem) (f : Ex → Env → Mem → RS) : (RS.rt w h).catch f = .rt w h := by
  cases h <;> rfl
@[simp] theorem RS.catch_ex (x : Ex) (env : Env) (h : Mem) (f : Ex → Env → Mem → RS) : (RS.ex x env h).catch f = f x env h := by
  cases h <;> rfl
@[simp] theorem RS.catch_bad (f : Ex → Env → Mem → RS) : RS.bad.catch f = .bad := rfl
def putE (env : Env) (i : Option Nat) (v : Option W) : Env := match i with
  | some i => env.set i v
  | none => env
@[simp] theorem putE_no (env : Env) (v : Option W) : putE env none v = env := rfl
@[simp] theorem putE_so (env : Env) (i : Nat) (v : Option W) : putE env (some i) v = env.set i v := rfl
/-- the clause's name goes; a suite raises nothing -/
def RS.gone (r : RS) (i : Option Nat) : RS := match r with
  | .nx env h => .nx (putE env i none) h
  | .rt w h => .rt w h
  | _ => .bad
@[simp] theorem RS.gone_nx (env : Env) (h : Mem) (i : Option Nat) : (RS.nx env h).gone i = .nx (putE env i none) h := by
  cases h <;> rfl
@[simp] theorem RS.gone_rt (w : W) (h : Mem) (i : Option Nat) : (RS.rt w h).gone i = .rt w h := by
  cases h <;> rfl
@[simp] theorem RS.gone_ex (x : Ex) (env : Env) (h : Mem) (i : Option Nat) : (RS.ex x env h).gone i = .bad := rfl
@[simp] theorem RS.gone_bad (i : Option Nat) : RS.bad.gone i = .bad := rfl
/-- an exception is made: the first value is its words -/
def raiX (c : Nat) (fl : List Nat) (vs : List W) (env : Env) (h : Mem) : RS := match vs with
  | _ :: us => if us.length = fl.length then .ex ⟨c, (fl.zip us).reverse⟩ env h else .bad
  | [] => .bad
def tru (w : W) (h : Mem) : R Bool := match truW h w with
  | some b => .ok b h
  | none => .bad
def isB (w : W) (h : Mem) (f : Bool → R W) : R W := match w with
  | .bl b => f b
  | _ => .bad
def asI : Option W → Option (Option Int)
  | none => some none
  | some (.int i) => some (some i)
  | some _ => none
def getVar (env : Env) (i : Nat) (h : Mem) : R W := match env[i]? with
  | some (some w) => .ok w h
  | _ => .bad
/-- the items of a comprehension, from the left -/
def compL (t : Tg) (own : List Nat) (f : Env → Mem → R (Option W)) (env : Env) (w : Walk) : List W → List W → Mem → R (List W)
  | [], acc, h => if stays h w then .ok acc h else .bad
  | x :: r, acc, h => if stays h w then (match asg t x (wipe env own) with
      | some env' => (f env' h).bind fun o h' => match o with
          | some y => if acc.length < LIM then compL t own f env w r (acc ++ [y]) h' else .bad
          | none => compL t own f env w r acc h'
      | none => .bad) else .bad
def oneOf (o : Option W) (h : Mem) (f : Option Int → R W) : R W := match asI o with
  | some i => f i
  | none => .bad
mutual
def ev (cs : Tab) : E → Env → Mem → R W
  | .var i, env, h => getVar env i h
  | .lit w, _, h => .ok w h
  | .glo _ w, _, h => .ok w h
  | .op o a b, env, h => (ev cs a env h).bind fun x h => (ev cs b env h).bind fun y h => op2 o x y h
  | .neg a, env, h => (ev cs a env h).bind fun x h => match x with
    | .int i => .ok (.int (-i)) h
    | _ => .bad
  | .not a, env, h => (ev cs a env h).bind fun x h => isB x h fun b => .ok (.bl (!b)) h
  | .and a b, env, h => (ev cs a env h).bind fun x h => isB x h fun c => if c then ev cs b env h else .ok (.bl false) h
  | .or a b, env, h => (ev cs a env h).bind fun x h => isB x h fun c => if c then .ok (.bl true) h else ev cs b env h
  | .ch a c, env, h => (ev cs a env h).bind fun x h => evc cs c x env h
  | .call k es, env, h => (evs cs es env h).bind fun vs h => cs.get (0, k) vs h
  | .fld cl o f, env, h => (ev cs o env h).bind fun x h => getF cl f x h
  | .meth c m o es, env, h => (ev cs o env h).bind fun x h => if isI c x h then (evs cs es env h).bind fun vs h => cs.get (c + 1, m) (x :: vs) h else .bad
  | .make c es, env, h => (evs cs es env h).bind fun vs h => (cs.get (c + 1, 0) (.ref h.length :: vs) (h ++ [.ins c []])).bind fun v h' => if v = .non then .ok (.ref h.length) h' else .bad
  | .bi f es, env, h => (evs cs es env h).bind fun vs h => biS f vs h
  | .bm f o es, env, h => (ev cs o env h).bind fun x h => if recv f x h then (evs cs es env h).bind fun vs h => bmS f x vs h else .bad
  | .idx o i, env, h => (ev cs o env h).bind fun x h => (ev cs i env h).bind fun y h => index x y h
  | .slc o lo hi, env, h => (ev cs o env h).bind fun x h => (evo cs lo env h).bind fun a h => oneOf a h fun i => (evo cs hi env h).bind fun b h => oneOf b h fun j => slice x i j h
  | .lst es, env, h => (evs cs es env h).bind fun vs h => newL vs h
  | .tup es, env, h => (evs cs es env h).bind fun vs h => if vs.length ≤ LIM then .ok (.tup vs) h else .bad
  | .dic0, _, h => alloc (.dic []) h
  | .comp t it own c e, env, h => (evi cs it env h).bind fun w h =>
      (compL t own (fun env h => (evo cs c env h).bind fun o h => match o with
        | none => (ev cs e env h).bind fun y h => .ok (some y) h
        | some v => (tru v h).bind fun b h => if b then (ev cs e env h).bind fun y h => .ok (some y) h else .ok none h) env w w.xs [] h).calm.bind fun ys h => alloc (.lst ys) h
  | .xfl o f, env, h => (ev cs o env h).bind fun x h => getX f x h
  | .xis ms o, env, h => (ev cs o env h).bind fun x h => isX ms x h
  | .rev o, env, h => (ev cs o env h).bind fun x h => match getL h x with
    | some xs => alloc (.lst xs.reverse) h
    | none => .bad
  | .lof it, env, h => (evi cs it env h).bind fun w h => newL w.xs h
def evs (cs : Tab) : Es → Env → Mem → R (List W)
  | .nil, _, h => .ok [] h
  | .cons e es, env, h => (ev cs e env h).bind fun x h => (evs cs es env h).bind fun xs h => .ok (x :: xs) h
def evo (cs : Tab) : Eo → Env → Mem → R (Option W)
  | .no, _, h => .ok none h
  | .so e, env, h => (ev cs e env h).bind fun x h => .ok (some x) h
def evc (cs : Tab) : Ch → W → Env → Mem → R W
  | .one o e, x, env, h => (ev cs e env h).bind fun y h => op2 o x y h
  | .more o e c, x, env, h => (ev cs e env h).bind fun y h => (op2 o x y h).bind fun z h => isB z h fun k => if k then evc cs c y env h else .ok (.bl false) h
def evi (cs : Tab) : It → Env → Mem → R Walk
  | .of e, env, h => (ev cs e env h).bind fun x h => match walkOf h x with
    | some w => .ok w h
    | none => .bad
  | .rng1 a, env, h => (ev cs a env h).bind fun x h => match x with
    | .int j => match rngOf 0 j 1 with
      | some w => .ok w h
      | none => .bad
    | _ => .bad
  | .rng2 a b, env, h => (ev cs a env h).bind fun x h => (ev cs b env h).bind fun y h => match x, y with
    | .int i, .int j => match rngOf i j 1 with
      | some w => .ok w h
      | none => .bad
    | _, _ => .bad
  | .rng3 a b c, env, h => (ev cs a env h).bind fun x h => (ev cs b env h).bind fun y h => (ev cs c env h).bind fun z h => match x, y, z with
    | .int i, .int j, .int k => match rngOf i j k with
      | some w => .ok w h
      | none => .bad
    | _, _, _ => .bad
  | .enum e, env, h => (ev cs e env h).bind fun x h => match enumOf h x with
    | some w => .ok w h
    | none => .bad
  | .zip a b, env, h => (ev cs a env h).bind fun x h => (ev cs b env h).bind fun y h => match zipOf h x y with
    | some w => .ok w h
    | none => .bad
end
def tst (cs : Tab) (e : E) (env : Env) (h : Mem) : R Bool := (ev cs e env h).bind tru
def forL (t : Tg) (f : Env → Mem → RS) (w : Walk) : List W → Env → Mem → RS
  | [], env, h => if stays h w then .nx env h else .bad
  | x :: r, env, h => if stays h w then (match asg t x env with
      | some env' => (f env' h).then fun env h => forL t f w r env h
      | none => .bad) else .bad
/-- so many turns of a while at most -/
def WL : Nat := 1000000
def whileN (c : Env → Mem → R Bool) (f : Env → Mem → RS) : Nat → Env → Mem → RS
  | 0, _, _ => .bad
  | n + 1, env, h => (c env h).st env fun b h => if b then (f env h).then fun env h => whileN c f n env h else .nx env h
def storeAt (x y v : W) (h : Mem) : Option Mem := match x with
  | .ref a => match h[a]? with
    | some (.lst xs) => match y with
      | .int i => match ixW xs.length i with
        | some j => some (h.set a (.lst (xs.set j v)))
        | none => none
      | _ => none
    | some (.dic kvs) => if isKey y && decide (kvs.length < LIM) then some (h.set a (.dic (putKW kvs y v))) else none
    | _ => none
  | _ => none
mutual
def xs (cs : Tab) : S → Env → Mem → RS
  | .set t e, env, h => (ev cs e env h).st env fun v h => match asgM h t v env with
    | some env' => .nx env' h
    | none => .bad
  | .setI o i e, env, h => (ev cs e env h).st env fun v h => (ev cs o env h).st env fun x h => (ev cs i env h).st env fun y h => match storeAt x y v h with
    | some h' => .nx env h'
    | none => .bad
  | .setF cl o f e, env, h => (ev cs e env h).st env fun v h => (ev cs o env h).st env fun x h => match storeF cl x f v h with
    | some h' => .nx env h'
    | none => .bad
  | .incF cl o f d, env, h => (ev cs o env h).st env fun x h => match addF cl x f d h with
    | some h' => .nx env h'
    | none => .bad
  | .aug i o e, env, h => (getVar env i h).st env fun x h => (ev cs e env h).st env fun y h => match x, y with
    | .int a, .int b => match o with
      | .add => .nx (env.set i (some (.int (a + b)))) h
      | .sub => .nx (env.set i (some (.int (a - b)))) h
      | _ => .bad
    | _, _ => .bad
  | .ret e, env, h => (ev cs e env h).st env fun v h => .rt v h
  | .retN, _, h => .rt .non h
  | .expr e, env, h => (ev cs e env h).st env fun _ h => .nx env h
  | .pass, env, h => .nx env h
  | .bad, _, _ => .bad
  | .ite c a b, env, h => (tst cs c env h).st env fun k h => if k then xss cs a env h else xss cs b env h
  | .for t it b, env, h => (evi cs it env h).st env fun w h => forL t (fun env h => xss cs b env h) w w.xs env h
  | .while c b, env, h => whileN (fun env h => tst cs c env h) (fun env h => xss cs b env h) WL env h
  | .rai c fl es, env, h => (evs cs es env h).st env fun vs h => raiX c fl vs env h
  | .try b hs, env, h => (xss cs b env h).catch fun x env h => xhs cs hs x env h
def xss (cs : Tab) : Ss → Env → Mem → RS
  | .nil, env, h => .nx env h
  | .cons s ss, env, h => (xs cs s env h).then fun env h => xss cs ss env h
def xhs (cs : Tab) : Hs → Ex → Env → Mem → RS
  | .nil, x, env, h => .ex x env h
  | .cons _ ms i b r, x, env, h => if ms.contains x.c then (xss cs b (putE env i (some (.ref h.length))) (h ++ [.exc x.c x.fs])).gone i else xhs cs r x env h
end
/-- a def: how many parameters, how many slots, its body -/
structure Df where
  np : Nat
  n : Nat
  body : Ss
def fnOf (r : RS) : R W := match r with
  | .nx _ h => .ok .non h
  | .rt w h => .ok w h
  | .ex x _ h => .ex x h
  | .bad => .bad
def run (d : Df) (cs : Tab) : Fn := fun vs h => if vs.length = d.np then fnOf (xss cs d.body (vs.map some ++ List.replicate (d.n - d.np) none) h) else .bad
end DM

/-! Exceptions that stand in the tracked heap once they are caught: rules. -/
namespace DM
open PySem L2 PySem.Spec PyProof.Rows
/-- at a: an exception, its class, its dict -/
def xob (a : Addr) (cls : Value) (d : Option Addr) : HO := .ext fun h => ∃ (oe : Obj) (vs : Array Value), h.get? a = some oe ∧ Zc cls d oe ∧ oe.data = .fields vs
theorem xob_ok {P : Program} {w : World} {H : Hp} {h : Heap} {a : Addr} {cls : Value} {d : Option Addr} {oe : Obj} {vs : Array Value} (he : h.get? a = some oe) (hz : Zc cls d oe) (hv : oe.data = .fields vs) : ObjOk P w H h a (xob a cls d) :=
  ⟨⟨oe, vs, he, hz, hv⟩, ⟨oe, he⟩, fun _ _ z k => z.elim fun o z => z.elim fun v z => ⟨o, v, k _ z.1, z.2⟩⟩
theorem xob_at {P : Program} {w : World} {H : Hp} {h : Heap} {a : Addr} {cls : Value} {d : Option Addr} (hok : HOk P w H h) (e : H a = some (xob a cls d)) : ∃ (oe : Obj) (vs : Array Value), h.get? a = some oe ∧ Zc cls d oe ∧ oe.data = .fields vs := by
  have x := hok a _ e
  exact x.1
/-- what the written part tells of a class of exceptions -/
structure XfK (K : PySem.W.Frag) (C : Addr) : Prop where
  ga : PySem.W.findIn K (.ref C) "__getattribute__" = some (some (.builtin "BaseException.__getattribute__"))
  gk : PySem.W.findIn K (.ref C) "__getattr__" = some none
  su : PySem.W.subIn K (.ref C) (.type "BaseException") = some true
  hd : PySem.W.hasDictIn K C = true
  cl : (PySem.W.clsIn K C).isSome = true
  ca : PySem.W.findIn K (.ref C) "__class__" = some (some (.builtin "object.__class__"))
  sg : PySem.W.specialIn K (.builtin "object.__class__") "__get__" = some (some (.builtin "getset_descriptor.__get__"))
  tk : PySem.W.takesIn K (.builtin "object.__class__") = some true
  mo : PySem.W.mroIn K C (.type "object") = some true
def xfkB (K : PySem.W.Frag) (C : Addr) : Bool :=
  (decide (PySem.W.findIn K (.ref C) "__getattribute__" = some (some (.builtin "BaseException.__getattribute__"))) && decide (PySem.W.findIn K (.ref C) "__getattr__" = some none) && decide (PySem.W.subIn K (.ref C) (.type "BaseException") = some true)) &&
  (PySem.W.hasDictIn K C && (PySem.W.clsIn K C).isSome && decide (PySem.W.findIn K (.ref C) "__class__" = some (some (.builtin "object.__class__")))) &&
  (decide (PySem.W.specialIn K (.builtin "object.__class__") "__get__" = some (some (.builtin "getset_descriptor.__get__"))) && decide (PySem.W.takesIn K (.builtin "object.__class__") = some true) && decide (PySem.W.mroIn K C (.type "object") = some true))
theorem xfkB_ok {K : PySem.W.Frag} {C : Addr} (h : xfkB K C = true) : XfK K C := by
  unfold xfkB at h
  simp only [Bool.and_eq_true, decide_eq_true_eq] at h
  obtain ⟨⟨⟨⟨a1, a2⟩, a3⟩, ⟨⟨a4, a5⟩, a6⟩⟩, ⟨⟨a7, a8⟩, a9⟩⟩ := h
  exact ⟨a1, a2, a3, a4, a5, a6, a7, a8, a9⟩
/-- the dict that belongs to it -/
def XdOk (H : Hp) (d : Option Addr) (gs : List (Str × V)) : Prop := (d = none ∧ gs = []) ∨ ∃ x, d = some x ∧ H x = some (.xd gs)
section
variable {X : Cx}
theorem xd_at {pins : List (Addr × Obj)} {σ : L2.St} {H : Hp} {s : Shared} {a C : Addr} {d : Option Addr} {gs : List (Str × V)} (I : Inv X pins σ H s) (e : H a = some (xob a (.ref C) d)) (q : XdOk H d gs) :
    ∃ (oe : Obj) (od : Option Obj), PySem.W.InstAt s.heap a oe C od := by
  obtain ⟨oe, vs, h1, h2, h3⟩ := xob_at I.hok e
  have no : PySem.W.notCls oe = true := by
    unfold PySem.W.notCls
    rw [h3] <;> rfl
  rcases q with ⟨rfl, _⟩ | ⟨x, rfl, ex⟩
  · refine ⟨oe, none, h1, h2.1, no, ?_⟩
    rw [h2.2]
    exact True.intro
  · have hx : ObjOk X.prog X.w H s.heap x (.xd gs) := I.hok x _ ex
    obtain ⟨mA, hns, _⟩ := hx
    obtain ⟨od, ho, _⟩ := lookIn_ns hns
    refine ⟨oe, some od, h1, h2.1, no, ?_⟩
    rw [h2.2]
    exact ho
/-- e.f, e caught -/
def tXa (K : PySem.W.Frag) (n : Str) (te : TE) : TE := fun σ H Q => te σ H fun x H1 => ∃ (a C dd : Addr) (gs : List (Str × V)) (v : V), x = .ref a ∧ XfK K C ∧ PySem.W.findIn K (.ref C) n = some none ∧ H1 a = some (xob a (.ref C) (some dd)) ∧ H1 dd = some (.xd gs) ∧ gs.lookup n = some v ∧ Q v H1
theorem pe_xa {e : Expr} {te : TE} {pos : Pos} {n : Str} (he : PE X e te) (hb : attributeBase e n X.env (eval e X.env) = eval e X.env) : PE X (.Attribute e n pos) (tXa X.K n te) := by
  constructor
  intro pins s σ H Q I h
  refine attr_of hb (thn (he.run pins s σ H _ I h) fun u s1 hh => ?_)
  obtain ⟨x, H1, I1, rx, a, C, dd, gs, v, ex, T, hno, ea, ed, l, q⟩ := hh
  subst ex
  obtain rfl : u = Value.ref a := rx
  obtain ⟨oe, vs, g1, g2, g3⟩ := xob_at I1.hok ea
  obtain ⟨mA, hns, hr⟩ : ObjOk X.prog X.w H1 s1.heap dd (.xd gs) := I1.hok dd _ ed
  obtain ⟨od, ho, hl⟩ := lookIn_ns hns
  obtain ⟨u, hu, ru⟩ := RelO.some_of (v := v) (o := mA n) (by
    rw [← l]
    exact hr n)
  have J : PySem.W.InstAt s1.heap a oe C (some od) := ⟨g1, g2.1, by
    unfold PySem.W.notCls
    rw [g3] <;> rfl, by
    rw [g2.2]
    exact ho⟩
  refine HandSPX.exc_get I1.kIn J T.ga T.gk T.su (PySem.W.findObj_own T.hd hno rfl (by rw [hl, hu])) (handed_of ru) ?_
  exact ⟨v, H1, I1.tok _, ru, q⟩
/-- isinstance(e, c), e caught -/
def rXi (K : PySem.W.Frag) : List V → Hp → VK → Prop := fun xs H Q => ∃ (a C : Addr) (d : Option Addr) (gs : List (Str × V)) (c : V) (cv : Value) (b : Bool), xs = [.ref a, c] ∧ (∀ u, RelV c u → u = cv) ∧ XfK K C ∧ H a = some (xob a (.ref C) d) ∧ XdOk H d gs ∧ PySem.W.kitOne K (.ref C) cv = some b ∧ Q (.bl b) H
theorem call_xi : CallR X (.builtin "isinstance") (rXi X.K) := by
  intro pins s σ H xs us Q I r h
  obtain ⟨a, C, d, gs, c, cv, b, rfl, hcv, T, ea, xd, e, q⟩ := h
  cases r with
  | cons rx rr =>
    cases rr with
    | cons rt rr =>
      cases rr
      cases rx
      have ec := hcv _ rt
      subst ec
      obtain ⟨oe, od, J⟩ := xd_at I ea xd
      exact PySem.W.kia_one (PySem.W.kitx_exc T.cl T.ga T.gk T.su T.ca T.sg T.tk T.mo) I.kIn J e (fun z => nomatch z) fun tk => ⟨.bl b, H, I.kept (t' := tk) fun _ _ z => z, rfl, q⟩
/-- the base's own __init__, called by name -/
theorem pe_binit {CB : Addr} {e : Expr} {es : List Expr} {ta : TA} {p1 p2 pos : Pos} {pl : Sem Bool} (hg : Gl X "RoadError") (hm : X.mg "RoadError" = some (.ref CB)) (rd : PySem.W.readsIn X.K CB (.type "type") = true)
    (fc : PySem.W.findCls X.K (.ref CB) (.type "type") "__init__" = some (.val (.builtin "ValueError.__init__"))) (sg : PySem.W.specialIn X.K (.ref CB) "__getattribute__" = some (some (.builtin "type.__getattribute__"))) (ha : PA X (e :: es) ta)
    (hc : eval (.Call (.Attribute (.Name "RoadError" p1) "__init__" p2) (e :: es) [] pos) X.env = (do
      let ov ← eval (.Name "RoadError" p1) X.env
      standAt p2.atName
      let (f, first) ← holding [ov] (getMethod ov "__init__" pl)
      callWith pos f first (backTo pos (starEach (e :: es) X.env)) (backToKw pos (keywordEach [] X.env))) := by rfl)
    (he : starEach (e :: es) X.env = (false, eval e X.env) :: starEach es X.env := by rfl) (hpl : (backTo pos (starEach es X.env)).any (·.1) = false := by rfl) :
    PE X (.Call (.Attribute (.Name "RoadError" p1) "__init__" p2) (e :: es) [] pos) (tVeI X.K ta) := by
  constructor
  intro pins s σ H Q I h
  refine PySem.W.methodCall_KW (ld_glob I hg hm ?_ (by decide)) hc
  refine PySem.W.method_cls I.kIn sg (PySem.W.cls_value I.kIn rd fc (by decide +kernel) ?_)
  show wpAny _ _ (callWith pos (Value.builtin "ValueError.__init__") [] (backTo pos (starEach (e :: es) X.env)) []) _ _ _
  refine PyProof.Rows.callWith_method1 (thn (ha.run pos pins _ σ H _ (I.tok _) h) fun us s1 hh => ?_) he hpl
  obtain ⟨vs, H1, I1, r1, a, C, ws, ev, hl, T, ea, q⟩ := hh
  subst ev
  cases r1 with
  | @cons _ u0 _ ur ra rw' =>
    obtain rfl : u0 = Value.ref a := ra
    refine oinit_ok T I1 ea ?_ fun s' J => ⟨.non, H1, J, rfl, q⟩
    rw [← Paired.length rw', sizeLine_eq]
    omega
end
end DM

/-! try: several clauses, with names or without; what is caught stands in the tracked heap from then on. -/
namespace DM
open PySem L2 PySem.Spec PyProof.Rows
/-- the slot of a clause's name -/
def putO (σ : L2.St) (i : Option Nat) (v : Option V) : L2.St := match i with
  | some i => σ.set i v
  | none => σ
/-- the ends of a suite: the name goes -/
def endsO (i : Option Nat) (D : Ends) : Ends := { nx := fun σ H => D.nx (putO σ i none) H, rt := D.rt, bk := fun σ H => D.bk (putO σ i none) H, ct := fun σ H => D.ct (putO σ i none) H }
/-- what the clauses wish of an exception of the body -/
def wX (K : PySem.W.Frag) (Wout : WX) (D : Ends) : List (Value × Option Nat × TS) → WX
  | [] => Wout
  | (c, i, ts) :: r => fun cls d σ H => ∃ b, PySem.W.exmOne K cls c = some b ∧ (b = true → ∀ a, H a = none → ts (endsO i D) (putO σ i (some (.ref a))) (upd H a (xob a cls d))) ∧ (b = false → wX K Wout D r cls d σ H)
/-- the context of a suite -/
abbrev suX (X : Cx) (a : Addr) (pn : List (Addr × Obj)) : Cx := { X with A := X.A.mark (some (.ref a)), calm := false, pn := pn, xe := fun _ _ => False }
inductive HdX (X : Cx) : List ExceptHandler → List (Value × Option Nat × TS) → Prop
  | nil : HdX X [] []
  | cons {x : Str} {c : Value} {n : Option Str} {i : Option Nat} {ts : TS} {b₀ : Stmt} {suite : List Stmt} {np pos' : Pos} {hds : List ExceptHandler} {l : List (Value × Option Nat × TS)} (hc : Names X x c)
      (hn : match n, i with
        | none, none => True
        | some n, some i => X.N[i]? = some n ∧ X.env.kindOf n = some .local
        | _, _ => False)
      (hsu : ∀ (a : Addr) (pn : List (Addr × Obj)), PSs (suX X a pn) (b₀ :: suite) ts) (r : HdX X hds l) : HdX X (.ExceptHandler (some (.Name x np)) n (b₀ :: suite) pos' :: hds) ((c, i, ts) :: l)
theorem su_ok {X : Cx} (ok : X.Ok) (a : Addr) (pn : List (Addr × Obj)) : (suX X a pn).Ok :=
  ⟨ok.mod, ok.kind, ok.glob, ok.blt, ok.above, ok.inj, ok.has, ok.cab, (fun z => absurd (show false = true from z) Bool.false_ne_true), ok.frames, ok.stk, ok.exf, ok.bs, ok.bsz, ok.noex, ok.exfs, ok.funs, ok.frf⟩
section
variable {X : Cx} {pins : List (Addr × Obj)} {σ : L2.St} {H : Hp} {s sI : Shared}
theorem Inv.su (I : Inv X pins σ H s) (a : Addr) : Inv (suX X a (X.pn ++ pins)) [] σ H s :=
  ⟨su_ok I.ok a _, I.os, I.bare, I.base, I.loc, I.cell, I.free, I.freeC, fun p hp => I.pin p (by rw [List.append_nil] at hp; exact hp), I.hok, I.len⟩
theorem Inv.unsu {a : Addr} {pn' : List (Addr × Obj)} (I : Inv (suX X a (X.pn ++ pins)) pn' σ H s) (ok : X.Ok) : Inv X pins σ H s :=
  ⟨ok, I.os, I.bare, I.base, I.loc, I.cell, I.free, I.freeC, fun p hp => I.pin p (List.mem_append_left _ hp), I.hok, I.len⟩
/-- what has landed is tracked -/
theorem Inv.caught {B h : Heap} {a : Addr} {oe : Obj} {vs : Array Value} {cls : Value} {d : Option Addr} {g : Array GenState} {dr : Drawn} {t : Nat} (I : Inv X pins σ H sI) (nb : ∀ b o, sI.heap.get? b = some o → b ∉ frs X.stack → B.get? b = some o) (st : B.StaysIn h)
    (up : sI.heap.UpToSlots h) (ba : B.get? a = none) (ag : AllBare g) (na : H a = none) (nfr : a ∉ frs X.stack) (ha : h.get? a = some oe) (hz : Zc cls d oe) (hd : oe.data = .fields vs) :
    Inv X pins σ (upd H a (xob a cls d)) ⟨h, g, dr, t, sI.os⟩ := by
  obtain ⟨G, g1, g2⟩ := restrict h fun b => decide (b ≠ a)
  have ga : G.get? a = none := g2 a (decide_eq_false fun z => z rfl)
  have gk : ∀ b, b ≠ a → G.get? b = h.get? b := fun b hb => g1 b (decide_eq_true hb)
  have sa : sI.heap.get? a = none := by
    cases e : sI.heap.get? a with
    | none => rfl
    | some o =>
      have z := nb a o e nfr
      rw [ba] at z
      cases z
  have J : Inv X pins σ H ⟨G, g, dr, t, sI.os⟩ := I.landed (s' := ⟨G, g, dr, t, sI.os⟩) nb (fun b o e => by
      have ne : b ≠ a := fun z => by
        rw [z, ba] at e
        cases e
      rw [gk b ne]
      exact st b o e) (fun b o e hf => by
      have ne : b ≠ a := fun z => by
        rw [z, sa] at e
        cases e
      obtain ⟨sl, q⟩ := up b o e hf
      exact ⟨sl, (gk b ne).trans q⟩) rfl ag
  exact J.laidN (h' := h) (t' := t) (fun b u e => by
    by_cases ne : b = a
    · have e' : G.get? b = some u := e
      rw [ne, ga] at e'
      cases e'
    · exact (gk b ne).symm.trans e) ga na (xob_ok ha hz hd)
end
section
variable {X : Cx} {body : List Stmt} {h₀ : ExceptHandler} {hds : List ExceptHandler} {l : List (Value × Option Nat × TS)} {pos : Pos} {tb : WX → TS} {Wout : WX}
theorem ps_tryX (hs : X.stack = X.env :: X.outer) (hf : X.env.frame = some X.env.locals) (hN : X.N.Nodup) (tk : Takes X Wout)
    (hb : ∀ (W : WX) (pn : List (Addr × Obj)) (xe : Value → Shared → Prop), Takes (X.tr pn xe) W → PassesOwn (model X.prog X.w) X.A X.env xe → PSs (X.tr pn xe) body (tb W))
    (hh : HdX X (h₀ :: hds) l) : PS X (.Try body (h₀ :: hds) [] [] pos) (fun D σ H => tb (wX X.K Wout D l) D σ H) := by
  constructor
  intro pins s σ H D I h
  have ok := I.ok
  have hfr : X.A.frames = some (X.env :: X.outer) := by rw [ok.frames, hs]
  refine wpAny_Try_except ?_
  refine wpAny_mono ((hb (wX X.K Wout D l) (X.pn ++ pins) (fun e s₁ => wpAny (model X.prog X.w) X.A (noteFrame e X.env) (fun _ s₂ => wpAny (model X.prog X.w) X.A (setFlight e none)
    (fun _ s₃ => wpAny (model X.prog X.w) X.A (handleBy e X.env (h₀ :: hds)) (SP X pins D) X.xe s₃) X.xe s₂) X.xe s₁) (fun u s' xx => ?_) PassesOwn.looking).run [] s σ H D (I.toTry _) h) (fun f s1 hsp => ?_) fun e s1 he => he
  · -- caught
    obtain ⟨a, B, sI, pins', σ', H', cls, d, rfl, J', nb, up, sky, na, os, ag, w⟩ := xx
    have J : Inv X pins σ' H' sI := J'.ofTry ok
    have sky' : Sky B (X.env :: X.outer) a (Zc cls d) X.env.locals s'.heap := by rw [← hs]; exact sky
    obtain ⟨h0, g0, d0, t0, os0⟩ := s'
    have os : os0 = sI.os := os
    subst os
    show wpAny (model X.prog X.w) X.A (noteFrame (.ref a) X.env) _ _ _
    refine Sky.land Zc.steady hfr hf sky' fun h3 fl3 up3 => ?_
    obtain ⟨oe3, vs3, he3, hz3, hd3⟩ := fl3.there
    have nfr : a ∉ frs (X.env :: X.outer) := fun hm => by
      obtain ⟨_, o', e', hnf⟩ := fl3.2.2.1.mem hm
      rw [he3] at e'
      cases e'
      exact hnf _ hd3
    have nfr' : a ∉ frs X.stack := by
      rw [hs]
      exact nfr
    have S3 := Inv.su (Inv.caught (dr := d0) (t := t0) J nb fl3.1 (up.trans up3) fl3.2.1 ag na nfr' he3 hz3 hd3) a
    have go : ∀ {hds' : List ExceptHandler} {l' : List (Value × Option Nat × TS)}, HdX X hds' l' → wX X.K Wout D l' cls d σ' H' → wpAny (model X.prog X.w) X.A (handleBy (.ref a) X.env hds') (SP X pins D) X.xe ⟨h3, g0, d0, t0, sI.os⟩ := by
      intro hds' l' hk
      induction hk with
      | nil =>
        intro w
        refine wpAny_handleBy_nil ?_
        obtain ⟨k1, k2, k3, oe, vs, T, oT, ts', he, hz, hd, h1, hr⟩ := id fl3
        unfold PySem.passOn
        refine wpAny_bind (wpAny_field he hd h1 ?_)
        rw [if_neg (show ¬ ((Value.ref T == Value.none) = true) from by simp)]
        have fin : wpAny (model X.prog X.w) X.A (setFlight (.ref a) X.env.frame) (fun _ s4 => wpAny (model X.prog X.w) X.A (throw (.ref a) : Sem Flow) (SP X pins D) X.xe s4) X.xe ⟨h3, g0, d0, t0, sI.os⟩ := by
          rw [hf]
          refine HandSPX.setFlight_upZ fl3 fun h4 hh4 up4 => wpAny_throw (tk _ _ ?_)
          exact ⟨a, B, sI, pins, σ', H', cls, d, rfl, J, nb, (up.trans up3).trans up4, .inr (.inr (by rw [hs]; exact hh4)), na, rfl, ag, w⟩
        first
          | exact wpAny_bind (wpAny_pure (wpAny_bind fin))
          | exact wpAny_bind fin
      | @cons x c n i ts b₀ suite np pos' hds2 l2 hc hn hsu r ih =>
        intro w
        obtain ⟨b, hb1, hyes, hno⟩ := w
        refine wpAny_handleBy_cons (codeAny_handlers_test ?_) (by intro q; cases q)
        have LT : PySem.W.Looks (model X.prog X.w) h3 (typeOf (.ref a)) cls := fun A Q E s k q => wpAny_typeOf_ref (k _ _ he3) (by rw [hz3.1]; exact q)
        have LM := PySem.W.exm_one (M := model X.prog X.w) (S3.kIn) LT hb1
        have test : ∀ {Q : Value → Shared → Prop} {E : Value → Shared → Prop}, Q c ⟨h3, g0, d0, t0, sI.os⟩ → wpAny (model X.prog X.w) (X.A.mark (some (.ref a))) (eval (.Name x np) X.env) Q E ⟨h3, g0, d0, t0, sI.os⟩ := fun {Q E} q => by
          obtain ⟨hg, hdbg, hm | ⟨hm, hv, hnn⟩⟩ := hc
          · exact ld_glob (X := suX X a (X.pn ++ pins)) S3 hg hm q hdbg
          · exact ld_blt (X := suX X a (X.pn ++ pins)) S3 hg hm hv q hnn hdbg
        refine test (LM.here ?_)
        cases b with
        | false =>
          show wpAny _ X.A (handleBy (.ref a) X.env hds2) _ _ _
          exact ih (hno rfl)
        | true =>
          cases n with
          | none =>
            cases i with
            | some i => exact hn.elim
            | none =>
              refine codeAny_handlers_suite ?_
              refine HandSPX.lands_againZ fl3 fun h4 fl4 up4 => ?_
              obtain ⟨oe4, vs4, he4, hz4, hd4⟩ := fl4.there
              have S4 := Inv.su (Inv.caught (dr := d0) (t := t0) J nb fl4.1 ((up.trans up3).trans up4) fl4.2.1 ag na nfr' he4 hz4 hd4) a
              refine wpAny_mono ((hsu a (X.pn ++ pins)).run [] _ σ' _ (endsO none D) S4 (hyes rfl a na)) (fun f s6 hsp => ?_) (fun _ _ z => False.elim z)
              cases f with
              | next =>
                obtain ⟨σ6, H6, S6, q6⟩ := hsp
                exact ⟨_, _, Inv.unsu S6 ok, q6⟩
              | brk =>
                obtain ⟨σ6, H6, S6, q6⟩ := hsp
                exact ⟨_, _, Inv.unsu S6 ok, q6⟩
              | cont =>
                obtain ⟨σ6, H6, S6, q6⟩ := hsp
                exact ⟨_, _, Inv.unsu S6 ok, q6⟩
              | ret u =>
                obtain ⟨v6, σ6, H6, S6, r6, q6⟩ := hsp
                exact ⟨_, _, _, Inv.unsu S6 ok, r6, q6⟩
          | some n =>
            cases i with
            | none => exact hn.elim
            | some i =>
              obtain ⟨hi, hln⟩ := hn
              have hloc : Loc X.env.scope n := .inl hln
              refine codeAny_handlers_suite_as ?_
              refine HandSPX.lands_againZ fl3 fun h4 fl4 up4 => ?_
              obtain ⟨oe4, vs4, he4, hz4, hd4⟩ := fl4.there
              have S4 := Inv.su (Inv.caught (dr := d0) (t := t0) J nb fl4.1 ((up.trans up3).trans up4) fl4.2.1 ag na nfr' he4 hz4 hd4) a
              refine store_ok (X := suX X a (X.pn ++ pins)) (v := .ref a) S4 hN hi hloc rfl (fun s5 S5 => ?_) (.inr hln)
              refine wpAny_mono ((hsu a (X.pn ++ pins)).run [] s5 _ _ (endsO (some i) D) S5 (hyes rfl a na)) (fun f s6 hsp => ?_) (fun _ _ z => False.elim z)
              have fin : ∀ {σ6 : L2.St} {H6 : Hp} {Q : Shared → Prop}, Inv (suX X a (X.pn ++ pins)) [] σ6 H6 s6 → (∀ s7, Inv X pins (σ6.set i none) H6 s7 → Q s7) →
                  wpAny (model X.prog X.w) X.A (do bindName X.env n .none; unbindBehindTheSuite X.env n pos') (fun _ s7 => Q s7) X.xe s6 := fun {σ6 H6 Q} S6 hq => gone_ok (Inv.unsu S6 ok) hN hi hln hq
              cases f with
              | next =>
                obtain ⟨σ6, H6, S6, q6⟩ := hsp
                exact fin S6 fun s7 J7 => ⟨_, _, J7, q6⟩
              | brk =>
                obtain ⟨σ6, H6, S6, q6⟩ := hsp
                exact fin S6 fun s7 J7 => ⟨_, _, J7, q6⟩
              | cont =>
                obtain ⟨σ6, H6, S6, q6⟩ := hsp
                exact fin S6 fun s7 J7 => ⟨_, _, J7, q6⟩
              | ret u =>
                obtain ⟨v6, σ6, H6, S6, r6, q6⟩ := hsp
                exact fin S6 fun s7 J7 => ⟨_, _, _, J7, r6, q6⟩
    exact go hh w
  · cases f with
    | next =>
      obtain ⟨σ', H', J', q⟩ := hsp
      exact wpAny_execs_nil ⟨σ', H', J'.ofTry ok, q⟩
    | brk =>
      obtain ⟨σ', H', J', q⟩ := hsp
      exact ⟨σ', H', J'.ofTry ok, q⟩
    | cont =>
      obtain ⟨σ', H', J', q⟩ := hsp
      exact ⟨σ', H', J'.ofTry ok, q⟩
    | ret u =>
      obtain ⟨v, σ', H', J', r, q⟩ := hsp
      exact ⟨v, σ', H', J'.ofTry ok, r, q⟩
end
end DM

/-! The deep machine: how its values and memory stand for those of the hand layer. -/
namespace DM
open PySem L2 PySem.Spec PyProof.Rows

/-- a class of exceptions: its name, the fields that its __init__ stores (none: no such def), the classes that are of it -/
structure XD where
  name : Str
  ini : Option (List Nat)
  sub : List Nat
  deriving DecidableEq
/-- the names' meaning: the written part, the classes' addresses, the fields' names, the exceptions' classes -/
structure NT where
  K : PySem.W.Frag
  cl : Nat → Addr
  fld : List Str
  fnd : fld.Nodup
  xc : List (Nat × XD)
def okS (x : List Nat) : Prop := x.length ≤ LIM ∧ ∀ c ∈ x, c < 128
/-- a list that never changes -/
def SqC (K : PySem.W.Frag) (H : Hp) (a : Addr) (xs : List V) : Prop :=
  (∃ o, H a = some (.frz o (.lst xs))) ∨ SqL K (fun _ => none) a xs
theorem SqC.l {K : PySem.W.Frag} {H : Hp} {a : Addr} {xs : List V} (h : SqC K H a xs) : SqL K H a xs := by
  rcases h with h | h
  · exact .inl (.inr h)
  · rcases h with (h | ⟨_, h⟩) | h
    · cases h
    · cases h
    · exact .inr h
mutual
inductive RW (K : PySem.W.Frag) (ρ : Nat → Addr) (N : Nat) (H : Hp) : W → V → Prop
  | non : RW K ρ N H .non .non
  | bl (b : Bool) : RW K ρ N H (.bl b) (.bl b)
  | int (i : Int) : RW K ρ N H (.int i) (.int i)
  | str (x : List Nat) (h : okS x) : RW K ρ N H (.str x) (.str ⟨x.toArray⟩)
  | tup {ws : List W} {a : Addr} {vs : List V} (h : SqT K H a vs) (r : RWs K ρ N H ws vs) : RW K ρ N H (.tup ws) (.ref a)
  | con {ws : List W} {a : Addr} {vs : List V} (h : SqC K H a vs) (r : RWs K ρ N H ws vs) : RW K ρ N H (.con ws) (.ref a)
  | ref {n : Nat} (h : n < N) : RW K ρ N H (.ref n) (.ref (ρ n))
inductive RWs (K : PySem.W.Frag) (ρ : Nat → Addr) (N : Nat) (H : Hp) : List W → List V → Prop
  | nil : RWs K ρ N H [] []
  | cons {w : W} {ws : List W} {v : V} {vs : List V} (h : RW K ρ N H w v) (r : RWs K ρ N H ws vs) : RWs K ρ N H (w :: ws) (v :: vs)
end
inductive RO (T : NT) (ρ : Nat → Addr) (N : Nat) (H : Hp) (a : Addr) : Ob → Prop
  | lst {ws : List W} {vs : List V} (h : H a = some (.lst vs)) (r : RWs T.K ρ N H ws vs) : RO T ρ N H a (.lst ws)
  | dic {kvs : List (W × W)} {zs : List (Key × V)} (h : H a = some (.dK zs)) (r : Paired (fun (p : W × W) (q : Key × V) => RW T.K ρ N H p.1 (kV q.1) ∧ RW T.K ρ N H p.2 q.2) kvs zs) : RO T ρ N H a (.dic kvs)
  | ins {c : Nat} {fs : List (Nat × W)} {dx : Addr} {gs : List (Str × V)} (h : H a = some (.ins (T.cl c) dx gs)) (r : Paired (fun (p : Nat × W) (q : Str × V) => T.fld[p.1]? = some q.1 ∧ RW T.K ρ N H p.2 q.2) fs gs) : RO T ρ N H a (.ins c fs)
  | exc {c : Nat} {fs : List (Nat × W)} {d : Option Addr} {gs : List (Str × V)} (v : (T.xc.lookup c).isSome = true) (h : H a = some (xob a (.ref (T.cl c)) d)) (q : XdOk H d gs) (r : Paired (fun (p : Nat × W) (q : Str × V) => T.fld[p.1]? = some q.1 ∧ RW T.K ρ N H p.2 q.2) fs gs) : RO T ρ N H a (.exc c fs)
structure Sim (T : NT) (ρ : Nat → Addr) (h : Mem) (H : Hp) : Prop where
  inj : ∀ i j, i < h.length → j < h.length → ρ i = ρ j → i = j
  obj : ∀ i o, h[i]? = some o → RO T ρ h.length H (ρ i) o
/-- from one state to a later one -/
structure Ext (K : PySem.W.Frag) (ρ : Nat → Addr) (h : Mem) (H : Hp) (ρ' : Nat → Addr) (h' : Mem) (H' : Hp) : Prop where
  len : h.length ≤ h'.length
  agr : ∀ i, i < h.length → ρ' i = ρ i
  new : ∀ i, h.length ≤ i → i < h'.length → H (ρ' i) = none
  tup : ∀ a xs, SqT K H a xs → SqT K H' a xs
  con : ∀ a xs, SqC K H a xs → SqC K H' a xs
  kee : ∀ a, H a ≠ none → H' a ≠ none
  frm : ∀ a o, H a = some o → (∀ i, i < h.length → ρ i ≠ a) → H' a = some o
  xds : ∀ a gs, H a = some (.xd gs) → H' a = some (.xd gs)
theorem Ext.refl {K : PySem.W.Frag} (ρ : Nat → Addr) (h : Mem) (H : Hp) : Ext K ρ h H ρ h H :=
  ⟨Nat.le_refl _, fun _ _ => rfl, fun _ a b => absurd a (Nat.not_le_of_lt b), fun _ _ z => z, fun _ _ z => z, fun _ z => z, fun _ _ z _ => z, fun _ _ z => z⟩
theorem Ext.trans {K : PySem.W.Frag} {ρ ρ1 ρ2 : Nat → Addr} {h h1 h2 : Mem} {H H1 H2 : Hp} (a : Ext K ρ h H ρ1 h1 H1) (b : Ext K ρ1 h1 H1 ρ2 h2 H2) : Ext K ρ h H ρ2 h2 H2 :=
  ⟨Nat.le_trans a.len b.len, fun i hi => (b.agr i (Nat.lt_of_lt_of_le hi a.len)).trans (a.agr i hi), fun i l1 l2 => by
      by_cases hi : i < h1.length
      · rw [b.agr i hi]
        exact a.new i l1 hi
      · have q := b.new i (Nat.le_of_not_lt hi) l2
        cases e : H (ρ2 i) with
        | none => rfl
        | some o => exact absurd q (a.kee _ (by rw [e]; simp)),
    fun x xs z => b.tup x xs (a.tup x xs z), fun x xs z => b.con x xs (a.con x xs z), fun x z => b.kee x (a.kee x z), fun x o hx hn => b.frm x o (a.frm x o hx hn) fun i hi => by
      by_cases l : i < h.length
      · rw [a.agr i l]
        exact hn i l
      · intro e
        have q := a.new i (Nat.le_of_not_lt l) hi
        rw [e, hx] at q
        exact (nomatch q),
    fun x gs z => b.xds x gs (a.xds x gs z)⟩
mutual
theorem RW.mono {K : PySem.W.Frag} {ρ ρ' : Nat → Addr} {h h' : Mem} {H H' : Hp} (e : Ext K ρ h H ρ' h' H') : ∀ {w : W} {v : V}, RW K ρ h.length H w v → RW K ρ' h'.length H' w v
  | _, _, .non => .non
  | _, _, .bl b => .bl b
  | _, _, .int i => .int i
  | _, _, .str x o => .str x o
  | _, _, .tup s r => .tup (e.tup _ _ s) (RWs.mono e r)
  | _, _, .con s r => .con (e.con _ _ s) (RWs.mono e r)
  | _, _, .ref (n := n) l => by
    rw [← e.agr n l]
    exact .ref (Nat.lt_of_lt_of_le l e.len)
theorem RWs.mono {K : PySem.W.Frag} {ρ ρ' : Nat → Addr} {h h' : Mem} {H H' : Hp} (e : Ext K ρ h H ρ' h' H') : ∀ {w : List W} {v : List V}, RWs K ρ h.length H w v → RWs K ρ' h'.length H' w v
  | _, _, .nil => .nil
  | _, _, .cons a r => .cons (RW.mono e a) (RWs.mono e r)
end
theorem RWs.length {K : PySem.W.Frag} {ρ : Nat → Addr} {N : Nat} {H : Hp} : ∀ {w : List W} {v : List V}, RWs K ρ N H w v → v.length = w.length
  | _, _, .nil => rfl
  | _, _, .cons _ r => by
    show _ + 1 = _ + 1
    rw [RWs.length r]
theorem RWs.at {K : PySem.W.Frag} {ρ : Nat → Addr} {N : Nat} {H : Hp} : ∀ {w : List W} {v : List V}, RWs K ρ N H w v → ∀ {i : Nat} {x : W}, w[i]? = some x → ∃ y, v[i]? = some y ∧ RW K ρ N H x y
  | _, _, .nil, _, _, e => by
    simp at e
  | _, _, .cons a r, 0, x, e => by
    simp at e
    subst e
    exact ⟨_, rfl, a⟩
  | _, _, .cons a r, i + 1, x, e => by
    simp at e
    obtain ⟨y, q1, q2⟩ := RWs.at r e
    exact ⟨y, by simpa using q1, q2⟩
theorem RWs.app {K : PySem.W.Frag} {ρ : Nat → Addr} {N : Nat} {H : Hp} : ∀ {w u : List W} {v z : List V}, RWs K ρ N H w v → RWs K ρ N H u z → RWs K ρ N H (w ++ u) (v ++ z)
  | _, _, _, _, .nil, s => s
  | _, _, _, _, .cons a r, s => .cons a (RWs.app r s)
theorem RWs.take {K : PySem.W.Frag} {ρ : Nat → Addr} {N : Nat} {H : Hp} : ∀ {w : List W} {v : List V} (n : Nat), RWs K ρ N H w v → RWs K ρ N H (w.take n) (v.take n)
  | _, _, 0, _ => .nil
  | _, _, _ + 1, .nil => .nil
  | _, _, n + 1, .cons a r => .cons a (RWs.take n r)
theorem RWs.drop {K : PySem.W.Frag} {ρ : Nat → Addr} {N : Nat} {H : Hp} : ∀ {w : List W} {v : List V} (n : Nat), RWs K ρ N H w v → RWs K ρ N H (w.drop n) (v.drop n)
  | _, _, 0, r => r
  | _, _, _ + 1, .nil => .nil
  | _, _, n + 1, .cons _ r => RWs.drop n r
theorem RWs.set {K : PySem.W.Frag} {ρ : Nat → Addr} {N : Nat} {H : Hp} {x : W} {y : V} (s : RW K ρ N H x y) : ∀ {w : List W} {v : List V} (n : Nat), RWs K ρ N H w v → RWs K ρ N H (w.set n x) (v.set n y)
  | _, _, _, .nil => .nil
  | _, _, 0, .cons _ r => .cons s r
  | _, _, n + 1, .cons a r => .cons a (RWs.set s n r)
theorem RWs.dropLast {K : PySem.W.Frag} {ρ : Nat → Addr} {N : Nat} {H : Hp} {w : List W} {v : List V} (r : RWs K ρ N H w v) : RWs K ρ N H w.dropLast v.dropLast := by
  rw [List.dropLast_eq_take, List.dropLast_eq_take, r.length]
  exact r.take _
theorem RWs.rep {K : PySem.W.Frag} {ρ : Nat → Addr} {N : Nat} {H : Hp} {w : List W} {v : List V} (r : RWs K ρ N H w v) : ∀ k : Nat, RWs K ρ N H (List.replicate k w).flatten (List.replicate k v).flatten
  | 0 => .nil
  | k + 1 => by
    repeat rw [List.replicate_succ]
    repeat rw [List.flatten_cons]
    exact r.app (RWs.rep r k)
theorem RWs.ints {K : PySem.W.Frag} {ρ : Nat → Addr} {N : Nat} {H : Hp} : ∀ ns : List Int, RWs K ρ N H (ns.map W.int) (ns.map V.int)
  | [] => .nil
  | n :: ns => .cons (.int n) (RWs.ints ns)
theorem RWs.intsOf {K : PySem.W.Frag} {ρ : Nat → Addr} {N : Nat} {H : Hp} : ∀ {w : List W} {v : List V} {ns : List Int}, RWs K ρ N H w v → DM.intsOf w = some ns → v = ns.map V.int
  | _, _, ns, .nil, e => by
    cases e
    rfl
  | _, _, ns, .cons a r, e => by
    cases a with
    | int i =>
      unfold DM.intsOf at e
      obtain ⟨ms, e1, e2⟩ := Option.map_eq_some_iff.mp e
      rw [← e2, RWs.intsOf r e1]
      rfl
    | _ => cases e
theorem RWs.blsOf {K : PySem.W.Frag} {ρ : Nat → Addr} {N : Nat} {H : Hp} : ∀ {w : List W} {v : List V} {ns : List Bool}, RWs K ρ N H w v → DM.blsOf w = some ns → v = ns.map V.bl
  | _, _, ns, .nil, e => by
    cases e
    rfl
  | _, _, ns, .cons a r, e => by
    cases a with
    | bl i =>
      unfold DM.blsOf at e
      obtain ⟨ms, e1, e2⟩ := Option.map_eq_some_iff.mp e
      rw [← e2, RWs.blsOf r e1]
      rfl
    | _ => cases e
theorem paired_imp {α β : Type} {P P' : α → β → Prop} (f : ∀ a b, P a b → P' a b) : ∀ {xs : List α} {ys : List β}, Paired P xs ys → Paired P' xs ys
  | _, _, .nil => .nil
  | _, _, .cons a r => .cons (f _ _ a) (paired_imp f r)
theorem XdOk.mono {H H' : Hp} (e : ∀ a gs, H a = some (.xd gs) → H' a = some (.xd gs)) {d : Option Addr} {gs : List (Str × V)} (q : XdOk H d gs) : XdOk H' d gs := by
  rcases q with q | ⟨x, q1, q2⟩
  · exact .inl q
  · exact .inr ⟨x, q1, e _ _ q2⟩
theorem RO.mono {T : NT} {ρ ρ' : Nat → Addr} {h h' : Mem} {H H' : Hp} (e : Ext T.K ρ h H ρ' h' H') {a : Addr} (q : H' a = H a) {o : Ob} (r : RO T ρ h.length H a o) : RO T ρ' h'.length H' a o := by
  cases r with
  | lst h r => exact .lst (q.trans h) (r.mono e)
  | dic h r => exact .dic (q.trans h) (paired_imp (fun p q z => ⟨z.1.mono e, z.2.mono e⟩) r)
  | ins h r => exact .ins (q.trans h) (paired_imp (fun p q z => ⟨z.1, z.2.mono e⟩) r)
  | exc v h x r => exact .exc v (q.trans h) (x.mono e.xds) (paired_imp (fun p q z => ⟨z.1, z.2.mono e⟩) r)
theorem RO.some {T : NT} {ρ : Nat → Addr} {N : Nat} {H : Hp} {a : Addr} {o : Ob} (r : RO T ρ N H a o) : ∃ u, H a = Option.some u ∧ (∀ xs, u ≠ .tup xs) ∧ (∀ z v, u ≠ .frz z v) ∧ ∀ gs, u ≠ .xd gs := by
  cases r with
  | lst h _ => exact ⟨_, h, fun _ z => (nomatch z), fun _ _ z => (nomatch z), fun _ z => (nomatch z)⟩
  | dic h _ => exact ⟨_, h, fun _ z => (nomatch z), fun _ _ z => (nomatch z), fun _ z => (nomatch z)⟩
  | ins h _ => exact ⟨_, h, fun _ z => (nomatch z), fun _ _ z => (nomatch z), fun _ z => (nomatch z)⟩
  | exc _ h _ _ =>
    refine ⟨_, h, fun _ z => ?_, fun _ _ z => ?_, fun _ z => ?_⟩ <;> unfold xob at z <;> cases z
/-- a tracked object that is a list, a dict, an instance, an exception -/
def Plain (o : HO) : Prop := (∀ xs, o ≠ .tup xs) ∧ (∀ z v, o ≠ .frz z v) ∧ ∀ gs, o ≠ .xd gs
theorem sqT_upd {K : PySem.W.Frag} {H : Hp} {p : Addr} {o : HO} (hp : H p = none ∨ ∃ u, H p = Option.some u ∧ Plain u) {a : Addr} {xs : List V} (h : SqT K H a xs) : SqT K (upd H p o) a xs := by
  rcases h with h | h
  · have ne : a ≠ p := by
      intro e
      subst e
      rcases hp with hp | ⟨u, hp, p1, p2, _⟩
      · rcases h with h | ⟨z, h⟩ <;> rw [hp] at h <;> cases h
      · rcases h with h | ⟨z, h⟩
        · rw [hp] at h
          exact p1 _ (Option.some.inj h)
        · rw [hp] at h
          exact p2 _ _ (Option.some.inj h)
    refine .inl ?_
    unfold Rd
    rw [upd_ne ne]
    exact h
  · exact .inr h
theorem sqC_upd {K : PySem.W.Frag} {H : Hp} {p : Addr} {o : HO} (hp : H p = none ∨ ∃ u, H p = Option.some u ∧ Plain u) {a : Addr} {xs : List V} (h : SqC K H a xs) : SqC K (upd H p o) a xs := by
  rcases h with h | h
  · have ne : a ≠ p := by
      intro e
      subst e
      obtain ⟨z, h⟩ := h
      rcases hp with hp | ⟨u, hp, p1, p2, _⟩
      · rw [hp] at h
        cases h
      · rw [hp] at h
        exact p2 _ _ (Option.some.inj h)
    refine .inl ?_
    rw [upd_ne ne]
    exact h
  · exact .inr h
theorem kee_upd {H : Hp} {p : Addr} {o : HO} (a : Addr) (h : H a ≠ none) : upd H p o a ≠ none := by
  by_cases e : a = p
  · rw [e, upd_same]
    simp
  · rw [upd_ne e]
    exact h
section
variable {T : NT} {ρ : Nat → Addr} {h : Mem} {H : Hp}
theorem Sim.there (S : Sim T ρ h H) {i : Nat} (hi : i < h.length) : ∃ u, H (ρ i) = some u ∧ Plain u := by
  obtain ⟨u, e, p1, p2, p3⟩ := (S.obj i _ (List.getElem?_eq_getElem hi)).some
  exact ⟨u, e, p1, p2, p3⟩
/-- the address map with one more -/
def snoc (ρ : Nat → Addr) (n : Nat) (p : Addr) : Nat → Addr := fun i => if i = n then p else ρ i
theorem snoc_at (ρ : Nat → Addr) (n : Nat) (p : Addr) : snoc ρ n p n = p := if_pos rfl
theorem snoc_lt {ρ : Nat → Addr} {n : Nat} {p : Addr} {i : Nat} (l : i < n) : snoc ρ n p i = ρ i := if_neg (Nat.ne_of_lt l)
theorem ext_alloc (S : Sim T ρ h H) {p : Addr} (hp : H p = none) (o : Ob) (u : HO) : Ext T.K ρ h H (snoc ρ h.length p) (h ++ [o]) (upd H p u) :=
  ⟨by simp, fun i hi => snoc_lt hi, fun i l1 l2 => by
      have e : i = h.length := by
        have : (h ++ [o]).length = h.length + 1 := by simp
        omega
      rw [e, snoc_at]
      exact hp,
    fun a xs z => sqT_upd (.inl hp) z, fun a xs z => sqC_upd (.inl hp) z, fun a z => kee_upd a z, fun a o' e _ => by
      rw [upd_ne (ne_of_none e hp)]
      exact e,
    fun a gs z => by
      rw [upd_ne (ne_of_none z hp)]
      exact z⟩
theorem sim_alloc (S : Sim T ρ h H) {p : Addr} (hp : H p = none) {o : Ob} {u : HO} (ro : RO T (snoc ρ h.length p) (h ++ [o]).length (upd H p u) p o) : Sim T (snoc ρ h.length p) (h ++ [o]) (upd H p u) := by
  have E := ext_alloc S hp o u
  have hl : (h ++ [o]).length = h.length + 1 := by simp
  have nep : ∀ i, i < h.length → ρ i ≠ p := fun i hi e => by
    obtain ⟨u, q, _⟩ := S.there hi
    rw [e, hp] at q
    cases q
  refine ⟨fun i j hi hj e => ?_, fun i o' hi => ?_⟩
  · by_cases l1 : i < h.length
    · by_cases l2 : j < h.length
      · rw [snoc_lt l1, snoc_lt l2] at e
        exact S.inj i j l1 l2 e
      · have ej : j = h.length := by omega
        rw [snoc_lt l1, ej, snoc_at] at e
        exact absurd e (nep i l1)
    · have ei : i = h.length := by omega
      by_cases l2 : j < h.length
      · rw [snoc_lt l2, ei, snoc_at] at e
        exact absurd e.symm (nep j l2)
      · omega
  · by_cases l1 : i < h.length
    · rw [List.getElem?_append_left l1] at hi
      rw [snoc_lt l1]
      refine (S.obj i o' hi).mono E ?_
      exact upd_ne (nep i l1)
    · have ei : i = h.length := by
        have := (List.getElem?_eq_some_iff.mp (hi)).1
        omega
      subst ei
      have : o' = o := by simpa using hi.symm
      subst this
      rw [snoc_at]
      exact ro
theorem ext_set (S : Sim T ρ h H) {n : Nat} (hn : n < h.length) (o : Ob) (u : HO) : Ext T.K ρ h H ρ (h.set n o) (upd H (ρ n) u) :=
  ⟨by simp, fun i _ => rfl, fun i l1 l2 => by
      rw [List.length_set] at l2
      omega,
    fun a xs z => sqT_upd (.inr (S.there hn)) z, fun a xs z => sqC_upd (.inr (S.there hn)) z, fun a z => kee_upd a z, fun a o' e q => by
      rw [upd_ne (fun z => q n hn z.symm)]
      exact e,
    fun a gs z => by
      obtain ⟨v, q, _, _, q3⟩ := S.there hn
      rw [upd_ne (fun y => q3 gs (by rw [y, q] at z; exact Option.some.inj z))]
      exact z⟩
theorem sim_set (S : Sim T ρ h H) {n : Nat} (hn : n < h.length) {o : Ob} {u : HO} (ro : RO T ρ (h.set n o).length (upd H (ρ n) u) (ρ n) o) : Sim T ρ (h.set n o) (upd H (ρ n) u) := by
  have E := ext_set S hn o u
  refine ⟨fun i j hi hj e => ?_, fun i o' hi => ?_⟩
  · rw [List.length_set] at hi hj
    exact S.inj i j hi hj e
  · by_cases e : i = n
    · subst e
      rw [List.getElem?_set_self hn] at hi
      have : o = o' := Option.some.inj hi
      subst this
      exact ro
    · rw [List.getElem?_set_ne (fun z => e z.symm)] at hi
      have l : i < h.length := (List.getElem?_eq_some_iff.mp hi).1
      refine (S.obj i o' hi).mono E (upd_ne fun z => e (S.inj i n l hn z))
/-- a tuple that is laid -/
theorem ext_tup (S : Sim T ρ h H) {p : Addr} (hp : H p = none) (u : HO) : Ext T.K ρ h H ρ h (upd H p u) :=
  ⟨Nat.le_refl _, fun _ _ => rfl, fun _ a b => absurd a (Nat.not_le_of_lt b), fun a xs z => sqT_upd (.inl hp) z, fun a xs z => sqC_upd (.inl hp) z, fun a z => kee_upd a z, fun a o' e _ => by
      rw [upd_ne (ne_of_none e hp)]
      exact e,
    fun a gs z => by
      rw [upd_ne (ne_of_none z hp)]
      exact z⟩
theorem sim_tup (S : Sim T ρ h H) {p : Addr} (hp : H p = none) (u : HO) : Sim T ρ h (upd H p u) :=
  ⟨S.inj, fun i o hi => (S.obj i o hi).mono (ext_tup S hp u) (upd_ne fun e => by
    obtain ⟨v, q, _⟩ := S.there (List.getElem?_eq_some_iff.mp hi).1
    rw [e, hp] at q
    cases q)⟩
end
end DM

/-! The deep machine: what a result asks; the operators. -/
namespace DM
open PySem L2 PySem.Spec PyProof.Rows

/-- an exception in flight -/
def RX (T : NT) (ρ : Nat → Addr) (N : Nat) (H : Hp) (x : Ex) (cls : Value) (d : Option Addr) : Prop :=
  cls = .ref (T.cl x.c) ∧ (T.xc.lookup x.c).isSome = true ∧ ∃ gs, XdOk H d gs ∧ Paired (fun (p : Nat × W) (q : Str × V) => T.fld[p.1]? = some q.1 ∧ RW T.K ρ N H p.2 q.2) x.fs gs
def PostG {α β : Type} (T : NT) (Rl : (Nat → Addr) → Mem → Hp → α → β → Prop) (E : XK) (ρ : Nat → Addr) (h : Mem) (H : Hp) (r : R α) (Q : β → Hp → Prop) : Prop := match r with
  | .ok a h' => ∀ ρ' H' b, Ext T.K ρ h H ρ' h' H' → Sim T ρ' h' H' → Rl ρ' h' H' a b → Q b H'
  | .ex x h' => ∀ ρ' H' cls d, Ext T.K ρ h H ρ' h' H' → Sim T ρ' h' H' → RX T ρ' h'.length H' x cls d → E cls d H'
  | .bad => False
section
variable {α β γ δ : Type} {T : NT} {Rl : (Nat → Addr) → Mem → Hp → α → β → Prop} {Rl' : (Nat → Addr) → Mem → Hp → γ → δ → Prop} {E : XK} {ρ ρ1 : Nat → Addr} {h h1 : Mem} {H H1 : Hp} {r : R α} {Q : β → Hp → Prop}
theorem PostG.imp {Q' : β → Hp → Prop} (P : PostG T Rl E ρ h H r Q) (f : ∀ b H', Q b H' → Q' b H') : PostG T Rl E ρ h H r Q' := by
  cases r with
  | ok a h' => exact fun ρ' H' b e s q => f b H' (P ρ' H' b e s q)
  | ex x h' => exact P
  | bad => exact P
theorem PostG.from (e : Ext T.K ρ h H ρ1 h1 H1) (P : PostG T Rl E ρ h H r Q) : PostG T Rl E ρ1 h1 H1 r Q := by
  cases r with
  | ok a h' => exact fun ρ' H' b e1 s q => P ρ' H' b (e.trans e1) s q
  | ex x h' => exact fun ρ' H' cls d e1 s q => P ρ' H' cls d (e.trans e1) s q
  | bad => exact P
/-- a value, then what follows -/
theorem PostG.bind {f : α → Mem → R γ} {Q' : δ → Hp → Prop} (P : PostG T Rl' E ρ h H (r.bind f) Q') :
    PostG T Rl E ρ h H r fun b H1 => ∃ ρ1 h1 a, r = .ok a h1 ∧ Ext T.K ρ h H ρ1 h1 H1 ∧ Sim T ρ1 h1 H1 ∧ Rl ρ1 h1 H1 a b ∧ PostG T Rl' E ρ1 h1 H1 (f a h1) Q' := by
  cases r with
  | ok a h' => exact fun ρ' H' b e s q => ⟨ρ', h', a, rfl, e, s, q, P.from e⟩
  | ex x h' => exact P
  | bad => exact P
end
abbrev RV (T : NT) : (Nat → Addr) → Mem → Hp → W → V → Prop := fun ρ h H w v => RW T.K ρ h.length H w v
abbrev RVs (T : NT) : (Nat → Addr) → Mem → Hp → List W → List V → Prop := fun ρ h H w v => RWs T.K ρ h.length H w v
section
variable {T : NT} {E : XK} {ρ : Nat → Addr} {h : Mem} {H : Hp} {Q : VK}
theorem post_ok {w : W} {v : V} (P : PostG T (RV T) E ρ h H (.ok w h) Q) (S : Sim T ρ h H) (r : RW T.K ρ h.length H w v) : Q v H := P ρ H v (Ext.refl ρ h H) S r
theorem post_lst {ws : List W} {vs : List V} (S : Sim T ρ h H) (r : RWs T.K ρ h.length H ws vs) (P : PostG T (RV T) E ρ h H (alloc (.lst ws) h) Q) (p : Addr) (hp : H p = none) : Q (.ref p) (upd H p (.lst vs)) := by
  refine P (snoc ρ h.length p) _ _ (ext_alloc S hp (.lst ws) (.lst vs)) (sim_alloc S hp (.lst upd_same (r.mono (ext_alloc S hp _ _)))) ?_
  have q : RW T.K (snoc ρ h.length p) (h ++ [Ob.lst ws]).length (upd H p (.lst vs)) (.ref h.length) (.ref (snoc ρ h.length p h.length)) := .ref (by simp)
  rw [snoc_at] at q
  exact q
theorem post_tup {ws : List W} {vs : List V} (S : Sim T ρ h H) (r : RWs T.K ρ h.length H ws vs) (P : PostG T (RV T) E ρ h H (.ok (.tup ws) h) Q) (p : Addr) (hp : H p = none) : Q (.ref p) (upd H p (.tup vs)) :=
  P ρ _ _ (ext_tup S hp _) (sim_tup S hp _) (.tup (.inl (.inl upd_same)) (r.mono (ext_tup S hp (.tup vs))))
theorem post_set {n : Nat} {o : Ob} {u : HO} {w : W} {v : V} (S : Sim T ρ h H) (hn : n < h.length) (ro : RO T ρ (h.set n o).length (upd H (ρ n) u) (ρ n) o) (P : PostG T (RV T) E ρ h H (.ok w (h.set n o)) Q) (r : RW T.K ρ h.length H w v) : Q v (upd H (ρ n) u) :=
  P ρ _ _ (ext_set S hn o u) (sim_set S hn ro) (r.mono (ext_set S hn o u))
theorem Sim.lst (S : Sim T ρ h H) {n : Nat} {ws : List W} (e : h[n]? = some (.lst ws)) : ∃ vs, H (ρ n) = some (.lst vs) ∧ RWs T.K ρ h.length H ws vs := by
  have q := S.obj n _ e
  cases q with
  | lst a b => exact ⟨_, a, b⟩
theorem lt_of_at {n : Nat} {o : Ob} (e : h[n]? = some o) : n < h.length := (List.getElem?_eq_some_iff.mp e).1
end
theorem lim_line {n : Nat} (h : n ≤ LIM) : n ≤ sizeLine := by
  rw [sizeLine_eq]
  unfold LIM at h
  omega
theorem lim_lt {n : Nat} (h : n < LIM) : n < sizeLine := by
  rw [sizeLine_eq]
  unfold LIM at h
  omega
/-! ### operators by values -/
def rO (T : NT) (o : Op) : R2 := fun v u H Q => ∃ E ρ h x y, Sim T ρ h H ∧ RW T.K ρ h.length H x v ∧ RW T.K ρ h.length H y u ∧ PostG T (RV T) E ρ h H (op2 o x y h) Q
section
variable {X : Cx} {T : NT}
theorem mul_cond {i j : Int} (h : mulOk i j = true) : CMul i j ∨ CMulW i j := by
  unfold mulOk at h
  unfold CMul CMulW
  rcases Bool.or_eq_true_iff.mp (h) with h | h
  · left
    rcases Bool.or_eq_true_iff.mp (h) with h | h
    · left
      have := of_decide_eq_true h
      omega
    · right
      have := of_decide_eq_true h
      omega
  · exact .inr (of_decide_eq_true h)
theorem str_app (a b : List Nat) : (⟨a.toArray⟩ : Str) ++ (⟨b.toArray⟩ : Str) = ⟨(a ++ b).toArray⟩ := by
  show Str.mk (a.toArray ++ b.toArray) = _
  simp
theorem okS_app {a b : List Nat} (h : a.length + b.length ≤ LIM) (x : okS a) (y : okS b) : okS (a ++ b) := ⟨by simpa using h, fun c hc => (List.mem_append.mp hc).elim (x.2 c) (y.2 c)⟩
theorem opR_add (hK : X.K = T.K) : OpR X (binaryOp .Add) (rO T .add) := by
  intro pins s σ H v u a b Q I r1 r2 ⟨E, ρ, h, x, y, S, rx, ry, P⟩
  cases rx with
  | int i => cases ry with
    | int j => exact op_add pins s σ H _ _ _ _ Q I r1 r2 ⟨i, j, rfl, rfl, post_ok P S (.int _)⟩
    | _ => exact P.elim
  | str x ox => cases ry with
    | str y oy =>
      have P' : PostG T (RV T) E ρ h H (if x.length + y.length ≤ LIM then .ok (.str (x ++ y)) h else .bad) Q := P
      split at P'
      · rename_i hl
        refine op_add_str pins s σ H _ _ _ _ Q I r1 r2 ⟨_, _, rfl, rfl, by show x.toArray.size + y.toArray.size ≤ _; simpa using lim_line hl, ?_⟩
        rw [str_app]
        exact post_ok P' S (.str _ (okS_app hl ox oy))
      · exact P'.elim
    | _ => exact P.elim
  | tup sx rx => cases ry with
    | tup sy ry =>
      rename_i ws p vs us q zs
      have P' : PostG T (RV T) E ρ h H (if ws ≠ [] ∧ ws.length + us.length ≤ LIM then .ok (.tup (ws ++ us)) h else .bad) Q := P
      split at P'
      · rename_i hl
        refine op_catT pins s σ H _ _ _ _ Q I r1 r2 ⟨p, q, vs, zs, rfl, rfl, by rw [hK]; exact sx, by rw [hK]; exact sy, fun e => hl.1 (by
          have := rx.length
          rw [e] at this
          exact List.eq_nil_of_length_eq_zero this.symm), by rw [rx.length, ry.length]; exact lim_line hl.2, ?_⟩
        · rw [← hK] at sx
          refine ⟨fun e => ?_, fun e p hp => ?_⟩
          · have e2 : us = [] := List.eq_nil_of_length_eq_zero (by rw [← ry.length, e]; rfl)
            rw [e2, List.append_nil] at P'
            rw [hK] at sx
            exact post_ok P' S (.tup sx rx)
          · exact post_tup S (rx.app ry) P' p hp
      · exact P'.elim
    | _ => exact P.elim
  | ref hn => cases ry with
    | ref hm =>
      rename_i n m
      have P' : PostG T (RV T) E ρ h H (match h[n]?, h[m]? with
        | some (.lst xs), some (.lst ys) => newL (xs ++ ys) h
        | _, _ => .bad) Q := P
      split at P'
      · rename_i xs ys e1 e2
        unfold newL at P'
        split at P'
        · rename_i hl
          obtain ⟨vs, q1, s1⟩ := S.lst e1
          obtain ⟨zs, q2, s2⟩ := S.lst e2
          refine op_cat pins s σ H _ _ _ _ Q I r1 r2 ⟨_, _, vs, zs, rfl, rfl, q1, q2, ?_, fun p hp => post_lst S (s1.app s2) P' p hp⟩
          rw [s1.length, s2.length]
          rw [List.length_append] at hl
          exact lim_line hl
        · exact P'.elim
      · exact P'.elim
    | _ => exact P.elim
  | _ => exact P.elim

theorem opR_sub (hK : X.K = T.K) : OpR X (binaryOp .Sub) (rO T .sub) := by
  intro pins s σ H v u a b Q I r1 r2 ⟨E, ρ, h, x, y, S, rx, ry, P⟩
  cases rx with
  | int i => cases ry with
    | int j => exact op_sub pins s σ H _ _ _ _ Q I r1 r2 ⟨i, j, rfl, rfl, post_ok P S (.int _)⟩
    | _ => exact P.elim
  | _ => exact P.elim
theorem opR_mul (hK : X.K = T.K) : OpR X (binaryOp .Mult) (rO T .mul) := by
  intro pins s σ H v u a b Q I r1 r2 ⟨E, ρ, h, x, y, S, rx, ry, P⟩
  cases rx with
  | int i => cases ry with
    | int j =>
      have P' : PostG T (RV T) E ρ h H (if mulOk i j then .ok (.int (i * j)) h else .bad) Q := P
      split at P'
      · rename_i hc
        rcases mul_cond hc with hc | hc
        · exact op_mul pins s σ H _ _ _ _ Q I r1 r2 ⟨i, j, rfl, rfl, hc, post_ok P' S (.int _)⟩
        · exact op_mulW pins s σ H _ _ _ _ Q I r1 r2 ⟨i, j, rfl, rfl, hc, post_ok P' S (.int _)⟩
      · exact P'.elim
    | _ => exact P.elim
  | ref hn => cases ry with
    | int k =>
      rename_i n
      have P' : PostG T (RV T) E ρ h H (match h[n]? with
        | some (.lst xs) => if xs.length * k.toNat ≤ LIM ∧ -9223372036854775808 ≤ k ∧ k < 9223372036854775808 then alloc (.lst (List.replicate k.toNat xs).flatten) h else .bad
        | _ => .bad) Q := P
      split at P'
      · rename_i xs e1
        split at P'
        · rename_i hl
          obtain ⟨vs, q1, s1⟩ := S.lst e1
          refine op_rep pins s σ H _ _ _ _ Q I r1 r2 ⟨_, k, vs, rfl, rfl, q1, by have := hl.2.1; omega, by have := hl.2.2; omega, by rw [s1.length]; exact lim_line hl.1, fun p hp => post_lst S (s1.rep _) P' p hp⟩
        · exact P'.elim
      · exact P'.elim
    | _ => exact P.elim
  | _ => exact P.elim
theorem opR_fdiv (hK : X.K = T.K) : OpR X (binaryOp .FloorDiv) (rO T .fdiv) := by
  intro pins s σ H v u a b Q I r1 r2 ⟨E, ρ, h, x, y, S, rx, ry, P⟩
  cases rx with
  | int i => cases ry with
    | int j =>
      have P' : PostG T (RV T) E ρ h H (if 0 < j ∧ j.natAbs.log2 < 9000 then .ok (.int (i / j)) h else .bad) Q := P
      split at P'
      · rename_i hc
        exact op_fdivW pins s σ H _ _ _ _ Q I r1 r2 ⟨i, j, rfl, rfl, hc, post_ok P' S (.int _)⟩
      · exact P'.elim
    | _ => exact P.elim
  | _ => exact P.elim
theorem opR_mod (hK : X.K = T.K) : OpR X (binaryOp .Mod) (rO T .mod) := by
  intro pins s σ H v u a b Q I r1 r2 ⟨E, ρ, h, x, y, S, rx, ry, P⟩
  cases rx with
  | int i => cases ry with
    | int j =>
      have P' : PostG T (RV T) E ρ h H (if 0 < j then .ok (.int (i % j)) h else .bad) Q := P
      split at P'
      · rename_i hc
        exact op_mod pins s σ H _ _ _ _ Q I r1 r2 ⟨i, j, rfl, rfl, hc, post_ok P' S (.int _)⟩
      · exact P'.elim
    | _ => exact P.elim
  | _ => exact P.elim
theorem pow_cond {i j : Int} (h : 0 ≤ j ∧ j ≤ 1000000 ∧ i.natAbs < 18446744073709551616) : CPow i j := ⟨h.1, h.2.1, by have := h.2.2; omega⟩
theorem opR_pow (hK : X.K = T.K) : OpR X (binaryOp .Pow) (rO T .pow) := by
  intro pins s σ H v u a b Q I r1 r2 ⟨E, ρ, h, x, y, S, rx, ry, P⟩
  cases rx with
  | int i => cases ry with
    | int j =>
      have P' : PostG T (RV T) E ρ h H (if 0 ≤ j ∧ j ≤ 1000000 ∧ i.natAbs < 18446744073709551616 then .ok (.int (i ^ j.toNat)) h else .bad) Q := P
      split at P'
      · rename_i hc
        exact op_pow pins s σ H _ _ _ _ Q I r1 r2 ⟨i, j, rfl, rfl, pow_cond hc, post_ok P' S (.int _)⟩
      · exact P'.elim
    | _ => exact P.elim
  | _ => exact P.elim
theorem opR_shl (hK : X.K = T.K) : OpR X (binaryOp .LShift) (rO T .shl) := by
  intro pins s σ H v u a b Q I r1 r2 ⟨E, ρ, h, x, y, S, rx, ry, P⟩
  cases rx with
  | int i => cases ry with
    | int j =>
      have P' : PostG T (RV T) E ρ h H (if 0 ≤ j ∧ (Builtin.Int.intBits i : Int) + j ≤ 134217728 then .ok (.int (i * 2 ^ j.toNat)) h else .bad) Q := P
      split at P'
      · rename_i hc
        exact op_shlW pins s σ H _ _ _ _ Q I r1 r2 ⟨i, j, rfl, rfl, ⟨hc.1, hc.2⟩, post_ok P' S (.int _)⟩
      · exact P'.elim
    | _ => exact P.elim
  | _ => exact P.elim
theorem opR_shr (hK : X.K = T.K) : OpR X (binaryOp .RShift) (rO T .shr) := by
  intro pins s σ H v u a b Q I r1 r2 ⟨E, ρ, h, x, y, S, rx, ry, P⟩
  cases rx with
  | int i => cases ry with
    | int j =>
      have P' : PostG T (RV T) E ρ h H (if 0 ≤ j then .ok (.int (i / 2 ^ j.toNat)) h else .bad) Q := P
      split at P'
      · rename_i hc
        exact op_shr pins s σ H _ _ _ _ Q I r1 r2 ⟨i, j, rfl, rfl, hc, post_ok P' S (.int _)⟩
      · exact P'.elim
    | _ => exact P.elim
  | _ => exact P.elim
theorem opR_band (hK : X.K = T.K) : OpR X (binaryOp .BitAnd) (rO T .band) := by
  intro pins s σ H v u a b Q I r1 r2 ⟨E, ρ, h, x, y, S, rx, ry, P⟩
  cases rx with
  | int i => cases ry with
    | int j => exact op_and pins s σ H _ _ _ _ Q I r1 r2 ⟨i, j, rfl, rfl, post_ok P S (.int _)⟩
    | _ => exact P.elim
  | _ => exact P.elim
theorem opR_bor (hK : X.K = T.K) : OpR X (binaryOp .BitOr) (rO T .bor) := by
  intro pins s σ H v u a b Q I r1 r2 ⟨E, ρ, h, x, y, S, rx, ry, P⟩
  cases rx with
  | int i => cases ry with
    | int j => exact op_or pins s σ H _ _ _ _ Q I r1 r2 ⟨i, j, rfl, rfl, post_ok P S (.int _)⟩
    | _ => exact P.elim
  | _ => exact P.elim
theorem opR_bxor (hK : X.K = T.K) : OpR X (binaryOp .BitXor) (rO T .bxor) := by
  intro pins s σ H v u a b Q I r1 r2 ⟨E, ρ, h, x, y, S, rx, ry, P⟩
  cases rx with
  | int i => cases ry with
    | int j => exact op_xor pins s σ H _ _ _ _ Q I r1 r2 ⟨i, j, rfl, rfl, post_ok P S (.int _)⟩
    | _ => exact P.elim
  | _ => exact P.elim
theorem opR_lt (hK : X.K = T.K) : OpR X (compareOp .Lt) (rO T .lt) := by
  intro pins s σ H v u a b Q I r1 r2 ⟨E, ρ, h, x, y, S, rx, ry, P⟩
  cases rx with
  | int i => cases ry with
    | int j => exact op_lt pins s σ H _ _ _ _ Q I r1 r2 ⟨i, j, rfl, rfl, post_ok P S (.bl _)⟩
    | _ => exact P.elim
  | _ => exact P.elim
theorem opR_le (hK : X.K = T.K) : OpR X (compareOp .LtE) (rO T .le) := by
  intro pins s σ H v u a b Q I r1 r2 ⟨E, ρ, h, x, y, S, rx, ry, P⟩
  cases rx with
  | int i => cases ry with
    | int j => exact op_le pins s σ H _ _ _ _ Q I r1 r2 ⟨i, j, rfl, rfl, post_ok P S (.bl _)⟩
    | _ => exact P.elim
  | _ => exact P.elim
theorem opR_gt (hK : X.K = T.K) : OpR X (compareOp .Gt) (rO T .gt) := by
  intro pins s σ H v u a b Q I r1 r2 ⟨E, ρ, h, x, y, S, rx, ry, P⟩
  cases rx with
  | int i => cases ry with
    | int j => exact op_gt pins s σ H _ _ _ _ Q I r1 r2 ⟨i, j, rfl, rfl, post_ok P S (.bl _)⟩
    | _ => exact P.elim
  | _ => exact P.elim
theorem opR_ge (hK : X.K = T.K) : OpR X (compareOp .GtE) (rO T .ge) := by
  intro pins s σ H v u a b Q I r1 r2 ⟨E, ρ, h, x, y, S, rx, ry, P⟩
  cases rx with
  | int i => cases ry with
    | int j => exact op_ge pins s σ H _ _ _ _ Q I r1 r2 ⟨i, j, rfl, rfl, post_ok P S (.bl _)⟩
    | _ => exact P.elim
  | _ => exact P.elim
/-! ### data -/
theorem okS_str {x : List Nat} (h : okS x) : PyData.canLay0 (.str ⟨x.toArray⟩) = true := by
  simp only [PyData.canLay0, PyData.strOk]
  simp only [List.size_toArray, List.all_toArray', List.all_eq_true, decide_eq_true_eq]
  intro c hc
  have := h.2 c hc
  omega
mutual
theorem toD_ok {ρ : Nat → Addr} {h : Mem} {H : Hp} (S : Sim T ρ h H) : ∀ (n : Nat) {w : W} {v : V} {d : PyData}, RW T.K ρ h.length H w v → toD h n w = some d → Dp T.K H v d ∧ d.canLay0 = true ∧ d.depth ≤ n
  | n, _, _, d, .non, e => by
    have e : some PyData.none = some d := by
      cases n <;> exact e
    cases e
    exact ⟨.non, by simp [PyData.canLay0], by simp [PyData.depth]⟩
  | n, _, _, d, .bl b, e => by
    have e : some (PyData.bool b) = some d := by
      cases n <;> exact e
    cases e
    exact ⟨.bl b, by simp [PyData.canLay0], by simp [PyData.depth]⟩
  | n, _, _, d, .int b, e => by
    have e : some (PyData.int b) = some d := by
      cases n <;> exact e
    cases e
    exact ⟨.int b, by simp [PyData.canLay0], by simp [PyData.depth]⟩
  | n, _, _, d, .str b o, e => by
    have e : some (PyData.str ⟨b.toArray⟩) = some d := by
      cases n <;> exact e
    cases e
    exact ⟨.str _, okS_str o, by simp [PyData.depth]⟩
  | 0, _, _, _, .tup _ _, e => by cases e
  | 0, _, _, _, .con _ _, e => by cases e
  | 0, _, _, _, .ref _, e => by cases e
  | n + 1, _, _, d, .tup (ws := ws) s r, e => by
    have e : (ws.mapM (toD h n)).map PyData.tuple = some d := e
    obtain ⟨ds, e1, e2⟩ := Option.map_eq_some_iff.mp e
    subst e2
    obtain ⟨a, b, c⟩ := toD_all S n r e1
    exact ⟨.tup s a, by simpa [PyData.canLay0] using b, by simp only [PyData.depth]; omega⟩
  | n + 1, _, _, d, .con (ws := ws) s r, e => by
    have e : (ws.mapM (toD h n)).map PyData.list = some d := e
    obtain ⟨ds, e1, e2⟩ := Option.map_eq_some_iff.mp e
    subst e2
    obtain ⟨a, b, c⟩ := toD_all S n r e1
    exact ⟨.lst s.l a, by simpa [PyData.canLay0] using b, by simp only [PyData.depth]; omega⟩
  | n + 1, _, _, d, .ref (n := m) l, e => by
    have e : (match getL h (.ref m) with
      | some xs => (xs.mapM (toD h n)).map PyData.list
      | none => none) = some d := e
    unfold getL at e
    dsimp only at e
    cases q : h[m]? with
    | none =>
      rw [q] at e
      cases e
    | some o =>
      rw [q] at e
      cases o with
      | lst ws =>
        obtain ⟨vs, q1, s1⟩ := S.lst q
        obtain ⟨ds, e1, e2⟩ := Option.map_eq_some_iff.mp (show (ws.mapM (toD h n)).map PyData.list = some d from e)
        subst e2
        obtain ⟨a, b, c⟩ := toD_all S n s1 e1
        exact ⟨.lst (.of q1) a, by simpa [PyData.canLay0] using b, by simp only [PyData.depth]; omega⟩
      | _ => cases e
theorem toD_all {ρ : Nat → Addr} {h : Mem} {H : Hp} (S : Sim T ρ h H) : ∀ (n : Nat) {w : List W} {v : List V} {d : List PyData}, RWs T.K ρ h.length H w v → w.mapM (toD h n) = some d → DpAll T.K H v d ∧ PyData.canLayAll0 d = true ∧ PyData.depthAll d ≤ n
  | n, _, _, d, .nil, e => by
    have e : some [] = some d := by simpa using e
    cases e
    exact ⟨.nil, by simp [PyData.canLayAll0], by simp [PyData.depthAll]⟩
  | n, _, _, d, .cons (w := w) (ws := ws) a r, e => by
    rw [List.mapM_cons] at e
    cases q : toD h n w with
    | none =>
      rw [q] at e
      cases e
    | some d1 =>
      rw [q] at e
      cases q2 : ws.mapM (toD h n) with
      | none =>
        rw [q2] at e
        cases e
      | some ds =>
        rw [q2] at e
        have e : some (d1 :: ds) = some d := e
        cases e
        obtain ⟨a1, a2, a3⟩ := toD_ok S n a q
        obtain ⟨b1, b2, b3⟩ := toD_all S n r q2
        exact ⟨.cons a1 b1, by simp [PyData.canLayAll0, a2, b2], by simp only [PyData.depthAll]; omega⟩
end
theorem shaped_of {d : PyData} (a : d.canLay0 = true) (b : d.depth ≤ 30) : SeqAt.shaped d = true := by
  unfold SeqAt.shaped
  rw [a]
  simp only [Bool.true_and, decide_eq_true_eq]
  omega
theorem opR_eq (hK : X.K = T.K) (hu : X.A.units + 64 < cLine) : OpR X (compareOp .Eq) (rO T .eq) := by
  intro pins s σ H v u a b Q I r1 r2 ⟨E, ρ, h, x, y, S, rx, ry, P⟩
  have P' : PostG T (RV T) E ρ h H (bR (eqW x y h)) Q := P
  unfold eqW at P'
  split at P'
  · rename_i d e e1 e2
    obtain ⟨a1, a2, a3⟩ := toD_ok S 30 rx e1
    obtain ⟨b1, b2, b3⟩ := toD_ok S 30 ry e2
    exact op_eqD hu pins s σ H _ _ _ _ Q I r1 r2 ⟨d, e, by rw [hK]; exact a1, by rw [hK]; exact b1, shaped_of a2 a3, shaped_of b2 b3, post_ok P' S (.bl _)⟩
  · exact P'.elim
theorem opR_ne (hK : X.K = T.K) (hu : X.A.units + 64 < cLine) : OpR X (compareOp .NotEq) (rO T .ne) := by
  intro pins s σ H v u a b Q I r1 r2 ⟨E, ρ, h, x, y, S, rx, ry, P⟩
  have P' : PostG T (RV T) E ρ h H (bR ((eqW x y h).bind fun b h => .ok (!b) h)) Q := P
  unfold eqW at P'
  split at P'
  · rename_i d e e1 e2
    obtain ⟨a1, a2, a3⟩ := toD_ok S 30 rx e1
    obtain ⟨b1, b2, b3⟩ := toD_ok S 30 ry e2
    exact op_neD hu pins s σ H _ _ _ _ Q I r1 r2 ⟨d, e, by rw [hK]; exact a1, by rw [hK]; exact b1, shaped_of a2 a3, shaped_of b2 b3, post_ok P' S (.bl _)⟩
  · exact P'.elim
end
end DM

/-! The deep machine: in, is, truth, places, built-in functions and methods, by values. -/
namespace DM
open PySem L2 PySem.Spec PyProof.Rows
section
variable {X : Cx} {T : NT}
theorem opR_isn (hK : X.K = T.K) : OpR X (compareOp .Is) (rO T .isn) := by
  intro pins s σ H v u a b Q I r1 r2 ⟨E, ρ, h, x, y, S, rx, ry, P⟩
  cases ry with
  | non => cases rx with
    | non => exact op_isN pins s σ H _ _ _ _ Q I r1 r2 ⟨rfl, post_ok P S (.bl _)⟩
    | _ => exact op_isN pins s σ H _ _ _ _ Q I r1 r2 ⟨rfl, post_ok P S (.bl _)⟩
  | bl b => cases rx with
    | bl a => exact op_isBl pins s σ H _ _ _ _ Q I r1 r2 ⟨a, b, rfl, rfl, post_ok P S (.bl _)⟩
    | _ => exact P.elim
  | _ => cases rx <;> exact P.elim
theorem opR_notn (hK : X.K = T.K) : OpR X (compareOp .IsNot) (rO T .notn) := by
  intro pins s σ H v u a b Q I r1 r2 ⟨E, ρ, h, x, y, S, rx, ry, P⟩
  cases ry with
  | non => cases rx with
    | non => exact op_notN pins s σ H _ _ _ _ Q I r1 r2 ⟨rfl, post_ok P S (.bl _)⟩
    | _ => exact op_notN pins s σ H _ _ _ _ Q I r1 r2 ⟨rfl, post_ok P S (.bl _)⟩
  | bl b => cases rx with
    | bl a => exact op_notBl pins s σ H _ _ _ _ Q I r1 r2 ⟨a, b, rfl, rfl, post_ok P S (.bl _)⟩
    | _ => exact P.elim
  | _ => cases rx <;> exact P.elim
/-! ### in -/
theorem isIn_eq (x y : List Nat) : (!(Builtin.Str.occurrences (⟨y.toArray⟩ : Str) (⟨x.toArray⟩ : Str) 0 (⟨y.toArray⟩ : Str).length 1).isEmpty) = isIn x y := by
  rw [Bool.eq_iff_iff, StrLaws.found_iff]
  unfold isIn
  rw [List.any_eq_true]
  constructor
  · rintro ⟨i, h1, h2⟩
    have l1 : i + x.length ≤ y.length := by simpa [Str.length] using h1
    refine ⟨i, List.mem_range.mpr (by omega), decide_eq_true ?_⟩
    unfold Builtin.Str.subAt at h2
    have h3 := eq_of_beq h2
    have h4 := congrArg Array.toList h3
    simpa [Str.length, List.extract_eq_drop_take] using h4
  · rintro ⟨i, h1, h2⟩
    have h2 := of_decide_eq_true h2
    have l1 : i + x.length ≤ y.length := by
      have := congrArg List.length h2
      rw [List.length_take, List.length_drop] at this
      have := List.mem_range.mp h1
      omega
    refine ⟨i, by simpa [Str.length] using l1, ?_⟩
    unfold Builtin.Str.subAt
    rw [beq_iff_eq]
    apply Array.toList_inj.mp
    simpa [Str.length, List.extract_eq_drop_take] using h2
theorem eqF_eq {K : PySem.W.Frag} {ρ : Nat → Addr} {N : Nat} {H : Hp} {a b : W} {v u : V} (ra : RW K ρ N H a v) (rb : RW K ρ N H b u) (fa : flatW a = true) (fb : flatW b = true) : eqV v u = eqF a b ∧ flatV v = true ∧ flatV u = true := by
  cases ra with
  | tup _ _ => cases fa
  | con _ _ => cases fa
  | ref _ => cases fa
  | non => cases rb with
    | tup _ _ => cases fb
    | con _ _ => cases fb
    | ref _ => cases fb
    | _ => exact ⟨rfl, rfl, rfl⟩
  | bl _ => cases rb with
    | tup _ _ => cases fb
    | con _ _ => cases fb
    | ref _ => cases fb
    | _ => exact ⟨rfl, rfl, rfl⟩
  | int _ => cases rb with
    | tup _ _ => cases fb
    | con _ _ => cases fb
    | ref _ => cases fb
    | _ => exact ⟨rfl, rfl, rfl⟩
  | str x _ => cases rb with
    | tup _ _ => cases fb
    | con _ _ => cases fb
    | ref _ => cases fb
    | str y _ =>
      refine ⟨?_, rfl, rfl⟩
      show ((⟨x.toArray⟩ : Str) == (⟨y.toArray⟩ : Str)) = (x == y)
      rw [Bool.eq_iff_iff]
      rw [beq_iff_eq, beq_iff_eq]
      simp
    | _ => exact ⟨rfl, rfl, rfl⟩
theorem inV_eq {K : PySem.W.Frag} {ρ : Nat → Addr} {N : Nat} {H : Hp} {a : W} {v : V} (ra : RW K ρ N H a v) (fa : flatW a = true) : ∀ {ws : List W} {vs : List V}, RWs K ρ N H ws vs → ws.all flatW = true → inV v vs = (ws.any fun z => eqF z a) ∧ vs.all flatV = true
  | _, _, .nil, _ => ⟨rfl, rfl⟩
  | _, _, .cons (w := w) (ws := ws) b r, f => by
    rw [List.all_cons] at f
    obtain ⟨f1, f2⟩ := Bool.and_eq_true_iff.mp f
    obtain ⟨e1, e2, _⟩ := eqF_eq b ra f1 fa
    obtain ⟨q1, q2⟩ := inV_eq ra fa r f2
    refine ⟨?_, ?_⟩
    · show (eqV _ v || inV v _) = _
      rw [e1, q1]
      rfl
    · rw [List.all_cons, e2, q2]
      rfl
theorem flat_of {K : PySem.W.Frag} {ρ : Nat → Addr} {N : Nat} {H : Hp} {a : W} {v : V} (ra : RW K ρ N H a v) (fa : flatW a = true) : flatV v = true := (eqF_eq ra ra fa fa).2.1
/-- keys -/
theorem key_of' {K : PySem.W.Frag} {ρ : Nat → Addr} {N : Nat} {H : Hp} {a : W} {v : V} (ra : RW K ρ N H a v) (k : isKey a = true) : ∃ q, v = kV q := by
  cases ra with
  | int i => exact ⟨.inl i, rfl⟩
  | str x _ => exact ⟨.inr _, rfl⟩
  | _ => cases k
theorem keyW {K : PySem.W.Frag} {ρ : Nat → Addr} {N : Nat} {H : Hp} {a b : W} {p q : Key} (ra : RW K ρ N H a (kV p)) (rb : RW K ρ N H b (kV q)) : p = q ↔ a = b := by
  cases p with
  | inl i => cases q with
    | inl j =>
      cases ra
      cases rb
      constructor
      · intro e
        cases e
        rfl
      · intro e
        cases e
        rfl
    | inr y =>
      cases ra
      cases rb
      exact ⟨fun e => (nomatch e), fun e => (nomatch e)⟩
  | inr x => cases q with
    | inl j =>
      cases ra
      cases rb
      exact ⟨fun e => (nomatch e), fun e => (nomatch e)⟩
    | inr y =>
      cases ra
      cases rb
      constructor
      · intro e
        injection e with e
        injection e with e
        have e2 := congrArg Array.toList e
        simp only at e2
        exact congrArg W.str e2
      · intro e
        cases e
        rfl
abbrev KR (K : PySem.W.Frag) (ρ : Nat → Addr) (N : Nat) (H : Hp) : List (W × W) → List (Key × V) → Prop := Paired (fun (p : W × W) (q : Key × V) => RW K ρ N H p.1 (kV q.1) ∧ RW K ρ N H p.2 q.2)
theorem find_rel {K : PySem.W.Frag} {ρ : Nat → Addr} {N : Nat} {H : Hp} {a : W} {q : Key} (ra : RW K ρ N H a (kV q)) : ∀ {kvs : List (W × W)} {zs : List (Key × V)}, KR K ρ N H kvs zs → (findK kvs a = none ∧ valV zs q = none) ∨ ∃ w v, findK kvs a = some w ∧ valV zs q = some v ∧ RW K ρ N H w v
  | _, _, .nil => Or.inl ⟨rfl, rfl⟩
  | _, _, .cons (a := x) (b := y) h r => by
    unfold findK valV
    rw [List.find?_cons, List.find?_cons]
    by_cases e : x.1 = a
    · have e2 : y.1 = q := (keyW h.1 ra).mpr e
      rw [decide_eq_true e, decide_eq_true e2]
      exact .inr ⟨_, _, rfl, rfl, h.2⟩
    · have e2 : ¬ y.1 = q := fun z => e ((keyW h.1 ra).mp z)
      rw [decide_eq_false e, decide_eq_false e2]
      exact find_rel ra r
theorem put_rel {K : PySem.W.Frag} {ρ : Nat → Addr} {N : Nat} {H : Hp} {a w : W} {q : Key} {v : V} (ra : RW K ρ N H a (kV q)) (rw' : RW K ρ N H w v) {kvs : List (W × W)} {zs : List (Key × V)} (r : KR K ρ N H kvs zs) : KR K ρ N H (putKW kvs a w) (putK zs q v) := by
  unfold putKW putK
  rw [valV_any]
  have hm : ∀ {kvs : List (W × W)} {zs : List (Key × V)}, KR K ρ N H kvs zs → KR K ρ N H (kvs.map fun kv => if kv.1 = a then (kv.1, w) else kv) (zs.map fun kv => if kv.1 = q then (kv.1, v) else kv) := by
    intro kvs zs r
    induction r with
    | nil => exact .nil
    | cons h r ih =>
      rename_i x y l1 l2
      refine .cons ?_ ih
      dsimp only
      by_cases e : x.1 = a
      · rw [if_pos e, if_pos ((keyW h.1 ra).mpr e)]
        exact ⟨h.1, rw'⟩
      · rw [if_neg e, if_neg fun z => e ((keyW h.1 ra).mp z)]
        exact h
  rcases find_rel ra r with ⟨e1, e2⟩ | ⟨x, y, e1, e2, _⟩
  · rw [e1, e2]
    exact r.snoc ⟨ra, rw'⟩
  · rw [e1, e2]
    exact hm r
theorem drop_rel {K : PySem.W.Frag} {ρ : Nat → Addr} {N : Nat} {H : Hp} {a : W} {q : Key} (ra : RW K ρ N H a (kV q)) : ∀ {kvs : List (W × W)} {zs : List (Key × V)}, KR K ρ N H kvs zs → KR K ρ N H (dropKW kvs a) (dropK zs q)
  | _, _, .nil => .nil
  | _, _, .cons (a := x) (b := y) h r => by
    unfold dropKW dropK
    repeat rw [List.filter_cons]
    by_cases e : x.1 = a
    · rw [if_neg (by simp [e]), if_neg (by simp [(keyW h.1 ra).mpr e])]
      exact drop_rel ra r
    · rw [if_pos (by simp [e]), if_pos (by simpa using fun z => e ((keyW h.1 ra).mp z))]
      exact .cons h (drop_rel ra r)
theorem Sim.dic {ρ : Nat → Addr} {h : Mem} {H : Hp} (S : Sim T ρ h H) {n : Nat} {ws : List (W × W)} (e : h[n]? = some (.dic ws)) : ∃ zs, H (ρ n) = some (.dK zs) ∧ KR T.K ρ h.length H ws zs := by
  have q := S.obj n _ e
  cases q with
  | dic a b => exact ⟨_, a, b⟩
theorem KR.len {K : PySem.W.Frag} {ρ : Nat → Addr} {N : Nat} {H : Hp} {kvs : List (W × W)} {zs : List (Key × V)} (r : KR K ρ N H kvs zs) : kvs.length = zs.length := Paired.length r
/-- turned round, or not -/
def ng (neg b : Bool) : Bool := if neg then !b else b
/-- what «in» asks -/
theorem in_core (hK : X.K = T.K) (hu : X.A.units + 65 < cLine) {neg : Bool} {f : Bool → W} {op : CmpOp} (hop : (op = .In ∧ neg = false) ∨ (op = .NotIn ∧ neg = true)) {pins : List (Addr × Obj)} {s : Shared} {σ : L2.St} {H : Hp} {v u : V} {a b : Value} {Q : VK} (I : Inv X pins σ H s) (r1 : RelV v a) (r2 : RelV u b)
    {E : XK} {ρ : Nat → Addr} {h : Mem} {x y : W} (S : Sim T ρ h H) (rx : RW T.K ρ h.length H x v) (ry : RW T.K ρ h.length H y u) (P : PostG T (RV T) E ρ h H ((inW x y h).bind fun b h => .ok (.bl (ng neg b)) h) Q) :
    wpAny (model X.prog X.w) X.A (compareOp op a b) (EP X pins σ Q) X.xe s := by
  have dat : ∀ {d : PyData} {ds : List PyData}, toD h 30 x = some d → toD h 30 y = some (.list ds) → PostG T (RV T) E ρ h H (.ok (.bl (ng neg (ds.any fun z => PyData.eqv z d))) h) Q → wpAny (model X.prog X.w) X.A (compareOp op a b) (EP X pins σ Q) X.xe s := by
    intro d ds e1 e2 P
    obtain ⟨a1, a2, a3⟩ := toD_ok S 30 rx e1
    obtain ⟨b1, b2, b3⟩ := toD_ok S 30 ry e2
    rcases hop with ⟨rfl, rfl⟩ | ⟨rfl, rfl⟩
    · exact op_inD hu pins s σ H _ _ _ _ Q I r1 r2 ⟨d, ds, by rw [hK]; exact a1, by rw [hK]; exact b1, shaped_of a2 a3, shaped_of b2 b3, post_ok P S (.bl _)⟩
    · exact op_notInD hu pins s σ H _ _ _ _ Q I r1 r2 ⟨d, ds, by rw [hK]; exact a1, by rw [hK]; exact b1, shaped_of a2 a3, shaped_of b2 b3, post_ok P S (.bl _)⟩
  have dct : ∀ {n : Nat}, n < h.length → u = .ref (ρ n) → y = .ref n → (PostG T (RV T) E ρ h H ((match h[n]? with
        | some (.dic kvs) => if isKey x then (.ok (findK kvs x).isSome h : R Bool) else .bad
        | _ => .bad).bind fun b h => .ok (.bl (ng neg b)) h) Q) → wpAny (model X.prog X.w) X.A (compareOp op a b) (EP X pins σ Q) X.xe s := by
    intro n hn eu ey Pd
    subst eu ey
    clear P
    split at Pd
    · rename_i kvs e
      split at Pd
      · rename_i hk
        obtain ⟨zs, q1, q2⟩ := S.dic e
        obtain ⟨k, rfl⟩ := key_of' rx hk
        obtain rfl : b = Value.ref (ρ n) := r2
        have g : DGet H (ρ n) (kV k) (valV zs k) := .k q1
        have eb : (valV zs k).isSome = (findK kvs x).isSome := by
          rcases find_rel rx q2 with ⟨e1, e2⟩ | ⟨x, y, e1, e2, _⟩ <;> rw [e1, e2] <;> rfl
        rcases hop with ⟨rfl, rfl⟩ | ⟨rfl, rfl⟩
        · exact d_in (by omega) I g r1 fun s' I' => ⟨.bl _, H, I', rfl, by rw [eb]; exact post_ok Pd S (.bl _)⟩
        · exact d_notIn (by omega) I g r1 fun s' I' => ⟨.bl _, H, I', rfl, by rw [eb]; exact post_ok Pd S (.bl _)⟩
      · exact Pd.elim
    · exact Pd.elim
  cases ry with
  | str yy oy => cases rx with
    | str xx ox =>
      have P' : PostG T (RV T) E ρ h H (.ok (.bl (ng neg (isIn xx yy))) h) Q := P
      rw [← isIn_eq] at P'
      rcases hop with ⟨rfl, rfl⟩ | ⟨rfl, rfl⟩
      · exact op_in_str pins s σ H _ _ _ _ Q I r1 r2 ⟨_, _, rfl, rfl, post_ok P' S (.bl _)⟩
      · exact op_notin_str pins s σ H _ _ _ _ Q I r1 r2 ⟨_, _, rfl, rfl, post_ok P' S (.bl _)⟩
    | _ =>
      unfold inW at P
      dsimp only at P
      split at P
      · rename_i d ds e1 e2
        exact dat e1 e2 P
      · exact P.elim
  | tup sy ry =>
    rename_i ws p vs
    have P' : PostG T (RV T) E ρ h H ((if flatW x && ws.all flatW then (.ok (ws.any fun z => eqF z x) h : R Bool) else .bad).bind fun b h => .ok (.bl (ng neg b)) h) Q := by
      cases x <;> exact P
    split at P'
    · rename_i hf
      obtain ⟨f1, f2⟩ := Bool.and_eq_true_iff.mp hf
      obtain ⟨q1, q2⟩ := inV_eq rx f1 ry f2
      have P2 : PostG T (RV T) E ρ h H (.ok (.bl (ng neg (inV v vs))) h) Q := by
        rw [q1]
        exact P'
      rcases hop with ⟨rfl, rfl⟩ | ⟨rfl, rfl⟩
      · exact op_in_seq pins s σ H _ _ _ _ Q I r1 r2 ⟨_, _, rfl, .inr (by rw [hK]; exact sy), flat_of rx f1, q2, post_ok P2 S (.bl _)⟩
      · exact op_notIn_seq pins s σ H _ _ _ _ Q I r1 r2 ⟨_, _, rfl, .inr (by rw [hK]; exact sy), flat_of rx f1, q2, post_ok P2 S (.bl _)⟩
    · exact P'.elim
  | con sy ry =>
    rename_i ws p vs
    have P' : PostG T (RV T) E ρ h H ((match toD h 30 x, toD h 30 (.con ws) with
      | some d, some (.list ds) => (.ok (ds.any fun z => PyData.eqv z d) h : R Bool)
      | _, _ => .bad).bind fun b h => .ok (.bl (ng neg b)) h) Q := by
      cases x <;> exact P
    split at P'
    · rename_i d ds e1 e2
      exact dat e1 e2 P'
    · exact P'.elim
  | ref hn =>
    rename_i n
    have P' : PostG T (RV T) E ρ h H ((match toD h 30 x, toD h 30 (.ref n) with
      | some d, some (.list ds) => (.ok (ds.any fun z => PyData.eqv z d) h : R Bool)
      | _, _ => match h[n]? with
        | some (.dic kvs) => if isKey x then .ok (findK kvs x).isSome h else .bad
        | _ => .bad).bind fun b h => .ok (.bl (ng neg b)) h) Q := by
      cases x <;> exact P
    split at P'
    · rename_i d ds e1 e2
      exact dat e1 e2 P'
    · exact dct hn rfl rfl P'
  | non =>
    have P' : PostG T (RV T) E ρ h H ((match toD h 30 x, toD h 30 .non with
      | some d, some (.list ds) => (.ok (ds.any fun z => PyData.eqv z d) h : R Bool)
      | _, _ => .bad).bind fun b h => .ok (.bl (ng neg b)) h) Q := by
      cases x <;> exact P
    split at P'
    · rename_i d ds e1 e2
      exact dat e1 e2 P'
    · exact P'.elim
  | bl bb =>
    have P' : PostG T (RV T) E ρ h H ((match toD h 30 x, toD h 30 (.bl bb) with
      | some d, some (.list ds) => (.ok (ds.any fun z => PyData.eqv z d) h : R Bool)
      | _, _ => .bad).bind fun b h => .ok (.bl (ng neg b)) h) Q := by
      cases x <;> exact P
    split at P'
    · rename_i d ds e1 e2
      exact dat e1 e2 P'
    · exact P'.elim
  | int bb =>
    have P' : PostG T (RV T) E ρ h H ((match toD h 30 x, toD h 30 (.int bb) with
      | some d, some (.list ds) => (.ok (ds.any fun z => PyData.eqv z d) h : R Bool)
      | _, _ => .bad).bind fun b h => .ok (.bl (ng neg b)) h) Q := by
      cases x <;> exact P
    split at P'
    · rename_i d ds e1 e2
      exact dat e1 e2 P'
    · exact P'.elim
theorem opR_in (hK : X.K = T.K) (hu : X.A.units + 65 < cLine) : OpR X (compareOp .In) (rO T .isin) := by
  intro pins s σ H v u a b Q I r1 r2 ⟨E, ρ, h, x, y, S, rx, ry, P⟩
  exact in_core (neg := false) (f := .bl) hK hu (.inl ⟨rfl, rfl⟩) I r1 r2 S rx ry P
theorem opR_notin (hK : X.K = T.K) (hu : X.A.units + 65 < cLine) : OpR X (compareOp .NotIn) (rO T .notin) := by
  intro pins s σ H v u a b Q I r1 r2 ⟨E, ρ, h, x, y, S, rx, ry, P⟩
  exact in_core (neg := true) (f := .bl) hK hu (.inr ⟨rfl, rfl⟩) I r1 r2 S rx ry (by
    have P' : PostG T (RV T) E ρ h H (bR ((inW x y h).bind fun b h => .ok (!b) h)) Q := P
    unfold bR at P'
    cases e : inW x y h <;> rw [e] at P' <;> exact P')
end
end DM

/-! The deep machine: truth, places, built-in functions and methods, by values. -/
namespace DM
open PySem L2 PySem.Spec PyProof.Rows
abbrev RB : (Nat → Addr) → Mem → Hp → Bool → Bool → Prop := fun _ _ _ a b => a = b
section
variable {X : Cx} {T : NT} {E : XK} {ρ : Nat → Addr} {h : Mem} {H : Hp}
theorem post_b {b : Bool} {Q : Bool → Hp → Prop} (P : PostG T RB E ρ h H (.ok b h) Q) (S : Sim T ρ h H) : Q b H := P ρ H b (Ext.refl ρ h H) S rfl
theorem lenS (x : List Nat) : (⟨x.toArray⟩ : Str).length = x.length := by
  show x.toArray.size = _
  simp
theorem tru_rel (hK : X.K = T.K) {Q : Bool → Hp → Prop} {w : W} {v : V} (S : Sim T ρ h H) (r : RW T.K ρ h.length H w v) (P : PostG T RB E ρ h H (tru w h) Q) : ∃ k, TruV X.K v H k ∧ Q k H := by
  rw [hK]
  unfold tru at P
  cases e : truW h w with
  | none =>
    rw [e] at P
    exact P.elim
  | some b =>
    rw [e] at P
    refine ⟨b, ?_, post_b P S⟩
    cases r with
    | non =>
      cases e
      rfl
    | bl c =>
      cases e
      rfl
    | int i =>
      cases e
      rfl
    | str x o =>
      cases e
      refine ⟨by rw [lenS]; exact lim_line o.1, ?_⟩
      rw [lenS]
      cases x <;> simp
      omega
    | tup s q =>
      cases e
      refine .inr (.inl ⟨_, s, ?_⟩)
      cases q <;> rfl
    | con s q =>
      cases e
      refine .inl ⟨_, s.l, ?_⟩
      cases q <;> rfl
    | ref l =>
      rename_i n
      unfold truW at e
      dsimp only at e
      cases q : h[n]? with
      | none =>
        rw [q] at e
        cases e
      | some o =>
        rw [q] at e
        cases o with
        | lst ws =>
          obtain ⟨vs, q1, q2⟩ := S.lst q
          cases e
          refine .inl ⟨_, .of q1, ?_⟩
          cases q2 <;> rfl
        | dic ws =>
          obtain ⟨zs, q1, q2⟩ := S.dic q
          cases e
          refine .inr (.inr ⟨_, q1, ?_⟩)
          cases q2 <;> rfl
        | ins _ _ => cases e
        | exc _ _ => cases e
theorem at_rel {K : PySem.W.Frag} {ρ : Nat → Addr} {N : Nat} {H : Hp} {ws : List W} {vs : List V} {i : Int} {w : W} (r : RWs K ρ N H ws vs) (e : atW ws i = some w) : ∃ v, atI vs i = some v ∧ RW K ρ N H w v := by
  unfold atW at e
  unfold atI
  obtain ⟨j, e1, e2⟩ := Option.bind_eq_some_iff.mp e
  obtain ⟨v, q1, q2⟩ := r.at e2
  refine ⟨v, ?_, q2⟩
  rw [r.length]
  unfold ixW at e1
  rw [e1]
  exact q1
theorem okS_sub {x y : List Nat} (h : okS x) (l : y.length ≤ x.length) (m : ∀ c ∈ y, c ∈ x) : okS y := ⟨Nat.le_trans l h.1, fun c hc => h.2 c (m c hc)⟩
/-- a place of a text, a tuple, a list -/
theorem ix_rel (hK : X.K = T.K) {Q : VK} {x y : W} {v u : V} (S : Sim T ρ h H) (rx : RW T.K ρ h.length H x v) (ry : RW T.K ρ h.length H y u) (nd : ∀ n kvs, x = .ref n → h[n]? ≠ some (.dic kvs)) (P : PostG T (RV T) E ρ h H (index x y h) Q) : rIx X.K v u H Q := by
  rw [hK]
  cases rx with
  | str z o => cases ry with
    | int i =>
      have P' : PostG T (RV T) E ρ h H (match (ixW z.length i).bind fun j => z[j]? with
        | some c => .ok (.str [c]) h
        | none => .bad) Q := P
      split at P'
      · rename_i c e
        refine .inr (.inr ⟨_, i, c, rfl, rfl, by rw [lenS]; exact lim_line o.1, ?_, ?_⟩)
        · show (ixN z.toArray.toList.length i).bind _ = _
          unfold ixW at e
          simpa using e
        · obtain ⟨j, _, e2⟩ := Option.bind_eq_some_iff.mp e
          have hc : c ∈ z := List.mem_of_getElem? e2
          have q := post_ok P' S (.str [c] (okS_sub o (by
            have := List.length_pos_of_mem hc
            show 1 ≤ z.length
            omega) (by simpa using hc)))
          exact q
      · exact P'.elim
    | _ => exact P.elim
  | tup s q => cases ry with
    | int i =>
      rename_i ws a vs
      have P' : PostG T (RV T) E ρ h H (match atW ws i with
        | some v => .ok v h
        | none => .bad) Q := P
      split at P'
      · rename_i w e
        obtain ⟨v, e1, e2⟩ := at_rel q e
        exact .inr (.inl ⟨_, _, i, v, rfl, rfl, s, e1, post_ok P' S e2⟩)
      · exact P'.elim
    | _ => exact P.elim
  | con s q => cases ry with
    | int i =>
      rename_i ws a vs
      have P' : PostG T (RV T) E ρ h H (match atW ws i with
        | some v => .ok v h
        | none => .bad) Q := P
      split at P'
      · rename_i w e
        obtain ⟨v, e1, e2⟩ := at_rel q e
        exact .inl ⟨_, _, i, v, rfl, rfl, s.l, e1, post_ok P' S e2⟩
      · exact P'.elim
    | _ => exact P.elim
  | ref l =>
    rename_i n
    cases q : h[n]? with
    | none =>
      have P' : PostG T (RV T) E ρ h H (index (.ref n) y h) Q := P
      unfold index at P'
      simp only [q] at P'
      cases y <;> exact P'.elim
    | some o =>
      cases o with
      | lst ws =>
        obtain ⟨vs, q1, q2⟩ := S.lst q
        cases ry with
        | int i =>
          have P' : PostG T (RV T) E ρ h H (index (.ref n) (.int i) h) Q := P
          unfold index at P'
          simp only [q] at P'
          split at P'
          · rename_i w e
            obtain ⟨v, e1, e2⟩ := at_rel q2 e
            exact .inl ⟨_, _, i, v, rfl, rfl, .of q1, e1, post_ok P' S e2⟩
          · exact P'.elim
        | _ =>
          unfold index at P
          simp only [q] at P
          exact P.elim
      | dic kvs => exact absurd q (nd n kvs rfl)
      | ins _ _ =>
        have P' : PostG T (RV T) E ρ h H (index (.ref n) y h) Q := P
        unfold index at P'
        simp only [q] at P'
        cases y <;> exact P'.elim
      | exc _ _ =>
        have P' : PostG T (RV T) E ρ h H (index (.ref n) y h) Q := P
        unfold index at P'
        simp only [q] at P'
        cases y <;> exact P'.elim
  | non => cases y <;> exact P.elim
  | bl _ => cases y <;> exact P.elim
  | int _ => cases y <;> exact P.elim
theorem cut_rel {K : PySem.W.Frag} {ρ : Nat → Addr} {N : Nat} {H : Hp} {ws : List W} {vs : List V} (r : RWs K ρ N H ws vs) (lo hi : Option Int) : RWs K ρ N H (cutW ws lo hi) (cutV vs lo hi) := by
  unfold cutW cutV
  rw [r.length]
  exact (r.drop _).take _
def rSl (T : NT) : V → Option Int → Option Int → Hp → VK → Prop := fun v lo hi H Q => ∃ E ρ h x, Sim T ρ h H ∧ RW T.K ρ h.length H x v ∧ PostG T (RV T) E ρ h H (slice x lo hi h) Q
theorem cut_all {α : Type} (xs : List α) (lo hi : Option Int) (e : HT.sIx xs.length 0 lo = 0 ∧ HT.sIx xs.length xs.length hi = xs.length) : cutW xs lo hi = xs := by
  unfold cutW
  rw [e.1, e.2]
  simp
theorem slR (hK : X.K = T.K) : SlR X (rSl T) := by
  intro pins s σ H x v vl vu lo hi sl Q I r1 hs pl pu ⟨E, ρ, h, w, S, rx, P⟩
  cases rx with
  | str z o =>
    refine sl_str pins s σ H _ v vl vu lo hi sl Q I r1 hs pl pu ⟨_, rfl, by rw [lenS]; exact lim_line o.1, ?_⟩
    have e : cutS (⟨z.toArray⟩ : Str) lo hi = ⟨(cutW z lo hi).toArray⟩ := by
      unfold cutS cutW
      rw [lenS]
    rw [e]
    have ml : ∀ c ∈ cutW z lo hi, c ∈ z := fun c hc => List.mem_of_mem_drop (List.mem_of_mem_take hc)
    refine post_ok P S (.str _ (okS_sub o ?_ ml))
    unfold cutW
    rw [List.length_take]; rw [List.length_drop]
    omega
  | tup sx q =>
    rename_i ws a vs
    refine sl_tupA pins s σ H _ v vl vu lo hi sl Q I r1 hs pl pu ⟨_, _, rfl, by rw [hK]; exact sx, fun e => ?_, fun _ p hp => post_tup S (cut_rel q lo hi) P p hp⟩
    have P' : PostG T (RV T) E ρ h H (.ok (.tup (cutW ws lo hi)) h) Q := P
    rw [cut_all ws lo hi (by rw [← q.length]; exact e)] at P'
    exact post_ok P' S (.tup sx q)
  | con sx q => exact sl_list pins s σ H _ v vl vu lo hi sl Q I r1 hs pl pu ⟨_, _, rfl, by rw [hK]; exact sx.l, fun p hp => post_lst S (cut_rel q lo hi) P p hp⟩
  | ref l =>
    rename_i n
    cases e : h[n]? with
    | none =>
      have P' : PostG T (RV T) E ρ h H (slice (.ref n) lo hi h) Q := P
      unfold slice getL at P'
      simp only [e] at P'
      exact P'.elim
    | some o =>
      have P' : PostG T (RV T) E ρ h H (slice (.ref n) lo hi h) Q := P
      unfold slice getL at P'
      simp only [e] at P'
      cases o with
      | lst ws =>
        obtain ⟨vs, q1, q2⟩ := S.lst e
        exact sl_list pins s σ H _ v vl vu lo hi sl Q I r1 hs pl pu ⟨_, _, rfl, .of q1, fun p hp => post_lst S (cut_rel q2 lo hi) P' p hp⟩
      | _ => exact P'.elim
  | _ => exact P.elim
/-! ### built-in functions -/
def rBI (T : NT) (f : BI) : List V → Hp → VK → Prop := fun vs H Q => ∃ E ρ h ws, Sim T ρ h H ∧ RWs T.K ρ h.length H ws vs ∧ PostG T (RV T) E ρ h H (biS f ws h) Q
/-- a list that is read -/
theorem getL_rel {w : W} {v : V} {ws : List W} (S : Sim T ρ h H) (r : RW T.K ρ h.length H w v) (e : getL h w = some ws) : ∃ a vs, v = .ref a ∧ SqL T.K H a vs ∧ RWs T.K ρ h.length H ws vs := by
  cases r with
  | con s q =>
    cases e
    exact ⟨_, _, rfl, s.l, q⟩
  | ref l =>
    rename_i n
    unfold getL at e
    dsimp only at e
    cases q : h[n]? with
    | none =>
      rw [q] at e
      cases e
    | some o =>
      rw [q] at e
      cases o with
      | lst xs =>
        cases e
        obtain ⟨vs, q1, q2⟩ := S.lst q
        exact ⟨_, _, rfl, .of q1, q2⟩
      | _ => cases e
  | _ => cases e
theorem bi_len (hK : X.K = T.K) : CallR X (.builtin "len") (rBI T .len) := by
  intro pins s σ H vs us Q I r ⟨E, ρ, h, ws, S, rs, P⟩
  cases rs with
  | nil => exact P.elim
  | cons r1 r2 => cases r2 with
    | cons _ _ => cases r1 <;> exact P.elim
    | nil => cases r1 with
      | str z o =>
        refine call_len pins s σ H _ us Q I r ⟨_, _, rfl, ⟨by rw [lenS]; exact lim_line o.1, rfl⟩, ?_⟩
        rw [lenS]
        exact post_ok P S (.int _)
      | tup sx q =>
        refine call_len pins s σ H _ us Q I r ⟨_, _, rfl, .inr ⟨_, by rw [hK]; exact sx, rfl⟩, ?_⟩
        rw [q.length]
        exact post_ok P S (.int _)
      | con sx q =>
        refine call_len pins s σ H _ us Q I r ⟨_, _, rfl, .inl ⟨_, by rw [hK]; exact sx.l, rfl⟩, ?_⟩
        rw [q.length]
        exact post_ok P S (.int _)
      | ref l =>
        rename_i n
        have P' : PostG T (RV T) E ρ h H (biS .len [.ref n] h) Q := P
        unfold biS at P'
        dsimp only at P'
        cases e : h[n]? with
        | none =>
          rw [e] at P'
          exact P'.elim
        | some o =>
          rw [e] at P'
          cases o with
          | lst xs =>
            obtain ⟨zs, q1, q2⟩ := S.lst e
            refine call_len pins s σ H _ us Q I r ⟨_, _, rfl, .inl ⟨_, .of q1, rfl⟩, ?_⟩
            rw [q2.length]
            exact post_ok P' S (.int _)
          | dic xs =>
            obtain ⟨zs, q1, q2⟩ := S.dic e
            refine call_lenD pins s σ H _ us Q I r ⟨_, _, rfl, q1, ?_⟩
            rw [← q2.len]
            exact post_ok P' S (.int _)
          | ins _ _ => exact P'.elim
          | exc _ _ => exact P'.elim
      | _ => exact P.elim
theorem maxL_ge : ∀ (r : List Int) (m : Int), m ≤ maxL m r ∧ ∀ y ∈ r, y ≤ maxL m r
  | [], m => ⟨Int.le_refl _, fun y hy => by cases hy⟩
  | x :: r, m => by
    unfold maxL
    obtain ⟨a, b⟩ := maxL_ge r (if x > m then x else m)
    by_cases c : x > m
    · rw [if_pos c] at a b ⊢
      refine ⟨by omega, fun y hy => ?_⟩
      rcases List.mem_cons.mp (hy) with e | hy
      · rw [e]
        exact a
      · exact b y hy
    · rw [if_neg c] at a b ⊢
      refine ⟨a, fun y hy => ?_⟩
      rcases List.mem_cons.mp (hy) with e | hy
      · rw [e]
        omega
      · exact b y hy
theorem maxL_mem : ∀ (r : List Int) (m : Int), maxL m r ∈ m :: r
  | [], m => List.mem_cons_self
  | x :: r, m => by
    unfold maxL
    have q := maxL_mem r (if x > m then x else m)
    rcases List.mem_cons.mp q with e | e
    · rw [e]
      split
      · exact List.mem_cons_of_mem _ List.mem_cons_self
      · exact List.mem_cons_self
    · exact List.mem_cons_of_mem _ (List.mem_cons_of_mem _ e)
theorem minL_le : ∀ (r : List Int) (m : Int), minL m r ≤ m ∧ ∀ y ∈ r, minL m r ≤ y
  | [], m => ⟨Int.le_refl _, fun y hy => by cases hy⟩
  | x :: r, m => by
    unfold minL
    obtain ⟨a, b⟩ := minL_le r (if x < m then x else m)
    by_cases c : x < m
    · rw [if_pos c] at a b ⊢
      refine ⟨by omega, fun y hy => ?_⟩
      rcases List.mem_cons.mp (hy) with e | hy
      · rw [e]
        exact a
      · exact b y hy
    · rw [if_neg c] at a b ⊢
      refine ⟨a, fun y hy => ?_⟩
      rcases List.mem_cons.mp (hy) with e | hy
      · rw [e]
        omega
      · exact b y hy
theorem minL_mem : ∀ (r : List Int) (m : Int), minL m r ∈ m :: r
  | [], m => List.mem_cons_self
  | x :: r, m => by
    unfold minL
    have q := minL_mem r (if x < m then x else m)
    rcases List.mem_cons.mp q with e | e
    · rw [e]
      split
      · exact List.mem_cons_of_mem _ List.mem_cons_self
      · exact List.mem_cons_self
    · exact List.mem_cons_of_mem _ (List.mem_cons_of_mem _ e)
/-- of one list -/
theorem one_list {f : BI} {g : List W → R W} {vs : List V} {us : List Value} {Q : VK} {ws : List W} {R : Prop} (S : Sim T ρ h H) (rs : RWs T.K ρ h.length H ws vs) (P : PostG T (RV T) E ρ h H (match (generalizing := false) ws with
    | [x] => match getL h x with
      | some xs => g xs
      | none => .bad
    | _ => .bad) Q) (k : ∀ a zs xs, vs = [.ref a] → SqL T.K H a zs → RWs T.K ρ h.length H xs zs → PostG T (RV T) E ρ h H (g xs) Q → R) : R := by
  cases rs with
  | nil => exact P.elim
  | cons r1 r2 => cases r2 with
    | cons _ _ => exact P.elim
    | nil =>
      dsimp only at P
      split at P
      · rename_i xs e
        obtain ⟨a, zs, rfl, q1, q2⟩ := getL_rel S r1 e
        exact k a zs xs rfl q1 q2 P
      · exact P.elim
theorem bi_sum (hK : X.K = T.K) (hc : X.calm = true) : CallR X (.builtin "sum") (rBI T .sum) := by
  intro pins s σ H vs us Q I r ⟨E, ρ, h, ws, S, rs, P⟩
  refine one_list (f := .sum) (us := us) (g := fun xs => match intsOf xs with
        | some ns => .ok (.int ns.sum) h
        | none => .bad) S rs P fun a zs xs e q1 q2 P => ?_
  subst e
  split at P
  · rename_i ns e
    have e2 := q2.intsOf e
    subst e2
    exact cr_sum hc pins s σ H _ us Q I r ⟨a, ns, rfl, by rw [hK]; exact q1, post_ok P S (.int _)⟩
  · exact P.elim
theorem bi_all (hK : X.K = T.K) (hc : X.calm = true) : CallR X (.builtin "all") (rBI T .all) := by
  intro pins s σ H vs us Q I r ⟨E, ρ, h, ws, S, rs, P⟩
  refine one_list (f := .all) (us := us) (g := fun xs => match blsOf xs with
        | some ns => .ok (.bl (ns.all id)) h
        | none => .bad) S rs P fun a zs xs e q1 q2 P => ?_
  subst e
  split at P
  · rename_i ns e
    have e2 := q2.blsOf e
    subst e2
    exact cr_all hc pins s σ H _ us Q I r ⟨a, ns, rfl, by rw [hK]; exact q1, post_ok P S (.bl _)⟩
  · exact P.elim
theorem bi_any (hK : X.K = T.K) (hc : X.calm = true) : CallR X (.builtin "any") (rBI T .any) := by
  intro pins s σ H vs us Q I r ⟨E, ρ, h, ws, S, rs, P⟩
  refine one_list (f := .any) (us := us) (g := fun xs => match blsOf xs with
        | some ns => .ok (.bl (ns.any id)) h
        | none => .bad) S rs P fun a zs xs e q1 q2 P => ?_
  subst e
  split at P
  · rename_i ns e
    have e2 := q2.blsOf e
    subst e2
    exact cr_any hc pins s σ H _ us Q I r ⟨a, ns, rfl, by rw [hK]; exact q1, post_ok P S (.bl _)⟩
  · exact P.elim
theorem bi_max (hK : X.K = T.K) (hc : X.calm = true) : CallR X (.builtin "max") (rBI T .max) := by
  intro pins s σ H vs us Q I r ⟨E, ρ, h, ws, S, rs, P⟩
  cases rs with
  | nil => exact P.elim
  | cons r1 r2 => cases r2 with
    | cons r2 r3 => cases r3 with
      | cons _ _ => cases r1 <;> cases r2 <;> exact P.elim
      | nil => cases r1 with
        | int i => cases r2 with
          | int j => exact call_max2 hc pins s σ H _ us Q I r ⟨i, j, rfl, post_ok P S (.int _)⟩
          | _ => exact P.elim
        | _ => exact P.elim
    | nil =>
      rename_i w v
      have P' : PostG T (RV T) E ρ h H (match getL h w with
        | some xs => match intsOf xs with
          | some (x :: r) => .ok (.int (maxL x r)) h
          | _ => .bad
        | none => .bad) Q := by
        cases w <;> exact P
      split at P'
      · rename_i xs e
        obtain ⟨a, zs, rfl, q1, q2⟩ := getL_rel S r1 e
        split at P'
        · rename_i x l e1
          have e2 := q2.intsOf e1
          subst e2
          refine cr_max hc pins s σ H _ us Q I r ⟨a, x :: l, rfl, by rw [hK]; exact q1, by simp, fun m hm hy => ?_⟩
          have g := maxL_ge l x
          have e3 : m = maxL x l := by
            have a1 := hy _ (maxL_mem l x)
            rcases List.mem_cons.mp (hm) with e | hm
            · have := g.1
              omega
            · have := g.2 m hm
              omega
          rw [e3]
          exact post_ok P' S (.int _)
        · exact P'.elim
      · exact P'.elim
theorem bi_min (hK : X.K = T.K) (hc : X.calm = true) : CallR X (.builtin "min") (rBI T .min) := by
  intro pins s σ H vs us Q I r ⟨E, ρ, h, ws, S, rs, P⟩
  cases rs with
  | nil => exact P.elim
  | cons r1 r2 => cases r2 with
    | cons r2 r3 => cases r3 with
      | cons _ _ => cases r1 <;> cases r2 <;> exact P.elim
      | nil => cases r1 with
        | int i => cases r2 with
          | int j => exact call_min2 hc pins s σ H _ us Q I r ⟨i, j, rfl, post_ok P S (.int _)⟩
          | _ => exact P.elim
        | _ => exact P.elim
    | nil =>
      rename_i w v
      have P' : PostG T (RV T) E ρ h H (match getL h w with
        | some xs => match intsOf xs with
          | some (x :: r) => .ok (.int (minL x r)) h
          | _ => .bad
        | none => .bad) Q := by
        cases w <;> exact P
      split at P'
      · rename_i xs e
        obtain ⟨a, zs, rfl, q1, q2⟩ := getL_rel S r1 e
        split at P'
        · rename_i x l e1
          have e2 := q2.intsOf e1
          subst e2
          refine cr_min hc pins s σ H _ us Q I r ⟨a, x :: l, rfl, by rw [hK]; exact q1, by simp, fun m hm hy => ?_⟩
          have g := minL_le l x
          have e3 : m = minL x l := by
            have a1 := hy _ (minL_mem l x)
            rcases List.mem_cons.mp (hm) with e | hm
            · have := g.1
              omega
            · have := g.2 m hm
              omega
          rw [e3]
          exact post_ok P' S (.int _)
        · exact P'.elim
      · exact P'.elim
theorem bi_abs (hK : X.K = T.K) : CallR X (.builtin "abs") (rBI T .abs) := by
  intro pins s σ H vs us Q I r ⟨E, ρ, h, ws, S, rs, P⟩
  cases rs with
  | nil => exact P.elim
  | cons r1 r2 => cases r2 with
    | cons _ _ => cases r1 <;> exact P.elim
    | nil => cases r1 with
      | int i => exact call_abs pins s σ H _ us Q I r ⟨i, rfl, post_ok P S (.int _)⟩
      | _ => exact P.elim
theorem bi_divmod (hK : X.K = T.K) : CallR X (.builtin "divmod") (rBI T .divmod) := by
  intro pins s σ H vs us Q I r ⟨E, ρ, h, ws, S, rs, P⟩
  cases rs with
  | nil => exact P.elim
  | cons r1 r2 => cases r2 with
    | nil => cases r1 <;> exact P.elim
    | cons r2 r3 => cases r3 with
      | cons _ _ => cases r1 <;> cases r2 <;> exact P.elim
      | nil => cases r1 with
        | int i => cases r2 with
          | int j =>
            have P' : PostG T (RV T) E ρ h H (if 0 < j ∧ j < 1073741824 then .ok (.tup [.int (i / j), .int (i % j)]) h else .bad) Q := P
            split at P'
            · rename_i hj
              exact call_divmod pins s σ H _ us Q I r ⟨i, j, rfl, hj, fun p hp => post_tup S (.cons (.int _) (.cons (.int _) .nil)) P' p hp⟩
            · exact P'.elim
          | _ => exact P.elim
        | _ => exact P.elim
theorem bi_list (hK : X.K = T.K) : CallR X (.type "list") (rBI T .list) := by
  intro pins s σ H vs us Q I r ⟨E, ρ, h, ws, S, rs, P⟩
  cases rs with
  | nil => exact P.elim
  | cons r1 r2 => cases r2 with
    | cons _ _ => exact P.elim
    | nil =>
      rename_i w v
      have P' : PostG T (RV T) E ρ h H (match seqOf h w with
        | some xs => alloc (.lst xs) h
        | none => .bad) Q := P
      split at P'
      · rename_i xs e
        cases r1 with
        | tup sx q =>
          cases e
          exact call_list_of pins s σ H _ us Q I r ⟨_, _, rfl, .inr (by rw [hK]; exact sx), fun p hp => post_lst S q P' p hp⟩
        | con sx q =>
          cases e
          exact call_list_of pins s σ H _ us Q I r ⟨_, _, rfl, .inl (by rw [hK]; exact sx.l), fun p hp => post_lst S q P' p hp⟩
        | ref l =>
          obtain ⟨a, zs, e1, q1, q2⟩ := getL_rel S (.ref l) e
          exact call_list_of pins s σ H _ us Q I r ⟨a, _, by rw [e1], .inl (by rw [hK]; exact q1), fun p hp => post_lst S q2 P' p hp⟩
        | _ => cases e
      · exact P'.elim
theorem bi_tuple (hK : X.K = T.K) : CallR X (.type "tuple") (rBI T .tuple) := by
  intro pins s σ H vs us Q I r ⟨E, ρ, h, ws, S, rs, P⟩
  cases rs with
  | nil => exact P.elim
  | cons r1 r2 => cases r2 with
    | cons _ _ => cases r1 <;> exact P.elim
    | nil =>
      rename_i w v
      have go : ∀ xs, getL h w = some xs → PostG T (RV T) E ρ h H (.ok (.tup xs) h) Q → wpAny (model X.prog X.w) X.A (call (.type "tuple") us) (EP X pins σ Q) X.xe s := by
        intro xs e P
        obtain ⟨a, zs, e1, q1, q2⟩ := getL_rel S r1 e
        exact call_tuple_of pins s σ H _ us Q I r ⟨a, _, by rw [e1], .inl ⟨by rw [hK]; exact q1, fun p hp => post_tup S q2 P p hp⟩⟩
      cases r1 with
      | tup sx q => exact call_tuple_of pins s σ H _ us Q I r ⟨_, _, rfl, .inr ⟨by rw [hK]; exact sx, post_ok P S (.tup sx q)⟩⟩
      | con sx q => exact go _ rfl P
      | ref l =>
        rename_i n
        have P' : PostG T (RV T) E ρ h H (match getL h (.ref n) with
          | some xs => .ok (.tup xs) h
          | none => .bad) Q := P
        split at P'
        · rename_i xs e
          exact go xs e P'
        · exact P'.elim
      | _ => exact P.elim
theorem bi_int (hK : X.K = T.K) : CallR X (.type "int") (rBI T .int) := by
  intro pins s σ H vs us Q I r ⟨E, ρ, h, ws, S, rs, P⟩
  cases rs with
  | nil => exact P.elim
  | cons r1 r2 => cases r2 with
    | cons _ _ => cases r1 <;> exact P.elim
    | nil => cases r1 with
      | int i => exact call_int1 pins s σ H _ us Q I r (.inl ⟨i, rfl, post_ok P S (.int _)⟩)
      | bl b => exact call_int1 pins s σ H _ us Q I r (.inr ⟨b, rfl, post_ok P S (.int _)⟩)
      | _ => exact P.elim
theorem bi_bool (hK : X.K = T.K) : CallR X (.type "bool") (rBI T .bool) := by
  intro pins s σ H vs us Q I r ⟨E, ρ, h, ws, S, rs, P⟩
  cases rs with
  | nil => exact P.elim
  | cons r1 r2 => cases r2 with
    | cons _ _ => cases r1 <;> exact P.elim
    | nil => cases r1 with
      | int i => exact call_bool1 pins s σ H _ us Q I r (.inl ⟨i, rfl, post_ok P S (.bl _)⟩)
      | bl b => exact call_bool1 pins s σ H _ us Q I r (.inr ⟨b, rfl, post_ok P S (.bl _)⟩)
      | _ => exact P.elim
end
end DM

/-! The deep machine: expressions. -/
namespace DM
open PySem L2 PySem.Spec PyProof.Rows
def ER (K : PySem.W.Frag) (ρ : Nat → Addr) (N : Nat) (H : Hp) (env : Env) (σ : L2.St) : Prop := env.length = σ.length ∧ ∀ (i : Nat) (w : W), env[i]? = some (some w) → ∃ v, σ[i]? = some (some v) ∧ RW K ρ N H w v
theorem ER.mono {K : PySem.W.Frag} {ρ ρ' : Nat → Addr} {h h' : Mem} {H H' : Hp} {env : Env} {σ : L2.St} (r : ER K ρ h.length H env σ) (e : Ext K ρ h H ρ' h' H') : ER K ρ' h'.length H' env σ :=
  ⟨r.1, fun i w q => let ⟨v, a, b⟩ := r.2 i w q; ⟨v, a, b.mono e⟩⟩
section
variable {X : Cx} {x : Expr}
theorem PE.of {t t' : TE} (h : PE X x t) (i : ∀ σ H Q, t' σ H Q → t σ H Q) : PE X x t' := ⟨fun pins s σ H Q I q => h.run pins s σ H Q I (i σ H Q q)⟩
theorem PT.of {t t' : TT} (h : PT X x t) (i : ∀ σ H Q, t' σ H Q → t σ H Q) : PT X x t' := ⟨fun pins s σ H Q I q => h.run pins s σ H Q I (i σ H Q q)⟩
theorem PW.of {t t' : TT} (h : PW X x t) (i : ∀ σ H Q, t' σ H Q → t σ H Q) : PW X x t' := ⟨fun wh pins s σ H Q I q => h.run wh pins s σ H Q I (i σ H Q q)⟩
end
/-- the reading of code of the machine: r is what it comes to -/
def tM {α β : Type} (T : NT) (Wx : WX) (Rl : (Nat → Addr) → Mem → Hp → α → β → Prop) (f : Env → Mem → R α) : L2.St → Hp → (β → Hp → Prop) → Prop := fun σ H Q => ∃ ρ h env, Sim T ρ h H ∧ ER T.K ρ h.length H env σ ∧ PostG T Rl (WE Wx σ) ρ h H (f env h) Q
abbrev tE (T : NT) (Wx : WX) (cs : Tab) (e : E) : TE := tM T Wx (RV T) (ev cs e)
abbrev tT (T : NT) (Wx : WX) (cs : Tab) (e : E) : TT := tM T Wx RB (tst cs e)
abbrev tEs (T : NT) (Wx : WX) (cs : Tab) (e : Es) : TA := tM T Wx (RVs T) (evs cs e)
section
variable {α β γ δ : Type} {T : NT} {Wx : WX} {Rl : (Nat → Addr) → Mem → Hp → α → β → Prop} {Rl' : (Nat → Addr) → Mem → Hp → γ → δ → Prop} {f : Env → Mem → R α} {g : Env → α → Mem → R γ}
/-- one thing, then another -/
theorem tM.bind {σ : L2.St} {H : Hp} {Q : δ → Hp → Prop} (q : tM T Wx Rl' (fun env h => (f env h).bind (g env)) σ H Q) :
    tM T Wx Rl f σ H fun b H1 => ∃ ρ1 h1 env a, Sim T ρ1 h1 H1 ∧ ER T.K ρ1 h1.length H1 env σ ∧ Rl ρ1 h1 H1 a b ∧ PostG T Rl' (WE Wx σ) ρ1 h1 H1 (g env a h1) Q := by
  obtain ⟨ρ, h, env, S, r, P⟩ := q
  exact ⟨ρ, h, env, S, r, P.bind.imp fun b H' ⟨ρ1, h1, a, _, e, s, rl, p⟩ => ⟨ρ1, h1, env, a, s, r.mono e, rl, p⟩⟩
end
/-! ### what stands where -/
/-- names and constants of the text -/
structure Nm where
  fn : List (Nat × Str)
  gl : List (Str × W)
  cls : List (Nat × Str)
  mth : List ((Nat × Nat) × Str)
  na : List (Nat × Nat)
  fl : List Str
  xc : List (Nat × XD)
  xf : List Nat
  hot : Bool
/-- the names of a suite: nothing is called -/
def Nm.inSu (nm : Nm) : Nm := { nm with fn := [], mth := [], hot := true }
def bnames : List Str := ["len", "min", "max", "sum", "all", "any", "abs", "divmod", "list", "tuple", "int", "bool", "str", "isinstance", "range", "enumerate", "zip", "sorted", "dict", "ValueError"]
/-- a def keeps what the machine says of it -/
def spOf (T : NT) (n : Nat) (f : Fn) : Sp := fun vs H Q E => vs.length = n ∧ ∃ ρ h ws, Sim T ρ h H ∧ RWs T.K ρ h.length H ws vs ∧ PostG T (RV T) E ρ h H (f ws h) Q
structure FF (T : NT) (X : Cx) (lvl : Nat) (x : Str) (f : Fn) : Prop where
  ex : ∃ a fd ps, X.mg x = some (.ref a) ∧ PySem.W.keepIn X.K (.ref a) = true ∧ FnOk X.prog X.w X.K X.mg X.base (L2.CX X.prog X.w) lvl a fd ps (spOf T ps.length f) ∧ Binds X.K fd ps [] ∧ ∀ ws h, ws.length ≠ ps.length → f ws h = .bad
/-- a method keeps what the machine says of it -/
structure MF (T : NT) (X : Cx) (lvl : Nat) (C : Addr) (y : Str) (f : Fn) : Prop where
  ex : ∃ j a fd ps, j + 1 ≤ lvl ∧ Meth X.K C y a ∧ FnOk X.prog X.w X.K X.mg X.base (L2.CX X.prog X.w) j a fd ps (spOf T ps.length f) ∧ Binds X.K fd ps [] ∧ ∀ ws h, ws.length ≠ ps.length → f ws h = .bad
/-- what an exception's own __init__ does -/
def spI (C : Addr) (ys : List Str) : Sp := fun vs H Q _ => ∃ (a : Addr) (u : V) (us : List V), vs = .ref a :: u :: us ∧ us.length = ys.length ∧ H a = some (exo a C none) ∧
  ∀ dx H', H dx = none → dx ≠ a → H' a = some (exo a C (some dx)) → H' dx = some (exd dx (ys.zip us).reverse) → (∀ b, b ≠ a → b ≠ dx → H' b = H b) → Q .non H'
/-- a class of exceptions -/
structure XQ (T : NT) (K : PySem.W.Frag) (mg : Str → Option Value) (P : Program) (w : World) (base : Heap) (c : Nat) (d : XD) : Prop where
  mgd : mg d.name = some (.ref (T.cl c))
  kp : PySem.W.keepIn K (.ref (T.cl c)) = true
  xf : XfK K (T.cl c)
  ty : PySem.W.typeIn K (.ref (T.cl c)) = some (.type "type")
  ex : ∀ c' d', T.xc.lookup c' = some d' → PySem.W.exmOne K (.ref (T.cl c')) (.ref (T.cl c)) = some (d.sub.contains c') ∧ PySem.W.kitOne K (.ref (T.cl c')) (.ref (T.cl c)) = some (d.sub.contains c')
  ve : PySem.W.kitOne K (.ref (T.cl c)) (.type "ValueError") = some true
  i0 : d.ini = none → PySem.W.excIn K (T.cl c) He.veBase "ValueError.__new__" = true
  i1 : ∀ fl, d.ini = some fl → fl.length ≤ 900 ∧ OexC K (T.cl c) ∧ ∃ (ys : List Str) (fI : Addr) (fd : FuncData) (ps : List Str), Paired (fun (f : Nat) (y : Str) => T.fld[f]? = some y) fl ys ∧ PySem.W.findIn K (.ref (T.cl c)) "__init__" = some (some (.ref fI)) ∧ PySem.W.typeIn K (.ref fI) = some (.type "function") ∧
    FnOk P w K mg base (L2.CX P w) 1 fI fd ps (spI (T.cl c) ys) ∧ Binds K fd ps []
structure GX (T : NT) (nm : Nm) (cs : Tab) (Wx : WX) (lvl : Nat) (X : Cx) : Prop where
  K : X.K = T.K
  calm : nm.hot = false → X.calm = true
  nd : X.N.Nodup
  room : nm.hot = false → Room lvl X.A
  un0 : X.A.units + 16 * lvl + 200 < cLine
  hs : nm.hot = true → nm.fn = [] ∧ nm.mth = []
  tk : Takes X Wx
  po : PassesOwn (model X.prog X.w) X.A X.env X.xe
  bl : ∀ x ∈ bnames, X.mg x = none
  gl : ∀ x w, nm.gl.lookup x = some w → ∃ u v, X.mg x = some u ∧ RelV v u ∧ ∀ ρ N H, RW T.K ρ N H w v
  fn : ∀ k x, nm.fn.lookup k = some x → FF T X lvl x (cs.get (0, k))
  fl : nm.fl = T.fld
  mkc : ∀ c x, nm.cls.lookup c = some x → X.mg x = some (.ref (T.cl c)) ∧ PySem.W.makesIn X.K (T.cl c) = true ∧ PySem.W.keepIn X.K (.ref (T.cl c)) = true
  mt : ∀ c m y, nm.mth.lookup (c, m) = some y → Cls X.K (T.cl c) ∧ y ∉ T.fld ∧ MF T X lvl (T.cl c) y (cs.get (c + 1, m))
  na : ∀ c f y, (c, f) ∈ nm.na → T.fld[f]? = some y → Cls X.K (T.cl c) ∧ NoAttr X.K (T.cl c) y
  xc : nm.xc = T.xc
  xq : ∀ c d, nm.xc.lookup c = some d → XQ T X.K X.mg X.prog X.w X.base c d
  xna : ∀ c d f y, nm.xc.lookup c = some d → f ∈ nm.xf → T.fld[f]? = some y → PySem.W.findIn X.K (.ref (T.cl c)) y = some none
theorem GX.un {T : NT} {nm : Nm} {cs : Tab} {Wx : WX} {lvl : Nat} {X : Cx} (g : GX T nm cs Wx (lvl + 2) X) : X.A.units + 65 < cLine := by
  have := g.un0
  omega
theorem GX.cool {T : NT} {nm : Nm} {cs : Tab} {Wx : WX} {lvl : Nat} {X : Cx} (g : GX T nm cs Wx lvl X) {k : Nat} {x : Str} (e : nm.fn.lookup k = some x) : nm.hot = false := by
  cases h : nm.hot with
  | false => rfl
  | true =>
    rw [(g.hs h).1] at e
    cases e
theorem GX.coolm {T : NT} {nm : Nm} {cs : Tab} {Wx : WX} {lvl : Nat} {X : Cx} (g : GX T nm cs Wx lvl X) {k : Nat × Nat} {x : Str} (e : nm.mth.lookup k = some x) : nm.hot = false := by
  cases h : nm.hot with
  | false => rfl
  | true =>
    rw [(g.hs h).2] at e
    cases e
/-! ### the checker -/
def vis (sc : Scope) (x : Str) : Bool := match sc.names.lookup x with
  | some .local => true
  | some .cell => true
  | some .free => true
  | _ => false
def glb (sc : Scope) (x : Str) : Bool := match sc.names.lookup x with
  | some .globalImplicit => true
  | _ => false
def loc (sc : Scope) (x : Str) : Bool := match sc.names.lookup x with
  | some .local => true
  | some .cell => true
  | _ => false
def nodbg (x : Str) : Bool := !(x == ("__debug__" : Str)) && !(x == ("__classdict__" : Str)) && !(x == ("__name__" : Str)) && !(x == ("super" : Str))
/-- shapes of expressions that stand anywhere -/
def pl : Expr → Bool
  | .Name _ _ => true
  | .Constant _ _ _ => true
  | .BinOp _ _ _ _ => true
  | .UnaryOp _ _ _ => true
  | .BoolOp _ _ _ => true
  | .Compare _ _ _ _ => true
  | .Call (.Name x _) _ _ _ => nodbg x
  | .Call (.Attribute _ _ _) _ _ _ => true
  | .Attribute _ _ _ => true
  | .Subscript _ _ _ => true
  | .List _ _ => true
  | .Tuple _ _ _ => true
  | .Dict _ _ _ => true
  | .JoinedStr _ _ => true
  | .ListComp _ _ _ _ => true
  | _ => false
theorem pl_star {e : Expr} (p : pl e = true) (es : List Expr) (env : PySem.Env) : starEach (e :: es) env = (false, eval e env) :: starEach es env := by
  cases e <;> first | exact Bool.noConfusion p | rfl
theorem pl_stars {env : PySem.Env} {pos : Pos} : ∀ es : List Expr, es.all pl = true → (backTo pos (starEach es env)).any (·.1) = false
  | [], _ => rfl
  | e :: es, p => by
    rw [List.all_cons] at p
    obtain ⟨p1, p2⟩ := Bool.and_eq_true_iff.mp p
    rw [pl_star p1]
    have q := pl_stars (env := env) (pos := pos) es p2
    have e2 : backTo pos ((false, eval e env) :: starEach es env) = (false, eval e env) :: backTo pos (starEach es env) := rfl
    rw [e2, List.any_cons, q]
    rfl
theorem pl_mark {e : Expr} (p : pl e = true) (op : CmpOp) : behindInMarks op e = false := by
  cases e <;> first | exact Bool.noConfusion p | rfl
theorem pl_ix {e : Expr} (p : pl e = true) (o i : Value) : subscripted e false o i = operate [o, i] (getItem o i) := by
  cases e <;> first | exact Bool.noConfusion p | rfl
theorem pl_base {e : Expr} (p : pl e = true) (n : Str) (env : PySem.Env) : attributeBase e n env (eval e env) = eval e env := by
  cases e with
  | Call f as ks pos =>
    cases f with
    | Name id q =>
      cases as with
      | nil => cases ks with
        | nil =>
          have hs : (id == ("super" : Str)) = false := by
            unfold pl nodbg at p
            cases h : (id == ("super" : Str)) with
            | false => rfl
            | true => simp [h] at p
          unfold attributeBase
          have hb : (id != ("super" : Str)) = true := by rw [bne, hs]; rfl
          simp [hb]
        | cons _ _ => rfl
      | cons _ _ => rfl
    | _ => first | exact Bool.noConfusion p | rfl
  | _ => first | exact Bool.noConfusion p | rfl
theorem pl_iter {e : Expr} (p : pl e = true) (env : PySem.Env) (x : Value) : foldedSetIterable e env x = pure x := by
  cases e <;> first | exact Bool.noConfusion p | rfl

/-! ### values, names -/
section
variable {T : NT} {nm : Nm} {cs : Tab} {Wx : WX} {lvl : Nat} {X : Cx}
def nodbg1 {x : Str} (h : nodbg x = true) : (x == ("__debug__" : Str)) = false ∧ (x == ("__classdict__" : Str)) = false ∧ x ≠ "__name__" := by
  unfold nodbg at h
  simp only [Bool.not_eq_true', Bool.and_eq_true] at h
  exact ⟨h.1.1.1, h.1.1.2, fun e => by rw [e] at h; exact absurd h.1.2 (by decide)⟩
theorem vis_of {sc : Scope} {x : Str} (h : vis sc x = true) : Vis sc x := by
  unfold vis at h
  unfold Vis
  cases e : sc.names.lookup x with
  | none =>
    rw [e] at h
    cases h
  | some k =>
    rw [e] at h
    cases k <;> simp_all
theorem glb_of {x : Str} (h : glb X.env.scope x = true) : Gl X x := by
  unfold glb at h
  show X.env.scope.names.lookup x = _
  cases e : X.env.scope.names.lookup x with
  | none =>
    rw [e] at h
    cases h
  | some k =>
    rw [e] at h
    cases k <;> simp_all
theorem snd_var {i : Nat} {x : Str} {pos : Pos} (h1 : X.N[i]? = some x) (h2 : vis X.env.scope x = true) (h3 : nodbg x = true) : PE X (.Name x pos) (tE T Wx cs (.var i)) := by
  refine PE.of (pe_var h1 (vis_of h2) (nodbg1 h3).1 (nodbg1 h3).2.1) fun σ H Q ⟨ρ, h, env, S, r, P⟩ => ?_
  have P' : PostG T (RV T) (WE Wx σ) ρ h H (getVar env i h) Q := P
  unfold getVar at P'
  split at P'
  · rename_i w e
    obtain ⟨v, e2, r2⟩ := r.2 i w e
    exact ⟨v, e2, post_ok P' S r2⟩
  · exact P'.elim
/-- what a literal is -/
def litOk : W → Const → Bool
  | .int i, .int j => decide (i = j)
  | .bl a, .bool b => decide (a = b)
  | .non, .none => true
  | .str x, .str s => decide (s = ⟨x.toArray⟩) && decide (x.length ≤ LIM) && x.all (fun c => decide (c < 128))
  | _, _ => false
theorem okS_of {x : List Nat} (h1 : x.length ≤ LIM) (h2 : (x.all fun c => decide (c < 128)) = true) : okS x := ⟨h1, fun c hc => of_decide_eq_true (List.all_eq_true.mp h2 c hc)⟩
theorem snd_lit {w : W} {c : Const} {k : Nat} {pos : Pos} (h : litOk w c = true) : PE X (.Constant c k pos) (tE T Wx cs (.lit w)) := by
  cases w with
  | int i => cases c with
    | int j =>
      have e : i = j := of_decide_eq_true (h)
      subst e
      exact PE.of pe_int fun σ H Q ⟨ρ, h, env, S, r, P⟩ => post_ok P S (.int i)
    | _ => cases h
  | bl i => cases c with
    | bool j =>
      have e : i = j := of_decide_eq_true (h)
      subst e
      exact PE.of pe_bl fun σ H Q ⟨ρ, h, env, S, r, P⟩ => post_ok P S (.bl i)
    | _ => cases h
  | non => cases c with
    | none => exact PE.of pe_non fun σ H Q ⟨ρ, h, env, S, r, P⟩ => post_ok P S .non
    | _ => cases h
  | str x => cases c with
    | str s =>
      have h' : (decide (s = ⟨x.toArray⟩) && decide (x.length ≤ LIM) && x.all (fun c => decide (c < 128))) = true := h
      simp only [(Bool.and_eq_true)] at h'
      have e : s = ⟨x.toArray⟩ := of_decide_eq_true h'.1.1
      subst e
      exact PE.of pe_str fun σ H Q ⟨ρ, h, env, S, r, P⟩ => post_ok P S (.str x (okS_of (of_decide_eq_true h'.1.2) h'.2))
    | _ => cases h
  | _ => cases c <;> cases h
theorem snd_glo (g : GX T nm cs Wx lvl X) {x : Str} {y : List Nat} {w : W} {pos : Pos} (h1 : nm.gl.lookup x = some w) (h2 : glb X.env.scope x = true) (h3 : nodbg x = true) : PE X (.Name x pos) (tE T Wx cs (.glo y w)) := by
  obtain ⟨u, v, e1, e2, e3⟩ := g.gl x w h1
  exact PE.of (pe_glob (glb_of h2) e1 e2 (nodbg1 h3).1) fun σ H Q ⟨ρ, h, env, S, r, P⟩ => post_ok P S (e3 _ _ _)
/-! ### operators -/
theorem op_red {o : Op} {a b : E} {σ : L2.St} {H : Hp} {Q : VK} (q : tE T Wx cs (.op o a b) σ H Q) : tOp (rO T o) (tE T Wx cs a) (tE T Wx cs b) σ H Q := by
  obtain ⟨ρ, h, env, S, r, P⟩ := tM.bind (f := ev cs a) (g := fun env x h => (ev cs b env h).bind fun y h => op2 o x y h) q
  refine ⟨ρ, h, env, S, r, P.imp fun v H1 ⟨ρ1, h1, env1, x, S1, r1, rx, P1⟩ => ?_⟩
  refine ⟨ρ1, h1, env1, S1, r1, P1.bind.imp fun u H2 ⟨ρ2, h2, y, _, e2, S2, ry, P2⟩ => ?_⟩
  exact ⟨_, ρ2, h2, x, y, S2, rx.mono e2, ry, P2⟩
def binOf : Op → Option Operator
  | .add => some .Add
  | .sub => some .Sub
  | .mul => some .Mult
  | .fdiv => some .FloorDiv
  | .mod => some .Mod
  | .pow => some .Pow
  | .shl => some .LShift
  | .shr => some .RShift
  | .band => some .BitAnd
  | .bor => some .BitOr
  | .bxor => some .BitXor
  | _ => none
def cmpOf : Op → Option CmpOp
  | .eq => some .Eq
  | .ne => some .NotEq
  | .lt => some .Lt
  | .le => some .LtE
  | .gt => some .Gt
  | .ge => some .GtE
  | .isin => some .In
  | .notin => some .NotIn
  | .isn => some .Is
  | .notn => some .IsNot
  | _ => none
theorem bin_rule (g : GX T nm cs Wx (lvl + 2) X) : ∀ {o : Op} {op : Operator}, binOf o = some op → OpR X (binaryOp op) (rO T o)
  | .add, _, rfl => opR_add g.K
  | .sub, _, rfl => opR_sub g.K
  | .mul, _, rfl => opR_mul g.K
  | .fdiv, _, rfl => opR_fdiv g.K
  | .mod, _, rfl => opR_mod g.K
  | .pow, _, rfl => opR_pow g.K
  | .shl, _, rfl => opR_shl g.K
  | .shr, _, rfl => opR_shr g.K
  | .band, _, rfl => opR_band g.K
  | .bor, _, rfl => opR_bor g.K
  | .bxor, _, rfl => opR_bxor g.K
theorem GX.un1 (g : GX T nm cs Wx (lvl + 2) X) : X.A.units + 64 < cLine := by
  have := g.un
  omega
theorem cmp_rule (g : GX T nm cs Wx (lvl + 2) X) : ∀ {o : Op} {op : CmpOp}, cmpOf o = some op → OpR X (compareOp op) (rO T o)
  | .eq, _, rfl => opR_eq g.K g.un1
  | .ne, _, rfl => opR_ne g.K g.un1
  | .lt, _, rfl => opR_lt g.K
  | .le, _, rfl => opR_le g.K
  | .gt, _, rfl => opR_gt g.K
  | .ge, _, rfl => opR_ge g.K
  | .isin, _, rfl => opR_in g.K g.un
  | .notin, _, rfl => opR_notin g.K g.un
  | .isn, _, rfl => opR_isn g.K
  | .notn, _, rfl => opR_notn g.K
theorem snd_bin (g : GX T nm cs Wx (lvl + 2) X) {o : Op} {a b : E} {l r : Expr} {op : Operator} {pos : Pos} (ho : binOf o = some op) (ha : PE X l (tE T Wx cs a)) (hb : PE X r (tE T Wx cs b)) : PE X (.BinOp l op r pos) (tE T Wx cs (.op o a b)) :=
  PE.of (pe_op (bin_rule g ho) ha hb) fun _ _ _ q => op_red q
theorem snd_cmp (g : GX T nm cs Wx (lvl + 2) X) {o : Op} {a b : E} {l r : Expr} {op : CmpOp} {pos : Pos} (ho : cmpOf o = some op) (p : pl r = true) (ha : PE X l (tE T Wx cs a)) (hb : PE X r (tE T Wx cs b)) : PE X (.Compare l [op] [r] pos) (tE T Wx cs (.op o a b)) :=
  PE.of (pe_cmpR (cmp_rule g ho) ha hb (pl_mark p op)) fun _ _ _ q => op_red q
/-- a comparison gives a bool -/
theorem bR_bool (r : R Bool) : (∃ b m', bR r = .ok (.bl b) m') ∨ (∃ x m', bR r = .ex x m') ∨ bR r = .bad := by
  cases r with
  | ok b m => exact .inl ⟨b, m, rfl⟩
  | ex x m => exact .inr (.inl ⟨x, m, rfl⟩)
  | bad => exact .inr (.inr rfl)
theorem cmp_bool {o : Op} {op : CmpOp} (h : cmpOf o = some op) (x y : W) (m : Mem) : (∃ b m', op2 o x y m = .ok (.bl b) m') ∨ (∃ z m', op2 o x y m = .ex z m') ∨ op2 o x y m = .bad := by
  cases o <;> cases h <;> exact bR_bool _
/-- a value that is a bool, as a test -/
theorem tst_imp {e : E} {σ : L2.St} {H : Hp} {Q : Bool → Hp → Prop} (hb : ∀ env h, (∃ b h', ev cs e env h = .ok (.bl b) h') ∨ (∃ x h', ev cs e env h = .ex x h') ∨ ev cs e env h = .bad) (q : tT T Wx cs e σ H Q) : tE T Wx cs e σ H fun v H1 => ∃ c, v = .bl c ∧ Q c H1 := by
  obtain ⟨ρ, h, env, S, r, P⟩ := q
  refine ⟨ρ, h, env, S, r, ?_⟩
  have P' : PostG T RB (WE Wx σ) ρ h H ((ev cs e env h).bind tru) Q := P
  rcases hb env h with ⟨b, h', e1⟩ | ⟨x, h', e1⟩ | e1
  · rw [e1] at P' ⊢
    exact fun ρ' H' v e s q => by
      cases q
      exact ⟨b, rfl, P' ρ' H' b e s rfl⟩
  · rw [e1] at P' ⊢
    exact P'
  · rw [e1] at P'
    exact P'.elim
end
end DM

/-! The deep machine: expressions, continued. -/
namespace DM
open PySem L2 PySem.Spec PyProof.Rows
section
variable {T : NT} {nm : Nm} {cs : Tab} {Wx : WX} {lvl : Nat} {X : Cx}
theorem snd_neg {a : E} {l : Expr} {pos : Pos} (ha : PE X l (tE T Wx cs a)) : PE X (.UnaryOp .USub l pos) (tE T Wx cs (.neg a)) := by
  refine PE.of (pe_un un_neg ha) fun σ H Q q => ?_
  obtain ⟨ρ, h, env, S, r, P⟩ := tM.bind (f := ev cs a) (g := fun _ (x : W) (h : Mem) => (match x with
    | .int i => .ok (.int (-i)) h
    | _ => .bad : R W)) q
  refine ⟨ρ, h, env, S, r, P.imp fun v H1 ⟨ρ1, h1, env1, x, S1, r1, rx, P1⟩ => ?_⟩
  have rx : RW T.K ρ1 h1.length H1 x v := rx
  cases rx with
  | int i => exact ⟨i, rfl, post_ok P1 S1 (.int _)⟩
  | _ => exact P1.elim
/-! ### tests -/
/-- an expression and what it is as a test -/
structure Snd (T : NT) (Wx : WX) (cs : Tab) (X : Cx) (e : E) (x : Expr) : Prop where
  pe : PE X x (tE T Wx cs e)
  pt : PT X x (tT T Wx cs e)
  pw : ∀ op vs pos, x = .BoolOp op vs pos → PW X x (tT T Wx cs e)
/-- no and, or, not, comparison -/
def pt0 : Expr → Bool
  | .BoolOp _ _ _ => false
  | .UnaryOp .Not _ _ => false
  | .Compare _ _ _ _ => false
  | _ => true
theorem pt0_of {e : Expr} (p : pl e = true) (q : pt0 e = true) (env : PySem.Env) (whole : Sem Value) : isTrue e env whole = (do let v ← whole; standAt e.pos; holding [v] (truthy v)) := by
  cases e with
  | UnaryOp op a pos => cases op <;> first | exact Bool.noConfusion q | rfl
  | _ => first | exact Bool.noConfusion p | exact Bool.noConfusion q | rfl
theorem tru_red {e : E} {σ : L2.St} {H : Hp} {Q : Bool → Hp → Prop} (hK : X.K = T.K) (q : tT T Wx cs e σ H Q) : tE T Wx cs e σ H fun x H' => ∃ k, TruV X.K x H' k ∧ Q k H' := by
  obtain ⟨ρ, h, env, S, r, P⟩ := tM.bind (f := ev cs e) (g := fun _ => tru) q
  exact ⟨ρ, h, env, S, r, P.imp fun v H1 ⟨ρ1, h1, env1, x, S1, r1, rx, P1⟩ => tru_rel hK S1 rx P1⟩
theorem snd_plain (hK : X.K = T.K) {e : E} {x : Expr} (p : pl x = true) (q : pt0 x = true) (h : PE X x (tE T Wx cs e)) : Snd T Wx cs X e x :=
  ⟨h, PT.of (pt_truth h (pt0_of p q X.env)) fun σ H Q z => tru_red hK z, fun op vs pos e => by
    subst e
    cases q⟩
/-- what is a bool where it is a value -/
def Boo (cs : Tab) (e : E) : Prop := ∀ env h, (∃ b h', ev cs e env h = .ok (.bl b) h') ∨ (∃ x h', ev cs e env h = .ex x h') ∨ ev cs e env h = .bad
theorem cmp_boo {o : Op} {op : CmpOp} (ho : cmpOf o = some op) (a b : E) : Boo cs (.op o a b) := by
  intro env h
  show (∃ b' h', ((ev cs a env h).bind fun x h => (ev cs b env h).bind fun y h => op2 o x y h) = .ok (.bl b') h') ∨ _
  cases e : ev cs a env h with
  | ok x h1 =>
    cases e2 : ev cs b env h1 with
    | ok y h2 =>
      rcases cmp_bool ho x y h2 with ⟨b', m, q⟩ | ⟨z, m, q⟩ | q
      · exact .inl ⟨b', m, by simp [e2, q]⟩
      · exact .inr (.inl ⟨z, m, by simp [ev, e, e2, q]⟩)
      · exact .inr (.inr (by simp [ev, e, e2, q]))
    | ex z m => exact .inr (.inl ⟨z, m, by simp [ev, e, e2]⟩)
    | bad => exact .inr (.inr (by simp [ev, e, e2]))
  | ex z m => exact .inr (.inl ⟨z, m, by simp [ev, e]⟩)
  | bad => exact .inr (.inr (by simp [ev, e]))
theorem snd_cmpT (g : GX T nm cs Wx (lvl + 2) X) {o : Op} {a b : E} {l r : Expr} {op : CmpOp} {pos : Pos} (ho : cmpOf o = some op) (p : pl r = true) (ha : PE X l (tE T Wx cs a)) (hb : PE X r (tE T Wx cs b)) : Snd T Wx cs X (.op o a b) (.Compare l [op] [r] pos) :=
  ⟨snd_cmp g ho p ha hb, PT.of (pt_cmpR (cmp_rule g ho) ha hb (pl_mark p op)) fun σ H Q q => op_red (tst_imp (cmp_boo ho a b) q), fun _ _ _ e => by cases e⟩
theorem isB_imp {e : E} {f : Env → Bool → Mem → R W} {σ : L2.St} {H : Hp} {Q : VK} (q : tM T Wx (RV T) (fun env h => (ev cs e env h).bind fun x h => isB x h fun b => f env b h) σ H Q) :
    tE T Wx cs e σ H fun v H1 => ∃ c, v = .bl c ∧ ∃ ρ1 h1 env1, Sim T ρ1 h1 H1 ∧ ER T.K ρ1 h1.length H1 env1 σ ∧ PostG T (RV T) (WE Wx σ) ρ1 h1 H1 (f env1 c h1) Q := by
  obtain ⟨ρ, h, env, S, r, P⟩ := tM.bind (f := ev cs e) (g := fun env x h => isB x h fun b => f env b h) q
  refine ⟨ρ, h, env, S, r, P.imp fun v H1 ⟨ρ1, h1, env1, x, S1, r1, rx, P1⟩ => ?_⟩
  have rx : RW T.K ρ1 h1.length H1 x v := rx
  cases rx with
  | bl c => exact ⟨c, rfl, ρ1, h1, env1, S1, r1, P1⟩
  | _ => exact P1.elim
theorem isB_impT {e : E} {f : Env → Bool → Mem → R Bool} {σ : L2.St} {H : Hp} {Q : Bool → Hp → Prop} (hb : Boo cs e ∨ True) (q : tM T Wx RB (fun env h => (tst cs e env h).bind fun b h => f env b h) σ H Q) :
    tT T Wx cs e σ H fun c H1 => ∃ ρ1 h1 env1, Sim T ρ1 h1 H1 ∧ ER T.K ρ1 h1.length H1 env1 σ ∧ PostG T RB (WE Wx σ) ρ1 h1 H1 (f env1 c h1) Q := by
  obtain ⟨ρ, h, env, S, r, P⟩ := tM.bind (f := tst cs e) (g := fun env x h => f env x h) q
  refine ⟨ρ, h, env, S, r, P.imp fun v H1 ⟨ρ1, h1, env1, x, S1, r1, rx, P1⟩ => ?_⟩
  have rx : x = v := rx
  subst rx
  exact ⟨ρ1, h1, env1, S1, r1, P1⟩
/-- a test of a value that must be a bool -/
theorem tst_isB {e : E} {k : Env → Bool → Mem → R W} {env : Env} {h : Mem} {Q : Bool → Hp → Prop} {E : XK} {ρ : Nat → Addr} {H : Hp} (P : PostG T RB E ρ h H (((ev cs e env h).bind fun x h => isB x h fun b => k env b h).bind tru) Q) :
    PostG T RB E ρ h H ((tst cs e env h).bind fun b h => (k env b h).bind tru) Q := by
  unfold tst
  cases q : ev cs e env h with
  | ok x h1 =>
    rw [q] at P
    have P : PostG T RB E ρ h H ((isB x h1 fun b => k env b h1).bind tru) Q := P
    cases x with
    | bl c => exact P
    | _ => exact P.elim
  | ex z m =>
    rw [q] at P
    exact P
  | bad =>
    rw [q] at P
    exact P
theorem snd_not {a : E} {l : Expr} {pos : Pos} (ha : Snd T Wx cs X a l) : Snd T Wx cs X (.not a) (.UnaryOp .Not l pos) := by
  refine ⟨PE.of (pe_not ha.pe) fun σ H Q q => ?_, PT.of (pt_not ha.pt) fun σ H Q q => ?_, fun _ _ _ e => by cases e⟩
  · obtain ⟨ρ, h, env, S, r, P⟩ := isB_imp (e := a) (f := fun _ b h => .ok (.bl (!b)) h) q
    exact ⟨ρ, h, env, S, r, P.imp fun v H1 ⟨c, e, ρ1, h1, env1, S1, r1, P1⟩ => ⟨c, e, post_ok P1 S1 (.bl _)⟩⟩
  · obtain ⟨ρ, h, env, S, r, P⟩ := q
    have P2 := tst_isB (e := a) (k := fun _ b h => .ok (.bl (!b)) h) P
    obtain ⟨ρ, h, env, S, r, P⟩ := isB_impT (e := a) (f := fun _ b h => .ok (!b) h) (.inr trivial) ⟨ρ, h, env, S, r, P2⟩
    exact ⟨ρ, h, env, S, r, P.imp fun c H1 ⟨ρ1, h1, env1, S1, r1, P1⟩ => post_b P1 S1⟩
theorem and_red {a b : E} {σ : L2.St} {H : Hp} {Q : VK} (q : tE T Wx cs (.and a b) σ H Q) : tAndV (tE T Wx cs a) (tE T Wx cs b) σ H Q := by
  obtain ⟨ρ, h, env, S, r, P⟩ := isB_imp (e := a) (f := fun env c h => if c then ev cs b env h else .ok (.bl false) h) q
  refine ⟨ρ, h, env, S, r, P.imp fun v H1 ⟨c, e, ρ1, h1, env1, S1, r1, P1⟩ => ⟨c, e, ?_⟩⟩
  cases c with
  | true => exact ⟨ρ1, h1, env1, S1, r1, P1⟩
  | false => exact post_ok P1 S1 (.bl _)
theorem or_red {a b : E} {σ : L2.St} {H : Hp} {Q : VK} (q : tE T Wx cs (.or a b) σ H Q) : tOrV (tE T Wx cs a) (tE T Wx cs b) σ H Q := by
  obtain ⟨ρ, h, env, S, r, P⟩ := isB_imp (e := a) (f := fun env c h => if c then .ok (.bl true) h else ev cs b env h) q
  refine ⟨ρ, h, env, S, r, P.imp fun v H1 ⟨c, e, ρ1, h1, env1, S1, r1, P1⟩ => ⟨c, e, ?_⟩⟩
  cases c with
  | true => exact post_ok P1 S1 (.bl _)
  | false => exact ⟨ρ1, h1, env1, S1, r1, P1⟩
theorem andT_red {a b : E} {σ : L2.St} {H : Hp} {Q : Bool → Hp → Prop} (q : tT T Wx cs (.and a b) σ H Q) : tAnd (tT T Wx cs a) (tT T Wx cs b) σ H Q := by
  obtain ⟨ρ, h, env, S, r, P⟩ := q
  have P2 := tst_isB (e := a) (k := fun env c h => if c then ev cs b env h else .ok (.bl false) h) P
  obtain ⟨ρ, h, env, S, r, P⟩ := isB_impT (e := a) (f := fun env c h => (if c then ev cs b env h else .ok (.bl false) h).bind tru) (.inr trivial) ⟨ρ, h, env, S, r, P2⟩
  refine ⟨ρ, h, env, S, r, P.imp fun c H1 ⟨ρ1, h1, env1, S1, r1, P1⟩ => ?_⟩
  cases c with
  | true => exact ⟨ρ1, h1, env1, S1, r1, P1⟩
  | false => exact post_b P1 S1
theorem orT_red {a b : E} {σ : L2.St} {H : Hp} {Q : Bool → Hp → Prop} (q : tT T Wx cs (.or a b) σ H Q) : tOr (tT T Wx cs a) (tT T Wx cs b) σ H Q := by
  obtain ⟨ρ, h, env, S, r, P⟩ := q
  have P2 := tst_isB (e := a) (k := fun env c h => if c then .ok (.bl true) h else ev cs b env h) P
  obtain ⟨ρ, h, env, S, r, P⟩ := isB_impT (e := a) (f := fun env c h => (if c then .ok (.bl true) h else ev cs b env h).bind tru) (.inr trivial) ⟨ρ, h, env, S, r, P2⟩
  refine ⟨ρ, h, env, S, r, P.imp fun c H1 ⟨ρ1, h1, env1, S1, r1, P1⟩ => ?_⟩
  cases c with
  | true => exact post_b P1 S1
  | false => exact ⟨ρ1, h1, env1, S1, r1, P1⟩
/-- the last of several -/
theorem snd_one {op : BoolOp} {a : E} {l : Expr} {pos : Pos} (ha : Snd T Wx cs X a l) : Snd T Wx cs X a (.BoolOp op [l] pos) := by
  have pw : PW X (.BoolOp op [l] pos) (tT T Wx cs a) := by
    cases op with
    | And => exact pw_and1 ha.pt
    | Or => exact pw_or1 ha.pt
  exact ⟨pe_one ha.pe, pw.pt, fun _ _ _ _ => pw⟩
theorem snd_and {a b : E} {l r : Expr} {rest : List Expr} {pos : Pos} (ha : Snd T Wx cs X a l) (hb : Snd T Wx cs X b (.BoolOp .And (r :: rest) pos)) : Snd T Wx cs X (.and a b) (.BoolOp .And (l :: r :: rest) pos) := by
  have pw : PW X (.BoolOp .And (l :: r :: rest) pos) (tT T Wx cs (.and a b)) := PW.of (pw_and ha.pt (hb.pw _ _ _ rfl)) fun _ _ _ q => andT_red q
  exact ⟨PE.of (pe_and ha.pe hb.pe) fun _ _ _ q => and_red q, pw.pt, fun _ _ _ _ => pw⟩
theorem snd_or {a b : E} {l r : Expr} {rest : List Expr} {pos : Pos} (ha : Snd T Wx cs X a l) (hb : Snd T Wx cs X b (.BoolOp .Or (r :: rest) pos)) : Snd T Wx cs X (.or a b) (.BoolOp .Or (l :: r :: rest) pos) := by
  have pw : PW X (.BoolOp .Or (l :: r :: rest) pos) (tT T Wx cs (.or a b)) := PW.of (pw_or ha.pt (hb.pw _ _ _ rfl)) fun _ _ _ q => orT_red q
  exact ⟨PE.of (pe_or ha.pe hb.pe) fun _ _ _ q => or_red q, pw.pt, fun _ _ _ _ => pw⟩
/-! ### arguments, displays -/
theorem snd_nil : PA X [] (tEs T Wx cs .nil) := ⟨fun pos pins s σ H Q I ⟨ρ, h, env, S, r, P⟩ => (pa_nil (X := X)).run pos pins s σ H Q I (P ρ H [] (Ext.refl ρ h H) S .nil)⟩
theorem snd_cons {e : E} {es : Es} {x : Expr} {xs : List Expr} (p : pl x = true) (he : PE X x (tE T Wx cs e)) (hr : PA X xs (tEs T Wx cs es)) : PA X (x :: xs) (tEs T Wx cs (.cons e es)) := by
  refine ⟨fun pos pins s σ H Q I q => (pa_cons he hr (pl_star p xs X.env)).run pos pins s σ H Q I ?_⟩
  obtain ⟨ρ, h, env, S, r, P⟩ := tM.bind (Rl := RV T) (f := ev cs e) (g := fun env x h => (evs cs es env h).bind fun xs h => .ok (x :: xs) h) q
  refine ⟨ρ, h, env, S, r, P.imp fun v H1 ⟨ρ1, h1, env1, x, S1, r1, rx, P1⟩ => ?_⟩
  refine ⟨ρ1, h1, env1, S1, r1, (P1.bind (Rl := RVs T)).imp fun u H2 ⟨ρ2, h2, y, _, e2, S2, ry, P2⟩ => ?_⟩
  exact P2 ρ2 H2 _ (Ext.refl ρ2 h2 H2) S2 (.cons (RW.mono e2 rx) ry)
theorem snd_lst {es : Es} {xs : List Expr} {pos : Pos} (ha : PA X xs (tEs T Wx cs es)) : PE X (.List xs pos) (tE T Wx cs (.lst es)) := by
  refine PE.of (pe_lst ha) fun σ H Q q => ?_
  obtain ⟨ρ, h, env, S, r, P⟩ := tM.bind (Rl := RVs T) (f := evs cs es) (g := fun _ vs h => newL vs h) q
  refine ⟨ρ, h, env, S, r, P.imp fun v H1 ⟨ρ1, h1, env1, x, S1, r1, rx, P1⟩ => ?_⟩
  have rx : RWs T.K ρ1 h1.length H1 x v := rx
  unfold newL at P1
  split at P1
  · rename_i hl
    exact ⟨by rw [rx.length]; exact lim_line hl, fun p hp => post_lst S1 rx P1 p hp⟩
  · exact P1.elim
theorem snd_tup {es : Es} {xs : List Expr} {k : Nat} {pos : Pos} (ha : PA X xs (tEs T Wx cs es)) : PE X (.Tuple xs k pos) (tE T Wx cs (.tup es)) := by
  refine PE.of (pe_tup ha) fun σ H Q q => ?_
  obtain ⟨ρ, h, env, S, r, P⟩ := tM.bind (Rl := RVs T) (f := evs cs es) (g := fun _ (vs : List W) (h : Mem) => (if vs.length ≤ LIM then .ok (.tup vs) h else .bad : R W)) q
  refine ⟨ρ, h, env, S, r, P.imp fun v H1 ⟨ρ1, h1, env1, x, S1, r1, rx, P1⟩ => ?_⟩
  have rx : RWs T.K ρ1 h1.length H1 x v := rx
  split at P1
  · rename_i hl
    exact ⟨by rw [rx.length]; exact lim_line hl, fun p hp => post_tup S1 rx P1 p hp⟩
  · exact P1.elim
/-! ### calls -/
theorem snd_call (g : GX T nm cs Wx lvl X) {k : Nat} {x : Str} {es : Es} {e : Expr} {xs : List Expr} {p pos : Pos} (h1 : nm.fn.lookup k = some x) (h2 : glb X.env.scope x = true) (h3 : nodbg x = true) (pe : (e :: xs).all pl = true) (ha : PA X (e :: xs) (tEs T Wx cs es)) :
    PE X (.Call (.Name x p) (e :: xs) [] pos) (tE T Wx cs (.call k es)) := by
  obtain ⟨a, fd, ps, q1, q2, q3, q4, q5⟩ := (g.fn k x h1).ex
  rw [List.all_cons] at pe
  obtain ⟨p1, p2⟩ := Bool.and_eq_true_iff.mp pe
  refine PE.of (pe_callS q3 (g.room (g.cool h1)) (glb_of h2) q1 q2 q4 (fun σ => passAt g.tk σ) ha (nodbg1 h3).1 (pl_star p1 xs X.env) (pl_stars xs p2)) fun σ H Q q => ?_
  obtain ⟨ρ, h, env, S, r, P⟩ := tM.bind (Rl := RVs T) (f := evs cs es) (g := fun _ vs h => cs.get (0, k) vs h) q
  refine ⟨ρ, h, env, S, r, P.imp fun v H1 ⟨ρ1, h1, env1, x, S1, r1, rx, P1⟩ => ?_⟩
  have rx : RWs T.K ρ1 h1.length H1 x v := rx
  refine ⟨?_, ρ1, h1, x, S1, rx, P1⟩
  rw [rx.length]
  apply Classical.byContradiction
  intro e
  rw [q5 x h1 e] at P1
  exact P1.elim
theorem call_red {f : BI} {es : Es} {σ : L2.St} {H : Hp} {Q : VK} (q : tE T Wx cs (.bi f es) σ H Q) : tEs T Wx cs es σ H fun vs H1 => rBI T f vs H1 Q := by
  obtain ⟨ρ, h, env, S, r, P⟩ := tM.bind (Rl := RVs T) (f := evs cs es) (g := fun _ vs h => biS f vs h) q
  exact ⟨ρ, h, env, S, r, P.imp fun v H1 ⟨ρ1, h1, env1, x, S1, r1, rx, P1⟩ => ⟨_, ρ1, h1, x, S1, rx, P1⟩⟩
/-- a built-in function | a built-in type -/
def biFn : BI → Option (Str × String)
  | .len => some ("len", "len")
  | .min => some ("min", "min")
  | .max => some ("max", "max")
  | .sum => some ("sum", "sum")
  | .all => some ("all", "all")
  | .any => some ("any", "any")
  | .abs => some ("abs", "abs")
  | .divmod => some ("divmod", "divmod")
  | _ => none
def biTy : BI → Option (Str × String)
  | .list => some ("list", "list")
  | .tuple => some ("tuple", "tuple")
  | .int => some ("int", "int")
  | .bool => some ("bool", "bool")
  | _ => none
/-- what calls back -/
def loud : BI → Bool
  | .min => true
  | .max => true
  | .sum => true
  | .all => true
  | .any => true
  | _ => false
theorem bi_rule (g : GX T nm cs Wx lvl X) : ∀ {f : BI} {x : Str} {id : String}, biFn f = some (x, id) → (loud f = true → nm.hot = false) → CallR X (.builtin id) (rBI T f) ∧ bootBuiltins x = some (.builtin id) ∧ x ∈ bnames
  | .len, _, _, rfl, hh => ⟨bi_len g.K, by decide +kernel, by decide +kernel⟩
  | .min, _, _, rfl, hh => ⟨bi_min g.K (g.calm (hh rfl)), by decide +kernel, by decide +kernel⟩
  | .max, _, _, rfl, hh => ⟨bi_max g.K (g.calm (hh rfl)), by decide +kernel, by decide +kernel⟩
  | .sum, _, _, rfl, hh => ⟨bi_sum g.K (g.calm (hh rfl)), by decide +kernel, by decide +kernel⟩
  | .all, _, _, rfl, hh => ⟨bi_all g.K (g.calm (hh rfl)), by decide +kernel, by decide +kernel⟩
  | .any, _, _, rfl, hh => ⟨bi_any g.K (g.calm (hh rfl)), by decide +kernel, by decide +kernel⟩
  | .abs, _, _, rfl, hh => ⟨bi_abs g.K, by decide +kernel, by decide +kernel⟩
  | .divmod, _, _, rfl, hh => ⟨bi_divmod g.K, by decide +kernel, by decide +kernel⟩
theorem ty_rule (g : GX T nm cs Wx lvl X) : ∀ {f : BI} {x : Str} {id : String}, biTy f = some (x, id) → CallR X (.type id) (rBI T f) ∧ bootBuiltins x = some (.type id) ∧ x ∈ bnames
  | .list, _, _, rfl => ⟨bi_list g.K, by decide +kernel, by decide +kernel⟩
  | .tuple, _, _, rfl => ⟨bi_tuple g.K, by decide +kernel, by decide +kernel⟩
  | .int, _, _, rfl => ⟨bi_int g.K, by decide +kernel, by decide +kernel⟩
  | .bool, _, _, rfl => ⟨bi_bool g.K, by decide +kernel, by decide +kernel⟩
theorem snd_bi (g : GX T nm cs Wx lvl X) {f : BI} {x : Str} {id : String} {es : Es} {e : Expr} {xs : List Expr} {p pos : Pos} (hf : biFn f = some (x, id)) (hh : loud f = true → nm.hot = false) (h2 : glb X.env.scope x = true) (h3 : nodbg x = true) (pe : (e :: xs).all pl = true) (ha : PA X (e :: xs) (tEs T Wx cs es)) :
    PE X (.Call (.Name x p) (e :: xs) [] pos) (tE T Wx cs (.bi f es)) := by
  obtain ⟨q1, q2, q3⟩ := bi_rule g hf hh
  rw [List.all_cons] at pe
  obtain ⟨p1, p2⟩ := Bool.and_eq_true_iff.mp pe
  exact PE.of (pe_callB q1 (glb_of h2) (g.bl x q3) q2 ha (nodbg1 h3).2.2 (nodbg1 h3).1 (pl_star p1 xs X.env) (pl_stars xs p2)) fun σ H Q q => call_red q
theorem snd_ty (g : GX T nm cs Wx lvl X) {f : BI} {x : Str} {id : String} {es : Es} {e : Expr} {xs : List Expr} {p pos : Pos} (hf : biTy f = some (x, id)) (h2 : glb X.env.scope x = true) (h3 : nodbg x = true) (pe : (e :: xs).all pl = true) (ha : PA X (e :: xs) (tEs T Wx cs es)) :
    PE X (.Call (.Name x p) (e :: xs) [] pos) (tE T Wx cs (.bi f es)) := by
  obtain ⟨q1, q2, q3⟩ := ty_rule g hf
  rw [List.all_cons] at pe
  obtain ⟨p1, p2⟩ := Bool.and_eq_true_iff.mp pe
  exact PE.of (pe_callTy q1 (glb_of h2) (g.bl x q3) q2 ha (nodbg1 h3).2.2 (nodbg1 h3).1 (pl_star p1 xs X.env) (pl_stars xs p2)) fun σ H Q q => call_red q
/-! ### isinstance, built-in kinds -/
def tn : Nat → String
  | 0 => "NoneType"
  | 1 => "bool"
  | 2 => "int"
  | 3 => "str"
  | 4 => "tuple"
  | _ => "list"
theorem kind_le {h : Mem} {w : W} {k : Nat} (e : kindOf h w = some k) : k ≤ 5 := by
  unfold kindOf at e
  split at e <;> first
    | (cases e; decide)
    | (split at e <;> cases e; decide)
theorem kind_rel {ρ : Nat → Addr} {h : Mem} {H : Hp} {w : W} {v : V} {k : Nat} (S : Sim T ρ h H) (r : RW T.K ρ h.length H w v) (e : kindOf h w = some k) : TyX T.K H v (.type (tn k)) := by
  cases r with
  | non =>
    cases e
    exact .base .non
  | bl b =>
    cases e
    exact .base (.bl b)
  | int b =>
    cases e
    exact .base (.int b)
  | str b _ =>
    cases e
    exact .base (.str _)
  | tup s _ =>
    cases e
    rcases s with (s | ⟨o, s⟩) | ⟨o, its, n, q, c, _⟩
    · exact .base (.tup s)
    · exact .fTuple s
    · exact .kTuple q c
  | con s _ =>
    cases e
    rcases s with ⟨o, s⟩ | (s | ⟨_, s⟩) | ⟨o, its, n, q, c, _⟩
    · exact .base (.frz s)
    · cases s
    · cases s
    · exact .kList q c
  | ref l =>
    rename_i n
    unfold kindOf at e
    dsimp only at e
    cases q : h[n]? with
    | none =>
      rw [q] at e
      cases e
    | some o =>
      rw [q] at e
      cases o with
      | lst ws =>
        cases e
        obtain ⟨vs, q1, _⟩ := S.lst q
        exact .base (.lst q1)
      | _ => cases e
def isiOf : BI → Option (Str × String)
  | .isInt => some ("int", "int")
  | .isBool => some ("bool", "bool")
  | .isStr => some ("str", "str")
  | .isList => some ("list", "list")
  | .isTuple => some ("tuple", "tuple")
  | _ => none
def isiB : BI → Nat → Bool
  | .isInt, k => k == 1 || k == 2
  | .isBool, k => k == 1
  | .isStr, k => k == 3
  | .isList, k => k == 5
  | .isTuple, k => k == 4
  | _, _ => false
theorem isi_tab : ∀ {f : BI} {x : Str} {id : String}, isiOf f = some (x, id) → (∀ k, k ≤ 5 → kitB (tn k) id = some (isiB f k)) ∧ bootBuiltins x = some (.type id) ∧ x ∈ bnames
  | .isInt, _, _, rfl => ⟨by decide +kernel, by decide +kernel, by decide +kernel⟩
  | .isBool, _, _, rfl => ⟨by decide +kernel, by decide +kernel, by decide +kernel⟩
  | .isStr, _, _, rfl => ⟨by decide +kernel, by decide +kernel, by decide +kernel⟩
  | .isList, _, _, rfl => ⟨by decide +kernel, by decide +kernel, by decide +kernel⟩
  | .isTuple, _, _, rfl => ⟨by decide +kernel, by decide +kernel, by decide +kernel⟩
theorem isi_eq : ∀ {f : BI} {x : Str} {id : String}, isiOf f = some (x, id) → ∀ (w : W) (h : Mem), biS f [w] h = match kindOf h w with
      | some k => .ok (.bl (isiB f k)) h
      | none => .bad
  | .isInt, _, _, rfl, w, h => rfl
  | .isBool, _, _, rfl, w, h => rfl
  | .isStr, _, _, rfl, w, h => rfl
  | .isList, _, _, rfl, w, h => rfl
  | .isTuple, _, _, rfl, w, h => rfl
theorem snd_isi (g : GX T nm cs Wx lvl X) {f : BI} {x : Str} {id : String} {e : E} {a : Expr} {p p2 pos : Pos} (hf : isiOf f = some (x, id)) (h1 : glb X.env.scope "isinstance" = true) (h2 : glb X.env.scope x = true) (h3 : nodbg x = true) (pa : pl a = true) (ha : PE X a (tE T Wx cs e)) :
    PE X (.Call (.Name "isinstance" p) [a, .Name x p2] [] pos) (tE T Wx cs (.bi f (.cons e .nil))) := by
  obtain ⟨q1, q2, q3⟩ := isi_tab hf
  have hb : PE X (.Name x p2) (tC (.ty id)) := pe_bltn (glb_of h2) (g.bl x q3) q2 rfl (nodbg1 h3).2.2 (nodbg1 h3).1
  refine PE.of (pe_callB call_isi (glb_of h1) (g.bl _ (by decide +kernel)) (by decide +kernel) (pa_cons ha (pa_cons hb pa_nil) (pl_star pa _ _)) (by decide +kernel) (by decide +kernel) (pl_star pa _ _) rfl) fun σ H Q q => ?_
  obtain ⟨ρ, h, env, S, r, P⟩ := tM.bind (Rl := RV T) (f := ev cs e) (g := fun _ x h => biS f [x] h) (show tM T Wx (RV T) (fun env h => (ev cs e env h).bind fun x h => biS f [x] h) σ H Q from by
    obtain ⟨ρ, h, env, S, r, P⟩ := q
    refine ⟨ρ, h, env, S, r, ?_⟩
    have P' : PostG T (RV T) (WE Wx σ) ρ h H (((ev cs e env h).bind fun x h => .ok [x] h).bind fun vs h => biS f vs h) Q := P
    show PostG T (RV T) (WE Wx σ) ρ h H ((ev cs e env h).bind fun x h => biS f [x] h) Q
    cases z : ev cs e env h <;> rw [z] at P' <;> exact P')
  refine ⟨ρ, h, env, S, r, P.imp fun v H1 ⟨ρ1, h1, env1, x, S1, r1, rx, P1⟩ => ?_⟩
  have rx : RW T.K ρ1 h1.length H1 x v := rx
  rw [isi_eq hf] at P1
  split at P1
  · rename_i k ek
    refine ⟨v, .ty id, .type (tn k), .type id, isiB f k, rfl, .ty id, ?_, kit_ty (q1 k (kind_le ek)), post_ok P1 S1 (.bl _)⟩
    rw [g.K]
    exact kind_rel S1 rx ek
  · exact P1.elim
/-! ### places -/
/-- what stands at a place -/
theorem snd_idx (g : GX T nm cs Wx (lvl + 2) X) {a b : E} {l r : Expr} {pos : Pos} (p : pl r = true) (ha : PE X l (tE T Wx cs a)) (hb : PE X r (tE T Wx cs b)) : PE X (.Subscript l r pos) (tE T Wx cs (.idx a b)) := by
  refine PE.mk fun pins s σ H Q I q => ?_
  -- what the two come to tells which rule
  obtain ⟨ρ, h, env, S, er, P⟩ := q
  have P' : PostG T (RV T) (WE Wx σ) ρ h H ((ev cs a env h).bind fun x h => (ev cs b env h).bind fun y h => index x y h) Q := P
  by_cases dd : ∃ n h1 kvs y h2, ev cs a env h = .ok (.ref n) h1 ∧ ev cs b env h1 = .ok y h2 ∧ h2[n]? = some (.dic kvs)
  · obtain ⟨n, h1, kvs, y, h2, e1, e2, e3⟩ := dd
    refine (pe_dget (by have := g.un; omega) ha hb (pl_ix p)).run pins s σ H Q I ⟨ρ, h, env, S, er, ?_⟩
    refine P'.bind.imp fun v H1 ⟨ρ1, m1, x, q1, x1, S1, rx, P1⟩ => ?_
    rw [e1] at q1
    cases q1
    refine ⟨ρ1, h1, env, S1, er.mono x1, P1.bind.imp fun u H2 ⟨ρ2, m2, y', q2, x2, S2, ry, P2⟩ => ?_⟩
    rw [e2] at q2
    cases q2
    have rx : RW T.K ρ2 h2.length H2 (.ref n) v := RW.mono x2 rx
    cases rx with
    | ref hn =>
      unfold index at P2
      dsimp only at P2
      rw [e3] at P2
      dsimp only at P2
      split at P2
      · rename_i hk
        split at P2
        · rename_i w ew
          obtain ⟨zs, z1, z2⟩ := S2.dic e3
          obtain ⟨k, rfl⟩ := key_of' ry hk
          rcases find_rel ry z2 with ⟨f1, _⟩ | ⟨w', v', f1, f2, f3⟩
          · rw [f1] at ew
            cases ew
          · rw [f1] at ew
            cases ew
            refine ⟨_, v', rfl, ?_, post_ok P2 S2 f3⟩
            rw [← f2]
            exact .k z1
        · exact P2.elim
      · exact P2.elim
  · refine (pe_ix ix_seq ha hb (pl_ix p)).run pins s σ H Q I ⟨ρ, h, env, S, er, ?_⟩
    refine P'.bind.imp fun v H1 ⟨ρ1, m1, x, q1, x1, S1, rx, P1⟩ => ?_
    refine ⟨ρ1, m1, env, S1, er.mono x1, P1.bind.imp fun u H2 ⟨ρ2, m2, y', q2, x2, S2, ry, P2⟩ => ?_⟩
    exact ix_rel g.K S2 (RW.mono x2 rx) ry (fun n kvs e1 e2 => dd ⟨n, m1, kvs, y', m2, by rw [q1, e1], q2, e2⟩) P2
def chkO : Option Expr → Bool
  | none => true
  | some e => pl e
abbrev RO' (T : NT) : (Nat → Addr) → Mem → Hp → Option W → Option V → Prop := fun ρ h H a b => match a, b with
  | none, none => True
  | some w, some v => RW T.K ρ h.length H w v
  | _, _ => False
/-- a bound of a slice -/
def POk (T : NT) (Wx : WX) (cs : Tab) (X : Cx) (e : Eo) (x : Option Expr) : Prop := (e = .no ∧ x = none) ∨ ∃ a l, e = .so a ∧ x = some l ∧ PE X l (tE T Wx cs a)
theorem snd_part {e : Eo} {x : Option Expr} (h : POk T Wx cs X e x) : PO X x (fun σ H Q => tM T Wx (RO' T) (evo cs e) σ H fun o H1 => ∃ i, (o = none ∧ i = none ∨ ∃ j, o = some (V.int j) ∧ i = some j) ∧ Q i H1) := by
  rcases h with ⟨rfl, rfl⟩ | ⟨a, l, rfl, rfl, ha⟩
  · refine ⟨fun pins s σ H Q I ⟨ρ, h, env, S, r, P⟩ => ?_⟩
    obtain ⟨i, hi, q⟩ := P ρ H none (Ext.refl ρ h H) S trivial
    rcases hi with ⟨_, rfl⟩ | ⟨j, e, _⟩
    · exact po_none.run pins s σ H Q I q
    · cases e
  · refine ⟨fun pins s σ H Q I q => (po_some ha).run pins s σ H Q I ?_⟩
    obtain ⟨ρ, h, env, S, r, P⟩ := q
    refine ⟨ρ, h, env, S, r, ?_⟩
    have P' : PostG T (RO' T) (WE Wx σ) ρ h H ((ev cs a env h).bind fun x h => .ok (some x) h) _ := P
    refine P'.bind.imp fun v H1 ⟨ρ1, m1, x, q1, x1, S1, rx, P1⟩ => ?_
    obtain ⟨i, hi, q⟩ := P1 ρ1 H1 (some v) (Ext.refl ρ1 m1 H1) S1 rx
    rcases hi with ⟨e, _⟩ | ⟨j, e, rfl⟩
    · cases e
    · cases e
      exact ⟨j, rfl, q⟩
theorem one_red {o : Option W} {k : Option V} {h : Mem} {f : Option Int → R W} {E : XK} {ρ : Nat → Addr} {H : Hp} {Q : VK} (r : RO' T ρ h H o k) (P : PostG T (RV T) E ρ h H (oneOf o h f) Q) : ∃ i, (k = none ∧ i = none ∨ ∃ j, k = some (V.int j) ∧ i = some j) ∧ PostG T (RV T) E ρ h H (f i) Q := by
  cases o with
  | none => cases k with
    | none => exact ⟨none, .inl ⟨rfl, rfl⟩, P⟩
    | some _ => exact r.elim
  | some w => cases k with
    | none => exact r.elim
    | some v =>
      have r : RW T.K ρ h.length H w v := r
      cases r with
      | int j => exact ⟨some j, .inr ⟨j, rfl, rfl⟩, P⟩
      | _ => exact P.elim
theorem snd_slc (hK : X.K = T.K) {o : E} {lo hi : Eo} {l : Expr} {a b : Option Expr} {p2 pos : Pos} (ho : PE X l (tE T Wx cs o)) (ha : POk T Wx cs X lo a) (hb : POk T Wx cs X hi b) : PE X (.Subscript l (.Slice a b none p2) pos) (tE T Wx cs (.slc o lo hi)) := by
  refine PE.of (pe_slice (slR hK) ho (snd_part ha) (snd_part hb)) fun σ H Q q => ?_
  obtain ⟨ρ, h, env, S, r, P⟩ := tM.bind (Rl := RV T) (f := ev cs o) (g := fun env x h => (evo cs lo env h).bind fun a h => oneOf a h fun i => (evo cs hi env h).bind fun b h => oneOf b h fun j => slice x i j h) q
  refine ⟨ρ, h, env, S, r, P.imp fun v H1 ⟨ρ1, h1, env1, x, S1, r1, rx, P1⟩ => ?_⟩
  refine ⟨ρ1, h1, env1, S1, r1, (P1.bind (Rl := RO' T)).imp fun k H2 ⟨ρ2, h2, y, _, e2, S2, ry, P2⟩ => ?_⟩
  obtain ⟨i, hi', P3⟩ := one_red ry P2
  refine ⟨i, hi', ρ2, h2, env1, S2, r1.mono e2, (P3.bind (Rl := RO' T)).imp fun k3 H3 ⟨ρ3, h3, z, _, e3, S3, rz, P4⟩ => ?_⟩
  obtain ⟨j, hj', P5⟩ := one_red rz P4
  exact ⟨j, hj', _, ρ3, h3, x, S3, RW.mono e3 (RW.mono e2 rx), P5⟩
/-! ### methods of built-in types -/
def rBM (T : NT) (f : BM) : V → List V → Hp → VK → Prop := fun v vs H Q => ∃ E ρ h w ws, Sim T ρ h H ∧ RW T.K ρ h.length H w v ∧ RWs T.K ρ h.length H ws vs ∧ PostG T (RV T) E ρ h H (bmS f w ws h) Q
theorem bm_append : MtR X "list.append" (rBM T .append) := by
  intro pins s σ H x xs v us Q I rx rs ⟨E, ρ, h, w, ws, S, r1, r2, P⟩
  cases r1 with
  | ref hn =>
    rename_i n
    cases r2 with
    | nil => exact P.elim
    | cons a b => cases b with
      | cons _ _ => exact P.elim
      | nil =>
        rename_i y z
        have P' : PostG T (RV T) E ρ h H (match h[n]? with
          | some (.lst xs) => if xs.length < LIM then .ok .non (h.set n (.lst (xs ++ [y]))) else .bad
          | _ => .bad) Q := P
        split at P'
        · rename_i ys e
          split at P'
          · rename_i hl
            obtain ⟨zs, q1, q2⟩ := S.lst e
            refine mt_append pins s σ H _ _ v us Q I rx rs ⟨_, zs, _, rfl, rfl, q1, by rw [q2.length]; exact lim_lt hl, ?_⟩
            exact post_set S hn (.lst upd_same (by
              have m := RWs.mono (ext_set S hn (.lst (ys ++ [y])) (.lst (zs ++ [z]))) (q2.app (.cons a .nil))
              exact m)) P' .non
          · exact P'.elim
        · exact P'.elim
  | _ => cases r2 <;> exact P.elim
theorem bm_insert : MtR X "list.insert" (rBM T .insert) := by
  intro pins s σ H x xs v us Q I rx rs ⟨E, ρ, h, w, ws, S, r1, r2, P⟩
  cases r1 with
  | ref hn =>
    rename_i n
    match ws, r2, P with
    | [], _, P => exact P.elim
    | [y], _, P =>
      have P' : False := by
        cases y <;> exact P
      exact P'.elim
    | y :: z :: u :: r, _, P =>
      have P' : False := by
        cases y <;> exact P
      exact P'.elim
    | [y, z], .cons (v := y') a (.cons (v := z') b .nil), P =>
      cases a with
      | int i =>
        have P' : PostG T (RV T) E ρ h H (match h[n]? with
          | some (.lst xs) => if xs.length < LIM ∧ 0 ≤ i ∧ i < 1000000000000 then .ok .non (h.set n (.lst (xs.take i.toNat ++ [z] ++ xs.drop i.toNat))) else .bad
          | _ => .bad) Q := P
        split at P'
        · rename_i ys e
          split at P'
          · rename_i hl
            obtain ⟨hl, i0, i1⟩ := hl
            obtain ⟨zs, q1, q2⟩ := S.lst e
            refine mt_insert pins s σ H _ _ v us Q I rx rs ⟨_, zs, i, _, rfl, rfl, q1, by rw [q2.length]; exact lim_lt hl, i0, by omega, ?_⟩
            exact post_set S hn (.lst upd_same (by
              have m := RWs.mono (ext_set S hn (.lst (ys.take i.toNat ++ [z] ++ ys.drop i.toNat)) (.lst (zs.take i.toNat ++ [z'] ++ zs.drop i.toNat))) (((q2.take i.toNat).app (.cons b .nil)).app (q2.drop i.toNat))
              exact m)) P' .non
          · exact P'.elim
        · exact P'.elim
      | _ => exact P.elim
  | _ =>
    have P' : False := P
    exact P'.elim
theorem bm_pop : MtR X "list.pop" (rBM T .pop) := by
  intro pins s σ H x xs v us Q I rx rs ⟨E, ρ, h, w, ws, S, r1, r2, P⟩
  cases r1 with
  | ref hn =>
    rename_i n
    cases r2 with
    | cons a b => exact P.elim
    | nil =>
        have P' : PostG T (RV T) E ρ h H (match h[n]? with
          | some (.lst xs) => match xs[xs.length - 1]? with
            | some y => .ok y (h.set n (.lst xs.dropLast))
            | none => .bad
          | _ => .bad) Q := P
        split at P'
        · rename_i ys e
          split at P'
          · rename_i y ey
            obtain ⟨zs, q1, q2⟩ := S.lst e
            obtain ⟨z, f1, f2⟩ := q2.at ey
            refine mt_pop pins s σ H _ _ v us Q I rx rs ⟨_, zs, z, rfl, rfl, q1, by rw [q2.length]; exact f1, ?_⟩
            exact post_set S hn (.lst upd_same (by
              have m := RWs.mono (ext_set S hn (.lst ys.dropLast) (.lst zs.dropLast)) q2.dropLast
              exact m)) P' f2
          · exact P'.elim
        · exact P'.elim
  | _ => cases r2 <;> exact P.elim
theorem bm_clear : MtR X "list.clear" (rBM T .clear) := by
  intro pins s σ H x xs v us Q I rx rs ⟨E, ρ, h, w, ws, S, r1, r2, P⟩
  cases r1 with
  | ref hn =>
    rename_i n
    cases r2 with
    | cons a b => exact P.elim
    | nil =>
        have P' : PostG T (RV T) E ρ h H (match h[n]? with
          | some (.lst _) => .ok .non (h.set n (.lst []))
          | _ => .bad) Q := P
        split at P'
        · rename_i ys e
          obtain ⟨zs, q1, q2⟩ := S.lst e
          refine mt_clear pins s σ H _ _ v us Q I rx rs ⟨_, zs, rfl, rfl, q1, ?_⟩
          exact post_set S hn (.lst upd_same .nil) P' .non
        · exact P'.elim
  | _ => cases r2 <;> exact P.elim
theorem isL_rel {ρ : Nat → Addr} {h : Mem} {H : Hp} {w : W} {v : V} (S : Sim T ρ h H) (r : RW T.K ρ h.length H w v) (e : isL h w = true) : tyV T.K "list" v H := by
  cases r with
  | ref l =>
    rename_i n
    unfold isL at e
    dsimp only at e
    cases q : h[n]? with
    | none =>
      rw [q] at e
      cases e
    | some o =>
      rw [q] at e
      cases o with
      | lst ws =>
        obtain ⟨vs, q1, _⟩ := S.lst q
        exact .inl ⟨rfl, vs, .of q1⟩
      | _ => cases e
  | _ => cases e
theorem bm_red {f : BM} {o : E} {es : Es} (hK : X.K = T.K) {σ : L2.St} {H : Hp} {Q : VK} (q : tE T Wx cs (.bm f o es) σ H Q) : tBM X.K "list" (rBM T f) (tE T Wx cs o) (tEs T Wx cs es) σ H Q := by
  obtain ⟨ρ, h, env, S, r, P⟩ := tM.bind (Rl := RV T) (f := ev cs o) (g := fun env x h => (if recv f x h then (evs cs es env h).bind fun vs h => bmS f x vs h else .bad : R W)) q
  refine ⟨ρ, h, env, S, r, P.imp fun v H1 ⟨ρ1, h1, env1, x, S1, r1, rx, P1⟩ => ?_⟩
  split at P1
  · rename_i hr
    refine ⟨by rw [hK]; exact isL_rel S1 rx hr, ρ1, h1, env1, S1, r1, (P1.bind (Rl := RVs T)).imp fun u H2 ⟨ρ2, h2, y, _, e2, S2, ry, P2⟩ => ?_⟩
    exact ⟨_, ρ2, h2, x, y, S2, RW.mono e2 rx, ry, P2⟩
  · exact P1.elim
theorem snd_append (hK : X.K = T.K) {o e : E} {l a : Expr} {apos cpos : Pos} (pl1 : pl l = true) (p2 : pl a = true) (hl : (apos.endLine == cpos.line) = true) (ho : PE X l (tE T Wx cs o)) (ha : PE X a (tE T Wx cs e)) :
    PE X (.Call (.Attribute l "append" apos) [a] [] cpos) (tE T Wx cs (.bm .append o (.cons e .nil))) :=
  PE.of (pe_bm PySem.F.plainAttrs_list PySem.F.slot_list_append PySem.F.type_list_append bm_append ho (snd_cons p2 ha snd_nil) (pl_base pl1 _ _) (by rw [pl_star p2]; rfl) hl (pl_star p2 _ _) rfl) fun _ _ _ q => bm_red hK q
theorem snd_insert (hK : X.K = T.K) {o : E} {es : Es} {l a b : Expr} {apos cpos : Pos} (pl1 : pl l = true) (p2 : pl a = true) (p3 : pl b = true) (hl : (apos.endLine == cpos.line) = true) (ho : PE X l (tE T Wx cs o)) (ha : PA X [a, b] (tEs T Wx cs es)) :
    PE X (.Call (.Attribute l "insert" apos) [a, b] [] cpos) (tE T Wx cs (.bm .insert o es)) :=
  PE.of (pe_bm PySem.F.plainAttrs_list PySem.F.slot_list_insert PySem.F.type_list_insert bm_insert ho ha (pl_base pl1 _ _) (by rw [pl_star p2, pl_star p3]; rfl) hl (pl_star p2 _ _) (by rw [pl_star p3]; rfl)) fun _ _ _ q => bm_red hK q
theorem bm0_red {f : BM} {o : E} (hK : X.K = T.K) {σ : L2.St} {H : Hp} {Q : VK} (q : tE T Wx cs (.bm f o .nil) σ H Q) : tBM0 X.K "list" (rBM T f) (tE T Wx cs o) σ H Q := by
  obtain ⟨ρ, h, env, S, r, P⟩ := tM.bind (Rl := RV T) (f := ev cs o) (g := fun env x h => (if recv f x h then bmS f x [] h else .bad : R W)) q
  refine ⟨ρ, h, env, S, r, P.imp fun v H1 ⟨ρ1, h1, env1, x, S1, r1, rx, P1⟩ => ?_⟩
  split at P1
  · rename_i hr
    exact ⟨by rw [hK]; exact isL_rel S1 rx hr, _, ρ1, h1, x, [], S1, rx, .nil, P1⟩
  · exact P1.elim
theorem snd_pop (hK : X.K = T.K) {o : E} {l : Expr} {apos cpos : Pos} (pl1 : pl l = true) (hl : (apos.endLine == cpos.line) = true) (ho : PE X l (tE T Wx cs o)) : PE X (.Call (.Attribute l "pop" apos) [] [] cpos) (tE T Wx cs (.bm .pop o .nil)) :=
  PE.of (pe_bm0 PySem.F.plainAttrs_list PySem.F.slot_list_pop PySem.F.type_list_pop bm_pop ho (pl_base pl1 _ _) hl) fun _ _ _ q => bm0_red hK q
theorem snd_clear (hK : X.K = T.K) {o : E} {l : Expr} {apos cpos : Pos} (pl1 : pl l = true) (hl : (apos.endLine == cpos.line) = true) (ho : PE X l (tE T Wx cs o)) : PE X (.Call (.Attribute l "clear" apos) [] [] cpos) (tE T Wx cs (.bm .clear o .nil)) :=
  PE.of (pe_bm0 PySem.F.plainAttrs_list PySem.F.slot_list_clear PySem.F.type_list_clear bm_clear ho (pl_base pl1 _ _) hl) fun _ _ _ q => bm0_red hK q
/-! ### chains -/
/-- what follows a first operand -/
structure PCh (T : NT) (Wx : WX) (cs : Tab) (X : Cx) (c : Ch) (ops : List CmpOp) (rs : List Expr) : Prop where
  val : ∀ (pos : Pos) (pins : List (Addr × Obj)) (s : Shared) (σ : L2.St) (H : Hp) (Q : VK) (x : V) (v : Value), Inv X pins σ H s → RelV x v → (∃ ρ h env w, Sim T ρ h H ∧ ER T.K ρ h.length H env σ ∧ RW T.K ρ h.length H w x ∧ PostG T (RV T) (WE Wx σ) ρ h H (evc cs c w env h) Q) →
    wpAny (model X.prog X.w) X.A (compareChain pos v ops (evalEach rs X.env)) (EP X pins σ Q) X.xe s
  tst : ∀ (pos : Pos) (pins : List (Addr × Obj)) (s : Shared) (σ : L2.St) (H : Hp) (Q : Bool → Hp → Prop) (x : V) (v : Value), Inv X pins σ H s → RelV x v → (∃ ρ h env w, Sim T ρ h H ∧ ER T.K ρ h.length H env σ ∧ RW T.K ρ h.length H w x ∧ PostG T RB (WE Wx σ) ρ h H ((evc cs c w env h).bind tru) Q) →
    wpAny (model X.prog X.w) X.A (testChain pos v ops (evalEach rs X.env)) (TP X pins σ Q) X.xe s
theorem R.bind_bind {α β γ : Type} (r : R α) (f : α → Mem → R β) (g : β → Mem → R γ) : (r.bind f).bind g = r.bind fun a h => (f a h).bind g := by
  cases r <;> rfl
/-- a bool handed on -/
theorem bool_red {r : R W} {k : R W → Prop} {E : XK} {ρ : Nat → Addr} {h : Mem} {H : Hp} {Q : Bool → Hp → Prop} (hb : (∃ b m', r = .ok (.bl b) m') ∨ (∃ z m', r = .ex z m') ∨ r = .bad) (P : PostG T RB E ρ h H (r.bind tru) Q) : PostG T (RV T) E ρ h H r fun v H1 => ∃ c, v = .bl c ∧ Q c H1 := by
  rcases hb with ⟨b, m, rfl⟩ | ⟨z, m, rfl⟩ | rfl
  · exact fun ρ' H' v e s q => by
      cases q
      exact ⟨b, rfl, P ρ' H' b e s rfl⟩
  · exact P
  · exact P
theorem pch_one (g : GX T nm cs Wx (lvl + 2) X) {o : Op} {e : E} {op : CmpOp} {r : Expr} (ho : cmpOf o = some op) (he : PE X r (tE T Wx cs e)) : PCh T Wx cs X (.one o e) [op] [r] := by
  refine ⟨fun pos pins s σ H Q x v I rx ⟨ρ, h, env, w, S, er, rw', P⟩ => ?_, fun pos pins s σ H Q x v I rx ⟨ρ, h, env, w, S, er, rw', P⟩ => ?_⟩
  · refine PyProof.Rows.chain_last (thn (he.run pins s σ H _ I ⟨ρ, h, env, S, er, (show PostG T (RV T) (WE Wx σ) ρ h H ((ev cs e env h).bind fun y h => op2 o w y h) Q from P).bind⟩) fun u s1 ⟨y, H1, I1, ry, ρ1, h1, z, _, e1, S1, rz, P1⟩ => ?_)
    exact cmp_rule g ho pins s1 σ H1 x y v u Q I1 rx ry ⟨_, ρ1, h1, w, z, S1, RW.mono e1 rw', rz, P1⟩
  · have P' : PostG T RB (WE Wx σ) ρ h H ((ev cs e env h).bind fun y h => (op2 o w y h).bind tru) Q := by
      rw [← R.bind_bind]
      exact P
    refine PyProof.Rows.test_last (thn (he.run pins s σ H _ I ⟨ρ, h, env, S, er, P'.bind (Rl := RV T)⟩) fun u s1 ⟨y, H1, I1, ry, ρ1, h1, z, _, e1, S1, rz, P1⟩ => ?_)
    refine thn (cmp_rule g ho pins s1 σ H1 x y v u _ I1 rx ry ⟨_, ρ1, h1, w, z, S1, RW.mono e1 rw', rz, bool_red (k := fun _ => True) (cmp_bool ho w z h1) P1⟩) fun c s2 ⟨k, H2, I2, rk, b, eb, q⟩ => ?_
    subst eb
    cases rk
    exact wpAny_truthy_bool ⟨H2, I2, q⟩
theorem pch_more (g : GX T nm cs Wx (lvl + 2) X) {o : Op} {e : E} {c : Ch} {op op' : CmpOp} {ops : List CmpOp} {r r' : Expr} {rs : List Expr} (ho : cmpOf o = some op) (he : PE X r (tE T Wx cs e)) (hc : PCh T Wx cs X c (op' :: ops) (r' :: rs)) : PCh T Wx cs X (.more o e c) (op :: op' :: ops) (r :: r' :: rs) := by
  refine ⟨fun pos pins s σ H Q x v I rx ⟨ρ, h, env, w, S, er, rw', P⟩ => ?_, fun pos pins s σ H Q x v I rx ⟨ρ, h, env, w, S, er, rw', P⟩ => ?_⟩
  · refine PyProof.Rows.chain_link (thn (he.run pins s σ H _ I ⟨ρ, h, env, S, er, (show PostG T (RV T) (WE Wx σ) ρ h H ((ev cs e env h).bind fun y h => (op2 o w y h).bind fun z h => isB z h fun k => if k then evc cs c y env h else .ok (.bl false) h) Q from P).bind⟩) fun u s1 ⟨y, H1, I1, ry, ρ1, h1, z, _, e1, S1, rz, P1⟩ => ?_)
    refine thn (cmp_rule g ho pins s1 σ H1 x y v u _ I1 rx ry ⟨_, ρ1, h1, w, z, S1, RW.mono e1 rw', rz, P1.bind⟩) fun cv s2 ⟨k, H2, I2, rk, ρ2, h2, kk, _, e2, S2, rkk, P2⟩ => ?_
    have rkk : RW T.K ρ2 h2.length H2 kk k := rkk
    cases rkk with
    | bl b =>
      cases rk
      refine wpAny_truthy_bool ?_
      cases b with
      | true => exact hc.val pos pins s2 σ H2 Q y u I2 ry ⟨ρ2, h2, env, z, S2, (er.mono e1).mono e2, RW.mono e2 rz, P2⟩
      | false => exact ⟨.bl false, H2, I2, rfl, post_ok P2 S2 (.bl _)⟩
    | _ => exact P2.elim
  · have P' : PostG T RB (WE Wx σ) ρ h H ((ev cs e env h).bind fun y h => (op2 o w y h).bind fun z h => (isB z h fun k => if k then evc cs c y env h else .ok (.bl false) h).bind tru) Q := by
      have P0 : PostG T RB (WE Wx σ) ρ h H (((ev cs e env h).bind fun y h => (op2 o w y h).bind fun z h => isB z h fun k => if k then evc cs c y env h else .ok (.bl false) h).bind tru) Q := P
      rw [R.bind_bind] at P0
      cases q : ev cs e env h with
      | ok y m =>
        rw [q] at P0
        have P0 : PostG T RB (WE Wx σ) ρ h H (((op2 o w y m).bind fun z h => isB z h fun k => if k then evc cs c y env h else .ok (.bl false) h).bind tru) Q := P0
        rw [R.bind_bind] at P0
        exact P0
      | ex z m =>
        rw [q] at P0
        exact P0
      | bad =>
        rw [q] at P0
        exact P0
    refine PyProof.Rows.test_link (thn (he.run pins s σ H _ I ⟨ρ, h, env, S, er, P'.bind (Rl := RV T)⟩) fun u s1 ⟨y, H1, I1, ry, ρ1, h1, z, _, e1, S1, rz, P1⟩ => ?_)
    refine thn (cmp_rule g ho pins s1 σ H1 x y v u _ I1 rx ry ⟨_, ρ1, h1, w, z, S1, RW.mono e1 rw', rz, P1.bind (Rl := RV T)⟩) fun cv s2 ⟨k, H2, I2, rk, ρ2, h2, kk, _, e2, S2, rkk, P2⟩ => ?_
    have rkk : RW T.K ρ2 h2.length H2 kk k := rkk
    cases rkk with
    | bl b =>
      cases rk
      refine wpAny_truthy_bool ?_
      cases b with
      | true => exact hc.tst pos pins s2 σ H2 Q y u I2 ry ⟨ρ2, h2, env, z, S2, (er.mono e1).mono e2, RW.mono e2 rz, P2⟩
      | false => exact ⟨H2, I2, post_b P2 S2⟩
    | _ => exact P2.elim
theorem snd_ch {a : E} {c : Ch} {l : Expr} {op op' : CmpOp} {ops : List CmpOp} {r r' : Expr} {rs : List Expr} {pos : Pos} (ha : PE X l (tE T Wx cs a)) (hc : PCh T Wx cs X c (op :: op' :: ops) (r :: r' :: rs)) (hm : lastMarks (op :: op' :: ops) (r :: r' :: rs) = false) : Snd T Wx cs X (.ch a c) (.Compare l (op :: op' :: ops) (r :: r' :: rs) pos) := by
  refine ⟨⟨fun pins s σ H Q I q => ?_⟩, ⟨fun pins s σ H Q I q => ?_⟩, fun _ _ _ e => by cases e⟩
  · obtain ⟨ρ, h, env, S, r0, P⟩ := tM.bind (Rl := RV T) (f := ev cs a) (g := fun env x h => evc cs c x env h) q
    exact PyProof.Rows.Compare_chain (thn (ha.run pins s σ H _ I ⟨ρ, h, env, S, r0, P⟩) fun v s1 ⟨x, H1, I1, rx, ρ1, h1, env1, w, S1, r1, rw', P1⟩ => hc.val pos pins s1 σ H1 Q x v I1 rx ⟨ρ1, h1, env1, w, S1, r1, rw', P1⟩) hm
  · obtain ⟨ρ, h, env, S, r0, P⟩ := tM.bind (Rl := RV T) (Rl' := RB) (f := ev cs a) (g := fun env x h => (evc cs c x env h).bind tru) (show tM T Wx RB (fun env h => (ev cs a env h).bind fun x h => (evc cs c x env h).bind tru) σ H Q from by
      obtain ⟨ρ, h, env, S, r0, P⟩ := q
      refine ⟨ρ, h, env, S, r0, ?_⟩
      have P0 : PostG T RB (WE Wx σ) ρ h H (((ev cs a env h).bind fun x h => evc cs c x env h).bind tru) Q := P
      rw [R.bind_bind] at P0
      exact P0)
    exact PyProof.Rows.isTrue_chain (thn (ha.run pins s σ H _ I ⟨ρ, h, env, S, r0, P⟩) fun v s1 ⟨x, H1, I1, rx, ρ1, h1, env1, w, S1, r1, rw', P1⟩ => hc.tst pos pins s1 σ H1 Q x v I1 rx ⟨ρ1, h1, env1, w, S1, r1, rw', P1⟩) hm
end
end DM

/-! The deep machine: instances. -/
namespace DM
open PySem L2 PySem.Spec PyProof.Rows
abbrev FR (T : NT) (ρ : Nat → Addr) (N : Nat) (H : Hp) : List (Nat × W) → List (Str × V) → Prop := Paired (fun (p : Nat × W) (q : Str × V) => T.fld[p.1]? = some q.1 ∧ RW T.K ρ N H p.2 q.2)
theorem fld_inj {T : NT} {i j : Nat} {x : Str} (a : T.fld[i]? = some x) (b : T.fld[j]? = some x) : i = j := by
  obtain ⟨la, ea⟩ := List.getElem?_eq_some_iff.mp a
  obtain ⟨lb, eb⟩ := List.getElem?_eq_some_iff.mp b
  exact (List.getElem_inj T.fnd).mp (ea.trans eb.symm)
theorem FR.at {T : NT} {ρ : Nat → Addr} {N : Nat} {H : Hp} {f : Nat} {y : Str} (hy : T.fld[f]? = some y) : ∀ {fs : List (Nat × W)} {gs : List (Str × V)}, FR T ρ N H fs gs → ∀ {w : W}, fs.lookup f = some w → ∃ v, gs.lookup y = some v ∧ RW T.K ρ N H w v
  | _, _, .nil, w, e => nomatch e
  | (i, u) :: fs, (x, v) :: gs, .cons a r, w, e => by
    have a : T.fld[i]? = some x ∧ RW T.K ρ N H u v := a
    rw [List.lookup_cons] at e ⊢
    by_cases c : f = i
    · subst c
      have ex : y = x := Option.some.inj (hy.symm.trans a.1)
      subst ex
      have b1 : (f == f) = true := beq_self_eq_true f
      have b2 : (y == y) = true := beq_self_eq_true y
      rw [b1] at e
      rw [b2]
      exact ⟨v, rfl, (Option.some.inj e) ▸ a.2⟩
    · have b1 : (f == i) = false := beq_eq_false_iff_ne.mpr c
      have b2 : (y == x) = false := beq_eq_false_iff_ne.mpr fun z => c (fld_inj hy (z ▸ a.1))
      rw [b1] at e
      rw [b2]
      exact FR.at hy r e
theorem FR.put {T : NT} {ρ : Nat → Addr} {N : Nat} {H : Hp} {f : Nat} {y : Str} (hy : T.fld[f]? = some y) {w : W} {v : V} (rv : RW T.K ρ N H w v) : ∀ {fs : List (Nat × W)} {gs : List (Str × V)}, FR T ρ N H fs gs → FR T ρ N H (DM.putF fs f w) (L2.putF y v gs)
  | _, _, .nil => .cons ⟨hy, rv⟩ .nil
  | (i, u) :: fs, (x, z) :: gs, .cons a r => by
    have a : T.fld[i]? = some x ∧ RW T.K ρ N H u z := a
    unfold DM.putF L2.putF
    by_cases c : i = f
    · subst c
      have ex : x = y := Option.some.inj (a.1.symm.trans hy)
      rw [if_pos rfl, if_pos ex]
      exact .cons ⟨a.1, rv⟩ r
    · have ne : ¬ x = y := fun z => c (fld_inj a.1 (z ▸ hy))
      rw [if_neg c, if_neg ne]
      exact .cons a (FR.put hy rv r)
theorem FR.len {T : NT} {ρ : Nat → Addr} {N : Nat} {H : Hp} {fs : List (Nat × W)} {gs : List (Str × V)} (r : FR T ρ N H fs gs) : gs.length = fs.length := (Paired.length r).symm
theorem FR.none {T : NT} {ρ : Nat → Addr} {N : Nat} {H : Hp} {y : Str} (hy : y ∉ T.fld) : ∀ {fs : List (Nat × W)} {gs : List (Str × V)}, FR T ρ N H fs gs → gs.lookup y = .none
  | _, _, .nil => rfl
  | (i, u) :: fs, (x, z) :: gs, .cons a r => by
    have a : T.fld[i]? = some x ∧ RW T.K ρ N H u z := a
    have b : (y == x) = false := beq_eq_false_iff_ne.mpr fun e => hy (e ▸ List.mem_of_getElem? a.1)
    rw [List.lookup_cons, b]
    exact FR.none hy r
theorem FR.mono {T : NT} {ρ ρ' : Nat → Addr} {h h' : Mem} {H H' : Hp} (e : Ext T.K ρ h H ρ' h' H') {fs : List (Nat × W)} {gs : List (Str × V)} (r : FR T ρ h.length H fs gs) : FR T ρ' h'.length H' fs gs := paired_imp (fun p q z => ⟨z.1, z.2.mono e⟩) r
theorem Sim.ins {T : NT} {ρ : Nat → Addr} {h : Mem} {H : Hp} (S : Sim T ρ h H) {n c : Nat} {fs : List (Nat × W)} (e : h[n]? = some (.ins c fs)) : ∃ dx gs, H (ρ n) = some (.ins (T.cl c) dx gs) ∧ FR T ρ h.length H fs gs := by
  have q := S.obj n _ e
  cases q with
  | ins a b => exact ⟨_, _, a, b⟩
/-! ### method calls, making: what may come out by the slots -/
section
variable {X : Cx} {CX : CXT} {k : Nat} {f C : Addr} {fd : FuncData} {ps : List Str} {sp : Sp} {E : L2.St → XK} {x m : Str} {p pos apos : Pos} {e o : Expr} {es : List Expr} {ta : TE} {t : TA}
theorem few_of {xs : List Expr} {env : PySem.Env} (h : xs.all pl = true) (l : xs.length < 30) : methodCallForm (xs.length + ([] : List Keyword).length) (backTo pos (starEach xs env)) (backToKw pos (keywordEach [] env)) = true := by
  have a : ∀ ys : List Expr, ys.all pl = true → (backTo pos (starEach ys env)).all (fun z => !z.1) = true := by
    intro ys hy
    induction ys with
    | nil => rfl
    | cons y r ih =>
      rw [List.all_cons] at hy
      obtain ⟨h1, h2⟩ := Bool.and_eq_true_iff.mp hy
      rw [pl_star h1]
      have e2 : backTo pos ((false, eval y env) :: starEach r env) = (false, eval y env) :: backTo pos (starEach r env) := rfl
      rw [e2, List.all_cons, ih h2]
      rfl
  unfold methodCallForm
  rw [a xs h]
  have e1 : backToKw pos (keywordEach [] env) = [] := rfl
  rw [e1]
  simpa using l
/-- the tree of a method call -/
theorem mtree {xs : List Expr} (po : pl o = true) (h : xs.all pl = true) (l : xs.length < 30) (hl : (apos.endLine == pos.line) = true) (env : PySem.Env) : ∃ q : Sem Bool, eval (.Call (.Attribute o m apos) xs [] pos) env = (do
    let ov ← eval o env
    standAt apos.atName
    let (f, first) ← holding [ov] (getMethod ov m q)
    callWith pos f first (backTo pos (starEach xs env)) (backToKw pos (keywordEach [] env))) := by
  refine ⟨do return (← importBound o env).getD true, ?_⟩
  rw [arm_eval_Call, pl_base po]
  have fm := few_of (pos := pos) (env := env) h l
  have hp : ∀ o : Expr, methodCallPos true o env apos pos = pure pos := fun o => by
    unfold methodCallPos
    rw [hl]
    rfl
  unfold methodCall
  rw [fm]
  simp only [hp]
  rfl
def tMethE (C : Addr) (m : Str) (sp : Sp) (E : L2.St → XK) (ta : TE) (t : TA) : TE := fun σ H Q => ta σ H fun x H1 => ∃ a dx fs, x = .ref a ∧ H1 a = some (.ins C dx fs) ∧ fs.lookup m = none ∧ t σ H1 fun vs H2 => sp (x :: vs) H2 Q (E σ)
theorem pe_methE (he : PE X o ta) (c : Cls X.K C) (hm : Meth X.K C m f) (F : FnOk X.prog X.w X.K X.mg X.base CX k f fd ps sp) (hr : Room k X.A) (hb : Binds X.K fd ps []) (hx : ∀ σ, PassesAt CX X σ (E σ)) (po : pl o = true) (pe : (e :: es).all pl = true) (l : (e :: es).length < 30) (hl : (apos.endLine == pos.line) = true) (ha : PA X (e :: es) t) :
    PE X (.Call (.Attribute o m apos) (e :: es) [] pos) (tMethE C m sp E ta t) := by
  refine ⟨fun pins s σ H Q I h => ?_⟩
  obtain ⟨q, ht⟩ := mtree (m := m) po pe l hl X.env
  rw [List.all_cons] at pe
  obtain ⟨p1, p2⟩ := Bool.and_eq_true_iff.mp pe
  refine PySem.W.methodCall_KW (pl := q) (thn (he.run pins s σ H _ I h) fun u s1 ⟨x, H1, I1, rx, a, dx, fs, ex, ea, lk, z⟩ => ?_) ht
  subst ex
  obtain rfl : u = Value.ref a := rx
  refine getmeth_ok I1 ea c hm lk (PySem.W.callWith_K (first := [.ref a]) (h₀ := X.base) I.ok.mod.kin hm.kp ?_ (pl_star p1 es X.env) (pl_stars es p2))
  exact thn (ha.run pos pins s1 σ H1 _ I1 z) fun us s2 ⟨vs, H2, I2, r, z2⟩ => ⟨I2.kIn, run_fnS (us := .ref a :: us) (vs := .ref a :: vs) F hr hb (hx σ) I2 (.cons rfl r) z2⟩
theorem pe_methE0 (he : PE X o ta) (c : Cls X.K C) (hm : Meth X.K C m f) (F : FnOk X.prog X.w X.K X.mg X.base CX k f fd ps sp) (hr : Room k X.A) (hb : Binds X.K fd ps []) (hx : ∀ σ, PassesAt CX X σ (E σ)) (po : pl o = true) (hl : (apos.endLine == pos.line) = true) :
    PE X (.Call (.Attribute o m apos) [] [] pos) (tMethE C m sp E ta tNil) := by
  refine ⟨fun pins s σ H Q I h => ?_⟩
  obtain ⟨q, ht⟩ := mtree (m := m) (xs := []) po rfl (by decide) hl X.env
  refine PySem.W.methodCall_KW (pl := q) (thn (he.run pins s σ H _ I h) fun u s1 ⟨x, H1, I1, rx, a, dx, fs, ex, ea, lk, z⟩ => ?_) ht
  subst ex
  obtain rfl : u = Value.ref a := rx
  exact getmeth_ok I1 ea c hm lk (PySem.W.callWith_K0 (first := [.ref a]) I1.kIn hm.kp (run_fnS (us := [.ref a]) (vs := [.ref a]) F hr hb (hx σ) I1 (.cons rfl .nil) z))
def tMakeE (C : Addr) (sp : Sp) (E : L2.St → XK) (t : TA) : TE := fun σ H Q => t σ H fun vs H1 => ∀ x dx, H1 x = none → H1 dx = none → dx ≠ x → sp (.ref x :: vs) (upd (upd H1 dx (.own x)) x (.ins C dx [])) (fun v H2 => v = .non ∧ Q (.ref x) H2) (E σ)
theorem run_makeE {pins : List (Addr × Obj)} {σ : L2.St} {H : Hp} {s : Shared} {Q : VK} {us : List Value} {vs : List V} (M : Mk X.K C f) (F : FnOk X.prog X.w X.K X.mg X.base CX k f fd ps sp) (hr : Room (k + 1) X.A) (hb : Binds X.K fd ps []) (hx : ∀ σ, PassesAt CX X σ (E σ)) (I : Inv X pins σ H s) (r : Vals vs us)
    (h : ∀ x dx, H x = none → H dx = none → dx ≠ x → sp (.ref x :: vs) (upd (upd H dx (.own x)) x (.ins C dx [])) (fun v H2 => v = .non ∧ Q (.ref x) H2) (E σ)) : wpAny (model X.prog X.w) X.A (call (.ref C) us) (EP X pins σ Q) X.xe s := by
  have z := h (s.heap.objs.size + 1) s.heap.objs.size (I.hok.fresh (Nat.le_succ _)) (I.hok.fresh (Nat.le_refl _)) (Nat.ne_of_lt (Nat.lt_succ_self _))
  have J := Inv.made (C := C) I
  have r2 : Vals (V.ref (s.heap.objs.size + 1) :: vs) (Value.ref (s.heap.objs.size + 1) :: us) := .cons rfl r
  have lu : (Value.ref (s.heap.objs.size + 1) :: us).length = ps.length := r2.length.symm.trans (F.len _ _ _ _ z)
  have b := hb _ (Value.ref (s.heap.objs.size + 1) :: us) J.kIn (by rw [List.append_nil]; exact lu)
  rw [List.append_nil] at b
  refine wpAny_call (make_map (f := f) I.kIn M.makes M.init (beq_iff_eq.mp M.fn) (codeAny_mono (F.run _ X.stack _ _ ⟨_, []⟩ (Value.ref (s.heap.objs.size + 1) :: us) _ _ (E σ) (hr.make C us []) (J.env0.make C us []) b r2 z) fun r s' y => ?_))
  cases r with
  | error e => exact hx σ pins _ _ e s' J y
  | ok fl =>
    cases fl with
    | ret u =>
      obtain ⟨v, H', I3, rv, ev, q3⟩ := J.after y
      subst ev
      exact ⟨rv, ⟨V.ref (s.heap.objs.size + 1), H', I3, rfl, q3⟩⟩
    | next => exact False.elim y
    | brk => exact False.elim y
    | cont => exact False.elim y
theorem pe_makeE (M : Mk X.K C f) (F : FnOk X.prog X.w X.K X.mg X.base CX k f fd ps sp) (hr : Room (k + 1) X.A) (hg : Gl X x) (hm : X.mg x = some (.ref C)) (hb : Binds X.K fd ps []) (hx : ∀ σ, PassesAt CX X σ (E σ)) (hd : (x == ("__debug__" : Str)) = false) (pe : (e :: es).all pl = true) (ha : PA X (e :: es) t) :
    PE X (.Call (.Name x p) (e :: es) [] pos) (tMakeE C sp E t) := by
  rw [List.all_cons] at pe
  obtain ⟨p1, p2⟩ := Bool.and_eq_true_iff.mp pe
  refine ⟨fun pins s σ H Q I h => wpAny_Call_Name_kw (ld_glob I hg hm ?_ hd)⟩
  exact PySem.W.callWith_K (h₀ := X.base) I.ok.mod.kin M.kp (thn (ha.run pos pins s σ H _ I h) fun us s1 ⟨vs, H1, I1, r, z⟩ => ⟨I1.kIn, run_makeE M F hr hb hx I1 r z⟩) (pl_star p1 es X.env) (pl_stars es p2)
theorem pe_makeE0 (M : Mk X.K C f) (F : FnOk X.prog X.w X.K X.mg X.base CX k f fd ps sp) (hr : Room (k + 1) X.A) (hg : Gl X x) (hm : X.mg x = some (.ref C)) (hb : Binds X.K fd ps []) (hx : ∀ σ, PassesAt CX X σ (E σ)) (hd : (x == ("__debug__" : Str)) = false) :
    PE X (.Call (.Name x p) [] [] pos) (tMakeE C sp E tNil) :=
  ⟨fun pins s σ H Q I h => wpAny_Call_Name_kw (ld_glob I hg hm (PySem.W.callWith_K0 I.kIn M.kp (run_makeE (us := []) M F hr hb hx I .nil h)) hd)⟩
end
/-! ### the machine's -/
section
variable {T : NT} {nm : Nm} {cs : Tab} {Wx : WX} {lvl : Nat} {X : Cx}
/-- {} -/
theorem snd_dic0 {pos : Pos} : PE X (.Dict [] [] pos) (tE T Wx cs .dic0) := by
  refine PE.of pe_dnewK fun σ H Q ⟨ρ, h, env, S, r, P⟩ p hp => ?_
  refine P (snoc ρ h.length p) _ _ (ext_alloc S hp (.dic []) (.dK [])) (sim_alloc S hp (.dic upd_same .nil)) ?_
  have q : RW T.K (snoc ρ h.length p) (h ++ [Ob.dic []]).length (upd H p (.dK [])) (.ref h.length) (.ref (snoc ρ h.length p h.length)) := .ref (by simp)
  rw [snoc_at] at q
  exact q
/-- f() -/
theorem pe_callE0 {CX : CXT} {k : Nat} {f : Addr} {fd : FuncData} {ps : List Str} {sp : Sp} {E : L2.St → XK} {x : Str} {p pos : Pos} (F : FnOk X.prog X.w X.K X.mg X.base CX k f fd ps sp) (hr : Room k X.A) (hg : Gl X x) (hm : X.mg x = some (.ref f)) (hk : PySem.W.keepIn X.K (.ref f) = true) (hb : Binds X.K fd ps []) (hx : ∀ σ, PassesAt CX X σ (E σ)) (hd : (x == ("__debug__" : Str)) = false) :
    PE X (.Call (.Name x p) [] [] pos) (tCallS sp E tNil) :=
  ⟨fun pins s σ H Q I h => wpAny_Call_Name_kw (ld_glob I hg hm (PySem.W.callWith_K0 I.kIn hk (run_fnS (us := []) (vs := []) F hr hb (hx σ) I .nil h)) hd)⟩
theorem snd_call0 (g : GX T nm cs Wx lvl X) {k : Nat} {x : Str} {es : Es} {p pos : Pos} (h1 : nm.fn.lookup k = some x) (h2 : glb X.env.scope x = true) (h3 : nodbg x = true) (ha : PA X [] (tEs T Wx cs es)) (he : es = .nil := by rfl) :
    PE X (.Call (.Name x p) [] [] pos) (tE T Wx cs (.call k es)) := by
  subst he
  obtain ⟨a, fd, ps, q1, q2, q3, q4, q5⟩ := (g.fn k x h1).ex
  refine PE.of (pe_callE0 q3 (g.room (g.cool h1)) (glb_of h2) q1 q2 q4 (fun σ => passAt g.tk σ) (nodbg1 h3).1) fun σ H Q q => ?_
  obtain ⟨ρ, h, env, S, r, P⟩ := tM.bind (Rl := RVs T) (f := evs cs .nil) (g := fun _ vs h => cs.get (0, k) vs h) q
  have P := P ρ H [] (Ext.refl ρ h H) S .nil
  obtain ⟨ρ1, h1, env1, x, S1, r1, rx, P1⟩ := P
  have rx : RWs T.K ρ1 h1.length H x [] := rx
  cases rx
  refine ⟨?_, ρ1, h1, [], S1, .nil, P1⟩
  apply Classical.byContradiction
  intro e
  rw [q5 [] h1 e] at P1
  exact P1.elim
theorem snd_fld (g : GX T nm cs Wx lvl X) {cl : List Nat} {o : E} {f : Nat} {y : Str} {l : Expr} {pos : Pos} (hy : nm.fl[f]? = some y) (hn : (cl.all fun c => nm.na.contains (c, f)) = true) (p : pl l = true) (ho : PE X l (tE T Wx cs o)) : PE X (.Attribute l y pos) (tE T Wx cs (.fld cl o f)) := by
  rw [g.fl] at hy
  refine PE.of (pe_fld ho (pl_base p _ _)) fun σ H Q q => ?_
  obtain ⟨ρ, h, env, S, r, P⟩ := tM.bind (Rl := RV T) (f := ev cs o) (g := fun _ x h => getF cl f x h) q
  refine ⟨ρ, h, env, S, r, P.imp fun v H1 ⟨ρ1, h1, env1, x, S1, r1, rx, P1⟩ => ?_⟩
  unfold getF at P1
  cases x with
  | ref n =>
    dsimp only at P1
    cases e : h1[n]? with
    | none =>
      rw [e] at P1
      exact P1.elim
    | some ob =>
      rw [e] at P1
      cases ob with
      | ins c fs =>
        dsimp only at P1
        split at P1
        · rename_i hc
          obtain ⟨dx, gs, q1, q2⟩ := S1.ins e
          cases e2 : fs.lookup f with
          | none =>
            rw [e2] at P1
            exact P1.elim
          | some w =>
            rw [e2] at P1
            obtain ⟨u, q3, q4⟩ := FR.at hy q2 e2
            have hmem := List.all_eq_true.mp hn c (by simpa using hc)
            obtain ⟨k1, k2⟩ := g.na c f y (by simpa using hmem) hy
            cases (show RW T.K ρ1 h1.length H1 (.ref n) v from rx)
            exact ⟨_, _, dx, gs, u, rfl, q1, k1, k2, q3, post_ok P1 S1 q4⟩
        · exact P1.elim
      | _ => exact P1.elim
  | _ => exact P1.elim
theorem meth_red {C : Addr} {c m : Nat} {y : Str} {o : E} {es : Es} {n : Nat} (hC : C = T.cl c) (hy : y ∉ T.fld) (q5 : ∀ ws h, ws.length ≠ n → cs.get (c + 1, m) ws h = .bad) {σ : L2.St} {H : Hp} {Q : VK} (q : tE T Wx cs (.meth c m o es) σ H Q) : tMethE C y (spOf T n (cs.get (c + 1, m))) (WE Wx) (tE T Wx cs o) (tEs T Wx cs es) σ H Q := by
  obtain ⟨ρ, h, env, S, r, P⟩ := tM.bind (Rl := RV T) (f := ev cs o) (g := fun env x h => (if isI c x h then (evs cs es env h).bind fun vs h => cs.get (c + 1, m) (x :: vs) h else .bad : R W)) q
  refine ⟨ρ, h, env, S, r, P.imp fun v H1 ⟨ρ1, h1, env1, x, S1, r1, rx, P1⟩ => ?_⟩
  split at P1
  · rename_i hi
    unfold isI at hi
    cases x with
    | ref k =>
      dsimp only at hi
      cases e : h1[k]? with
      | none =>
        rw [e] at hi
        exact nomatch hi
      | some ob =>
        rw [e] at hi
        cases ob with
        | ins d fs =>
          obtain rfl : d = c := of_decide_eq_true hi
          obtain ⟨dx, gs, q1, q2⟩ := S1.ins e
          have rx : RW T.K ρ1 h1.length H1 (.ref k) v := rx
          have rx0 := rx
          cases rx
          refine ⟨_, dx, gs, rfl, by rw [hC]; exact q1, FR.none hy q2, ρ1, h1, env1, S1, r1, (P1.bind (Rl := RVs T)).imp fun u H2 ⟨ρ2, h2, ws, _, e2, S2, rs, P2⟩ => ?_⟩
          refine ⟨?_, ρ2, h2, .ref k :: ws, S2, .cons (RW.mono e2 rx0) rs, P2⟩
          have rs : RWs T.K ρ2 h2.length H2 ws u := rs
          rw [List.length_cons, rs.length]
          apply Classical.byContradiction
          intro z
          rw [q5 (.ref k :: ws) h2 z] at P2
          exact P2.elim
        | _ => exact nomatch hi
    | _ => exact nomatch hi
  · exact P1.elim
theorem snd_meth (g : GX T nm cs Wx lvl X) {c m : Nat} {y : Str} {o : E} {es : Es} {l e : Expr} {xs : List Expr} {apos pos : Pos} (hy : nm.mth.lookup (c, m) = some y) (po : pl l = true) (pe : (e :: xs).all pl = true) (ln : (e :: xs).length < 30) (hl : (apos.endLine == pos.line) = true) (ho : PE X l (tE T Wx cs o)) (ha : PA X (e :: xs) (tEs T Wx cs es)) :
    PE X (.Call (.Attribute l y apos) (e :: xs) [] pos) (tE T Wx cs (.meth c m o es)) := by
  obtain ⟨k1, k2, ⟨j, a, fd, ps, q1, q2, q3, q4, q5⟩⟩ := g.mt c m y hy
  exact PE.of (pe_methE ho k1 q2 (q3.mono (Nat.le_of_succ_le q1)) (g.room (g.coolm hy)) q4 (fun σ => passAt g.tk σ) po pe ln hl ha) fun σ H Q q => meth_red rfl k2 q5 q
theorem snd_meth0 (g : GX T nm cs Wx lvl X) {c m : Nat} {y : Str} {o : E} {l : Expr} {apos pos : Pos} (hy : nm.mth.lookup (c, m) = some y) (po : pl l = true) (hl : (apos.endLine == pos.line) = true) (ho : PE X l (tE T Wx cs o)) :
    PE X (.Call (.Attribute l y apos) [] [] pos) (tE T Wx cs (.meth c m o .nil)) := by
  obtain ⟨k1, k2, ⟨j, a, fd, ps, q1, q2, q3, q4, q5⟩⟩ := g.mt c m y hy
  refine PE.of (pe_methE0 ho k1 q2 (q3.mono (Nat.le_of_succ_le q1)) (g.room (g.coolm hy)) q4 (fun σ => passAt g.tk σ) po hl) fun σ H Q q => ?_
  have z := meth_red (Q := Q) rfl k2 q5 q
  obtain ⟨ρ, h, env, S, r, P⟩ := z
  refine ⟨ρ, h, env, S, r, P.imp fun v H1 ⟨b, dx, fs, e1, e2, e3, ρ1, h1, env1, S1, r1, P1⟩ => ⟨b, dx, fs, e1, e2, e3, ?_⟩⟩
  exact P1 ρ1 H1 [] (Ext.refl ρ1 h1 H1) S1 .nil
theorem make_red {C : Addr} {c : Nat} {es : Es} {n : Nat} (hC : C = T.cl c) (q5 : ∀ ws h, ws.length ≠ n → cs.get (c + 1, 0) ws h = .bad) {σ : L2.St} {H : Hp} {Q : VK} (q : tE T Wx cs (.make c es) σ H Q) : tMakeE C (spOf T n (cs.get (c + 1, 0))) (WE Wx) (tEs T Wx cs es) σ H Q := by
  obtain ⟨ρ, h, env, S, r, P⟩ := tM.bind (Rl := RVs T) (f := evs cs es) (g := fun _ vs h => (cs.get (c + 1, 0) (.ref h.length :: vs) (h ++ [.ins c []])).bind fun v h' => (if v = .non then .ok (.ref h.length) h' else .bad : R W)) q
  refine ⟨ρ, h, env, S, r, P.imp fun vs H1 ⟨ρ1, h1, env1, ws, S1, r1, rs, P1⟩ x dx hx hdx ne => ?_⟩
  have rs : RWs T.K ρ1 h1.length H1 ws vs := rs
  subst hC
  have S2 := sim_tup S1 hdx (.own x)
  have E2 := ext_tup S1 hdx (.own x)
  have hx2 : upd H1 dx (.own x) x = none := by
    rw [upd_ne (Ne.symm ne)]
    exact hx
  have E3 := ext_alloc S2 hx2 (.ins c []) (.ins (T.cl c) dx [])
  have S3 : Sim T (snoc ρ1 h1.length x) (h1 ++ [.ins c []]) (upd (upd H1 dx (.own x)) x (.ins (T.cl c) dx [])) := sim_alloc S2 hx2 (.ins upd_same .nil)
  have E := E2.trans E3
  have rx : RW T.K (snoc ρ1 h1.length x) (h1 ++ [Ob.ins c []]).length (upd (upd H1 dx (.own x)) x (.ins (T.cl c) dx [])) (.ref h1.length) (.ref (snoc ρ1 h1.length x h1.length)) := .ref (by simp)
  have sn : snoc ρ1 h1.length x h1.length = x := snoc_at _ _ _
  rw [sn] at rx
  refine ⟨?_, snoc ρ1 h1.length x, h1 ++ [.ins c []], .ref h1.length :: ws, S3, .cons rx (RWs.mono E rs), ?_⟩
  · rw [List.length_cons, rs.length]
    apply Classical.byContradiction
    intro z
    rw [q5 (.ref h1.length :: ws) _ z] at P1
    exact P1.elim
  · have P2 := ((P1.from E).bind (Rl := RV T)).imp (Q' := fun v H2 => v = .non ∧ Q (.ref x) H2) fun v H2 ⟨ρ2, h2, w, _, e2, S4, rv, P3⟩ => by
      have rv : RW T.K ρ2 h2.length H2 w v := rv
      split at P3
      · rename_i hw
        subst hw
        cases rv
        refine ⟨rfl, post_ok P3 S4 ?_⟩
        have q := RW.mono e2 rx
        exact q
      · exact P3.elim
    exact P2
theorem snd_make (g : GX T nm cs Wx lvl X) {c : Nat} {x : Str} {es : Es} {e : Expr} {xs : List Expr} {p pos : Pos} (h1 : nm.cls.lookup c = some x) (h0 : nm.mth.lookup (c, 0) = some "__init__") (h2 : glb X.env.scope x = true) (h3 : nodbg x = true) (pe : (e :: xs).all pl = true) (ha : PA X (e :: xs) (tEs T Wx cs es)) :
    PE X (.Call (.Name x p) (e :: xs) [] pos) (tE T Wx cs (.make c es)) := by
  obtain ⟨k1, k2, ⟨j, a, fd, ps, q1, q2, q3, q4, q5⟩⟩ := g.mt c 0 _ h0
  obtain ⟨m1, m2, m3⟩ := g.mkc c x h1
  exact PE.of (pe_makeE ⟨m2, q2.at_, q2.fn, m3⟩ q3 ((g.room (g.coolm h0)).mono q1) (glb_of h2) m1 q4 (fun σ => passAt g.tk σ) (nodbg1 h3).1 pe ha) fun σ H Q q => make_red rfl q5 q
theorem snd_make0 (g : GX T nm cs Wx lvl X) {c : Nat} {x : Str} {p pos : Pos} (h1 : nm.cls.lookup c = some x) (h0 : nm.mth.lookup (c, 0) = some "__init__") (h2 : glb X.env.scope x = true) (h3 : nodbg x = true) :
    PE X (.Call (.Name x p) [] [] pos) (tE T Wx cs (.make c .nil)) := by
  obtain ⟨k1, k2, ⟨j, a, fd, ps, q1, q2, q3, q4, q5⟩⟩ := g.mt c 0 _ h0
  obtain ⟨m1, m2, m3⟩ := g.mkc c x h1
  refine PE.of (pe_makeE0 ⟨m2, q2.at_, q2.fn, m3⟩ q3 ((g.room (g.coolm h0)).mono q1) (glb_of h2) m1 q4 (fun σ => passAt g.tk σ) (nodbg1 h3).1) fun σ H Q q => ?_
  obtain ⟨ρ, h, env, S, r, P⟩ := make_red (Q := Q) rfl q5 q
  exact P ρ H [] (Ext.refl ρ h H) S .nil
end
end DM

/-! The deep machine: what loops walk; comprehensions. -/
namespace DM
open PySem L2 PySem.Spec PyProof.Rows
/-- an iterator gives the items of a walk -/
structure JW (T : NT) (ρ0 : Nat → Addr) (h0 : Mem) (H0 : Hp) (w : Walk) (J : L2.It) : Prop where
  go : ∀ i ρ h H, Ext T.K ρ0 h0 H0 ρ h H → Sim T ρ h H → stays h w = true → i < w.xs.length → J.go i H ∧ ∀ x H', J.yld i H x H' → ∃ ww, w.xs[i]? = some ww ∧ Ext T.K ρ h H ρ h H' ∧ Sim T ρ h H' ∧ RW T.K ρ h.length H' ww x ∧ ∀ b, H b ≠ none → H' b = H b
  stop : ∀ ρ h H, Ext T.K ρ0 h0 H0 ρ h H → Sim T ρ h H → stays h w = true → J.stop w.xs.length H
abbrev RIt (T : NT) : (Nat → Addr) → Mem → Hp → Walk → L2.It → Prop := fun ρ h H w J => JW T ρ h H w J
section
variable {T : NT} {nm : Nm} {cs : Tab} {Wx : WX} {lvl : Nat} {X : Cx} {ρ : Nat → Addr} {h : Mem} {H : Hp}
theorem jw_tup {ws : List W} {a : Addr} {vs : List V} (s : SqT T.K H a vs) (r : RWs T.K ρ h.length H ws vs) : JW T ρ h H ⟨ws, none, []⟩ (Itt T.K a) := by
  refine ⟨fun i ρ1 h1 H1 e S _ hi => ?_, fun ρ1 h1 H1 e S _ => ?_⟩
  · have s1 := e.tup _ _ s
    obtain ⟨v, q1, q2⟩ := r.at (List.getElem?_eq_getElem hi)
    refine ⟨⟨vs, v, s1, q1⟩, fun x H' y => ?_⟩
    obtain ⟨rfl, y⟩ := y
    have := y vs s1
    rw [q1] at this
    cases this
    exact ⟨_, List.getElem?_eq_getElem hi, Ext.refl _ _ _, S, q2.mono e, fun _ _ => rfl⟩
  · exact ⟨vs, e.tup _ _ s, by rw [r.length]; exact Nat.le_refl _⟩
theorem jw_con {ws : List W} {a : Addr} {vs : List V} (s : SqC T.K H a vs) (r : RWs T.K ρ h.length H ws vs) : JW T ρ h H ⟨ws, none, []⟩ (Itl T.K a) := by
  refine ⟨fun i ρ1 h1 H1 e S _ hi => ?_, fun ρ1 h1 H1 e S _ => ?_⟩
  · have s1 := (e.con _ _ s).l
    obtain ⟨v, q1, q2⟩ := r.at (List.getElem?_eq_getElem hi)
    refine ⟨⟨vs, v, s1, q1⟩, fun x H' y => ?_⟩
    obtain ⟨rfl, y⟩ := y
    have := y vs s1
    rw [q1] at this
    cases this
    exact ⟨_, List.getElem?_eq_getElem hi, Ext.refl _ _ _, S, q2.mono e, fun _ _ => rfl⟩
  · exact ⟨vs, (e.con _ _ s).l, by rw [r.length]; exact Nat.le_refl _⟩
theorem jw_lst {ws : List W} {n : Nat} (hn : n < h.length) : JW T ρ h H ⟨ws, some n, []⟩ (Itl T.K (ρ n)) := by
  have key : ∀ ρ1 h1 H1, Ext T.K ρ h H ρ1 h1 H1 → Sim T ρ1 h1 H1 → stays h1 ⟨ws, some n, []⟩ = true → ∃ vs, SqL T.K H1 (ρ n) vs ∧ RWs T.K ρ1 h1.length H1 ws vs := by
    intro ρ1 h1 H1 e S st
    have st : (decide (getL h1 (.ref n) = some ws) && true) = true := st
    rw [Bool.and_true] at st
    have st := of_decide_eq_true st
    unfold getL at st
    dsimp only at st
    split at st
    · rename_i xs ex
      cases st
      obtain ⟨vs, q1, q2⟩ := S.lst ex
      rw [e.agr n hn] at q1
      exact ⟨vs, .of q1, q2⟩
    · cases st
  refine ⟨fun i ρ1 h1 H1 e S st hi => ?_, fun ρ1 h1 H1 e S st => ?_⟩
  · obtain ⟨vs, s1, r⟩ := key ρ1 h1 H1 e S st
    obtain ⟨v, q1, q2⟩ := r.at (List.getElem?_eq_getElem hi)
    refine ⟨⟨vs, v, s1, q1⟩, fun x H' y => ?_⟩
    obtain ⟨rfl, y⟩ := y
    have := y vs s1
    rw [q1] at this
    cases this
    exact ⟨_, List.getElem?_eq_getElem hi, Ext.refl _ _ _, S, q2, fun _ _ => rfl⟩
  · obtain ⟨vs, s1, r⟩ := key ρ1 h1 H1 e S st
    exact ⟨vs, s1, by rw [r.length]; exact Nat.le_refl _⟩
theorem jw_str {x : List Nat} (o : okS x) : JW T ρ h H ⟨x.map fun c => .str [c], none, []⟩ (Its ⟨x.toArray⟩) := by
  refine ⟨fun i ρ1 h1 H1 e S _ hi => ?_, fun ρ1 h1 H1 e S _ => ?_⟩
  · have hi' : i < x.length := by simpa using hi
    refine ⟨by show i < x.toArray.size; simpa using hi', fun y H' q => ?_⟩
    obtain ⟨rfl, c, e1, rfl⟩ := q
    have e1 : x[i]? = some c := by simpa using e1
    have hc : c ∈ x := List.mem_of_getElem? e1
    refine ⟨.str [c], by rw [List.getElem?_map, e1]; rfl, Ext.refl _ _ _, S, ?_, fun _ _ => rfl⟩
    exact .str [c] (okS_sub o (by have := List.length_pos_of_mem hc; show 1 ≤ x.length; omega) (by simpa using hc))
  · show x.toArray.size ≤ (x.map _).length
    simp
theorem jw_up (lo : Int) (n : Nat) : JW T ρ h H ⟨upL lo n, none, []⟩ (Itr lo n) := by
  have hl : (upL lo n).length = n := by
    unfold upL
    simp
  refine ⟨fun i ρ1 h1 H1 e S _ hi => ?_, fun ρ1 h1 H1 e S _ => ?_⟩
  · have hi' : i < n := by
      have hi : i < (upL lo n).length := hi
      omega
    refine ⟨hi', fun y H' q => ?_⟩
    obtain ⟨rfl, rfl⟩ := q
    refine ⟨.int (lo + (i : Nat)), ?_, Ext.refl _ _ _, S, .int _, fun _ _ => rfl⟩
    unfold upL
    simp [List.getElem?_map, List.getElem?_range hi']
  · show n ≤ (upL lo n).length
    omega
theorem jw_rng (lo st : Int) (n : Nat) : JW T ρ h H ⟨rngL lo st n, none, []⟩ (Itc lo st n) := by
  have hl : (rngL lo st n).length = n := by
    unfold rngL
    simp
  refine ⟨fun i ρ1 h1 H1 e S _ hi => ?_, fun ρ1 h1 H1 e S _ => ?_⟩
  · have hi' : i < n := by
      have hi : i < (rngL lo st n).length := hi
      omega
    refine ⟨hi', fun y H' q => ?_⟩
    obtain ⟨rfl, rfl⟩ := q
    refine ⟨.int (lo + (i : Nat) * st), ?_, Ext.refl _ _ _, S, .int _, fun _ _ => rfl⟩
    unfold rngL
    simp [List.getElem?_map, List.getElem?_range hi']
  · show n ≤ (rngL lo st n).length
    omega
/-- a list, a tuple, a text, walked -/
theorem snd_of (hK : X.K = T.K) {e : E} {x tg : Expr} (he : PE X x (tE T Wx cs e)) : PI X tg x (tM T Wx (RIt T) (evi cs (.of e))) := by
  refine ⟨fun pins s σ H R I q => ?_⟩
  obtain ⟨ρ, h, env, S, er, P⟩ := q
  have P' : PostG T (RIt T) (WE Wx σ) ρ h H ((ev cs e env h).bind fun x h => match walkOf h x with
    | some w => .ok w h
    | none => .bad) R := P
  have lstc : (∃ a h1 ws, ev cs e env h = .ok (.ref a) h1 ∧ h1[a]? = some (.lst ws)) ∨ (∃ ws h1, ev cs e env h = .ok (.con ws) h1) ∨ (∃ z h1, ev cs e env h = .ex z h1) → wpAny (model X.prog X.w) X.A (eval x X.env) (fun v s1 => wpAny (model X.prog X.w) X.A (pyIter v) (PIE X pins σ tg R) X.xe s1) X.xe s := by
    intro c
    refine (pi_list he).run pins s σ H R I ⟨ρ, h, env, S, er, P'.bind.imp fun v H1 ⟨ρ1, h1, w, ew, e1, S1, rw', P1⟩ => ?_⟩
    have rw' : RW T.K ρ1 h1.length H1 w v := rw'
    rw [ew] at c
    rcases c with ⟨a, h2, ws, c1, c2⟩ | ⟨ws, h2, c⟩ | ⟨z, h2, c⟩
    · cases c1
      cases rw' with
      | ref hn =>
        obtain ⟨vs, q1, q2⟩ := S1.lst c2
        unfold walkOf getL at P1
        dsimp only at P1
        rw [c2] at P1
        exact ⟨_, rfl, ⟨vs, by rw [hK]; exact .of q1⟩, by rw [hK]; exact P1 ρ1 H1 _ (Ext.refl ρ1 h1 H1) S1 (jw_lst hn)⟩
    · cases c
      cases rw' with
      | con sx rx => exact ⟨_, rfl, ⟨_, by rw [hK]; exact sx.l⟩, by rw [hK]; exact P1 ρ1 H1 _ (Ext.refl ρ1 h1 H1) S1 (jw_con sx rx)⟩
    · cases c
  cases ee : ev cs e env h with
  | ex z m => exact lstc (.inr (.inr ⟨z, m, ee⟩))
  | bad =>
    rw [ee] at P'
    exact P'.elim
  | ok w h1 =>
    cases w with
    | con ws => exact lstc (.inr (.inl ⟨ws, h1, ee⟩))
    | ref a =>
      cases q : h1[a]? with
      | none =>
        rw [ee] at P'
        have P2 : PostG T (RIt T) (WE Wx σ) ρ h H (match walkOf h1 (.ref a) with
          | some w => .ok w h1
          | none => .bad) R := P'
        unfold walkOf getL at P2
        dsimp only at P2
        rw [q] at P2
        exact P2.elim
      | some o => cases o with
        | lst ws => exact lstc (.inl ⟨a, h1, ws, ee, q⟩)
        | _ =>
          rw [ee] at P'
          have P2 : PostG T (RIt T) (WE Wx σ) ρ h H (match walkOf h1 (.ref a) with
            | some w => .ok w h1
            | none => .bad) R := P'
          unfold walkOf getL at P2
          dsimp only at P2
          rw [q] at P2
          exact P2.elim
    | tup ws =>
      refine (pi_tup he).run pins s σ H R I ⟨ρ, h, env, S, er, P'.bind.imp fun v H1 ⟨ρ1, h2, w, ew, e1, S1, rw', P1⟩ => ?_⟩
      have rw' : RW T.K ρ1 h2.length H1 w v := rw'
      rw [ee] at ew
      cases ew
      cases rw' with
      | tup sx rx => exact ⟨_, rfl, ⟨_, by rw [hK]; exact sx⟩, by rw [hK]; exact P1 ρ1 H1 _ (Ext.refl ρ1 h1 H1) S1 (jw_tup sx rx)⟩
    | str z =>
      refine (pi_str he).run pins s σ H R I ⟨ρ, h, env, S, er, P'.bind.imp fun v H1 ⟨ρ1, h2, w, ew, e1, S1, rw', P1⟩ => ?_⟩
      have rw' : RW T.K ρ1 h2.length H1 w v := rw'
      rw [ee] at ew
      cases ew
      cases rw' with
      | str _ o => exact ⟨_, rfl, P1 ρ1 H1 _ (Ext.refl ρ1 h1 H1) S1 (jw_str o)⟩
    | _ =>
      rw [ee] at P'
      exact P'.elim

theorem far_of {i : Int} (h : far i = false) : -1000000000000 ≤ i ∧ i ≤ 1000000000000 := by
  unfold far at h
  simp only [Bool.or_eq_false_iff, decide_eq_false_iff_not] at h
  omega
theorem rng_cond {i j st : Int} {w : Walk} (h : rngOf i j st = some w) : (-(2 ^ 62) ≤ i ∧ i < 2 ^ 62 ∧ -(2 ^ 62) ≤ j ∧ j < 2 ^ 62) ∧ ((st = 1 ∧ w = ⟨upL i (j - i).toNat, none, []⟩) ∨ (1 < st ∧ st ≤ 1000000 ∧ w = ⟨rngL i st (if i < j then (j - i - 1) / st + 1 else 0).toNat, none, []⟩ ∧ (-1000000000000 ≤ i ∧ i ≤ 1000000000000) ∧ -1000000000000 ≤ j ∧ j ≤ 1000000000000)) := by
  unfold rngOf at h
  split at h
  · cases h
  · rename_i hf
    have hf : far i = false ∧ far j = false := by simpa using hf
    have f1 := far_of hf.1
    have f2 := far_of hf.2
    refine ⟨by omega, ?_⟩
    split at h
    · rename_i e
      cases h
      exact .inl ⟨e, rfl⟩
    · split at h
      · rename_i hs
        cases h
        exact .inr ⟨hs.1, hs.2, rfl, f1, f2⟩
      · cases h
theorem rgc_up {i j st : Int} (h1 : 1 < st) (h2 : st ≤ 1000000) (hi : -1000000000000 ≤ i ∧ i ≤ 1000000000000) (hj : -1000000000000 ≤ j ∧ j ≤ 1000000000000) : RgC i j st (if i < j then (j - i - 1) / st + 1 else 0).toNat := by
  have hs : Builtin.Range.rangeSize i j st = if i < j then (j - i - 1) / st + 1 else 0 := by
    unfold Builtin.Range.rangeSize;
    rw [if_pos (show st > 0 by omega)]
  have nn : i < j → 0 ≤ (j - i - 1) / st := fun l => Int.ediv_nonneg (by omega) (by omega)
  have lt : i < j → (j - i - 1) / st ≤ j - i - 1 := fun l => Int.ediv_le_self _ (by omega)
  refine ⟨by omega, by omega, ?_, ?_⟩
  · unfold Builtin.Range.small
    rw [hs]
    simp only [Builtin.Range.rangeFitsLong, Bool.and_eq_true, Bool.or_eq_true, decide_eq_true_eq, beq_iff_eq, show st > 0 by omega, if_true]
    split
    · rename_i l
      have := nn l
      have := lt l
      have : (j - i - 1) / st * st ≤ j - i - 1 := Int.ediv_mul_le _ (by omega)
      generalize (j - i - 1) / st = q at *
      omega
    · omega
  · rw [hs]
    split
    · rename_i l
      have := nn l
      omega
    · rfl

theorem rng_fin {i j st : Int} {w : Walk} {R : L2.It → Hp → Prop} {E : XK} (e : rngOf i j st = some w) (S : Sim T ρ h H) (P : PostG T (RIt T) E ρ h H (match rngOf i j st with
      | some w => .ok w h
      | none => .bad) R) {J : L2.It} (q : JW T ρ h H w J) : R J H := by
  rw [e] at P
  exact P ρ H J (Ext.refl ρ h H) S q
theorem snd_rng1 (g : GX T nm cs Wx lvl X) {e : E} {a tg : Expr} {p pos : Pos} (hg : glb X.env.scope "range" = true) (pa : pl a = true) (ha : PE X a (tE T Wx cs e)) : PI X tg (.Call (.Name "range" p) [a] [] pos) (tM T Wx (RIt T) (evi cs (.rng1 e))) := by
  refine ⟨fun pins s σ H R I q => (pi_range1 (glb_of hg) (g.bl _ (by decide +kernel)) (snd_cons pa ha snd_nil) (by rw [pl_star pa]; rfl)).run pins s σ H R I ?_⟩
  obtain ⟨ρ, h, env, S, er, P⟩ := q
  have P' : PostG T (RIt T) (WE Wx σ) ρ h H ((ev cs e env h).bind fun x h => match x with
    | .int j => match rngOf 0 j 1 with
      | some w => .ok w h
      | none => .bad
    | _ => .bad) R := P
  refine ⟨ρ, h, env, S, er, ?_⟩
  show PostG T (RVs T) (WE Wx σ) ρ h H ((ev cs e env h).bind fun x h => .ok [x] h) _
  cases ee : ev cs e env h with
  | ex z m =>
    rw [ee] at P'
    exact P'
  | bad =>
    rw [ee] at P'
    exact P'.elim
  | ok x h1 =>
    rw [ee] at P'
    intro ρ1 H1 vs e1 S1 rs
    have P2 := P'.from e1
    have rs : RWs T.K ρ1 h1.length H1 [x] vs := rs
    cases rs with
    | cons rx rn =>
      cases rn
      cases rx with
      | int j =>
        have P2 : PostG T (RIt T) (WE Wx σ) ρ1 h1 H1 (match rngOf 0 j 1 with
          | some w => .ok w h1
          | none => .bad) R := P2
        cases er' : rngOf 0 j 1 with
        | none =>
          rw [er'] at P2
          exact P2.elim
        | some w =>
          obtain ⟨c, d⟩ := rng_cond er'
          rcases d with ⟨_, rfl⟩ | ⟨d1, _⟩
          · refine ⟨j, rfl, c.2.2.1, c.2.2.2, rng_fin er' S1 P2 ?_⟩
            have e0 : (j - 0).toNat = j.toNat := by simp
            rw [e0]
            exact jw_up 0 j.toNat
          · omega
      | _ => exact P2.elim
theorem snd_rng2 (g : GX T nm cs Wx lvl X) {e e' : E} {a b tg : Expr} {p pos : Pos} (hg : glb X.env.scope "range" = true) (pa : pl a = true) (pb : pl b = true) (ha : PE X a (tE T Wx cs e)) (hb : PE X b (tE T Wx cs e')) : PI X tg (.Call (.Name "range" p) [a, b] [] pos) (tM T Wx (RIt T) (evi cs (.rng2 e e'))) := by
  refine ⟨fun pins s σ H R I q => (pi_range2 (glb_of hg) (g.bl _ (by decide +kernel)) (snd_cons pa ha (snd_cons pb hb snd_nil)) (by rw [pl_star pa, pl_star pb]; rfl) (by rw [pl_star pb]; rfl)).run pins s σ H R I ?_⟩
  obtain ⟨ρ, h, env, S, er, P⟩ := q
  have P' : PostG T (RIt T) (WE Wx σ) ρ h H ((ev cs e env h).bind fun x h => (ev cs e' env h).bind fun y h => match (generalizing := false) x, y with
    | .int i, .int j => match rngOf i j 1 with
      | some w => .ok w h
      | none => .bad
    | _, _ => .bad) R := P
  refine ⟨ρ, h, env, S, er, ?_⟩
  show PostG T (RVs T) (WE Wx σ) ρ h H ((ev cs e env h).bind fun x h => ((ev cs e' env h).bind fun y h => .ok [y] h).bind fun ys h => .ok (x :: ys) h) _
  cases ee : ev cs e env h with
  | ex z m =>
    rw [ee] at P'
    exact P'
  | bad =>
    rw [ee] at P'
    exact P'.elim
  | ok x h1 =>
    rw [ee] at P'
    have P' : PostG T (RIt T) (WE Wx σ) ρ h H ((ev cs e' env h1).bind fun y h => match (generalizing := false) x, y with
      | .int i, .int j => match rngOf i j 1 with
        | some w => .ok w h
        | none => .bad
      | _, _ => .bad) R := P'
    show PostG T (RVs T) (WE Wx σ) ρ h H (((ev cs e' env h1).bind fun y h => .ok [y] h).bind fun ys h => .ok (x :: ys) h) _
    cases ee2 : ev cs e' env h1 with
    | ex z m =>
      rw [ee2] at P'
      exact P'
    | bad =>
      rw [ee2] at P'
      exact P'.elim
    | ok y h2 =>
      rw [ee2] at P'
      intro ρ1 H1 vs e1 S1 rs
      have P2 := P'.from e1
      have rs : RWs T.K ρ1 h2.length H1 [x, y] vs := rs
      cases rs with
      | cons rx rn => cases rn with
        | cons ry rn =>
          cases rn
          cases rx with
          | int i => cases ry with
            | int j =>
              have P2 : PostG T (RIt T) (WE Wx σ) ρ1 h2 H1 (match rngOf i j 1 with
                | some w => .ok w h2
                | none => .bad) R := P2
              cases er' : rngOf i j 1 with
              | none =>
                rw [er'] at P2
                exact P2.elim
              | some w =>
                obtain ⟨c, d⟩ := rng_cond er'
                rcases d with ⟨_, rfl⟩ | ⟨d1, _⟩
                · exact ⟨i, j, rfl, c, rng_fin er' S1 P2 (jw_up i _)⟩
                · omega
            | _ => exact P2.elim
          | _ => exact P2.elim
theorem snd_rng3 (g : GX T nm cs Wx lvl X) {e e' e'' : E} {a b c tg : Expr} {p pos : Pos} (hg : glb X.env.scope "range" = true) (pa : pl a = true) (pb : pl b = true) (pc : pl c = true) (ha : PE X a (tE T Wx cs e)) (hb : PE X b (tE T Wx cs e')) (hc : PE X c (tE T Wx cs e'')) : PI X tg (.Call (.Name "range" p) [a, b, c] [] pos) (tM T Wx (RIt T) (evi cs (.rng3 e e' e''))) := by
  refine ⟨fun pins s σ H R I q => ?_⟩
  obtain ⟨ρ, h, env, S, er, P⟩ := q
  have P' : PostG T (RIt T) (WE Wx σ) ρ h H ((ev cs e env h).bind fun x h => (ev cs e' env h).bind fun y h => (ev cs e'' env h).bind fun z h => match (generalizing := false) x, y, z with
    | .int i, .int j, .int k => match rngOf i j k with
      | some w => .ok w h
      | none => .bad
    | _, _, _ => .bad) R := P
  -- three written parts: the step tells which iterator
  have go : PI X tg (.Call (.Name "range" p) [a, b, c] [] pos) (iRng3 (tEs T Wx cs (.cons e (.cons e' (.cons e'' .nil))))) := pi_range3 (glb_of hg) (g.bl _ (by decide +kernel)) (snd_cons pa ha (snd_cons pb hb (snd_cons pc hc snd_nil))) (by rw [pl_star pa]) (pl_stars [b, c] (by simp [pb, pc]))
  refine go.run pins s σ H R I ⟨ρ, h, env, S, er, ?_⟩
  show PostG T (RVs T) (WE Wx σ) ρ h H ((ev cs e env h).bind fun x h => ((ev cs e' env h).bind fun y h => ((ev cs e'' env h).bind fun z h => .ok [z] h).bind fun zs h => .ok (y :: zs) h).bind fun ys h => .ok (x :: ys) h) _
  cases ee : ev cs e env h with
  | ex z m =>
    rw [ee] at P'
    exact P'
  | bad =>
    rw [ee] at P'
    exact P'.elim
  | ok x h1 =>
    rw [ee] at P'
    have P' : PostG T (RIt T) (WE Wx σ) ρ h H ((ev cs e' env h1).bind fun y h => (ev cs e'' env h).bind fun z h => match (generalizing := false) x, y, z with
      | .int i, .int j, .int k => match rngOf i j k with
        | some w => .ok w h
        | none => .bad
      | _, _, _ => .bad) R := P'
    show PostG T (RVs T) (WE Wx σ) ρ h H (((ev cs e' env h1).bind fun y h => ((ev cs e'' env h).bind fun z h => .ok [z] h).bind fun zs h => .ok (y :: zs) h).bind fun ys h => .ok (x :: ys) h) _
    cases ee2 : ev cs e' env h1 with
    | ex z m =>
      rw [ee2] at P'
      exact P'
    | bad =>
      rw [ee2] at P'
      exact P'.elim
    | ok y h2 =>
      rw [ee2] at P'
      have P' : PostG T (RIt T) (WE Wx σ) ρ h H ((ev cs e'' env h2).bind fun z h => match (generalizing := false) x, y, z with
        | .int i, .int j, .int k => match rngOf i j k with
          | some w => .ok w h
          | none => .bad
        | _, _, _ => .bad) R := P'
      show PostG T (RVs T) (WE Wx σ) ρ h H ((((ev cs e'' env h2).bind fun z h => .ok [z] h).bind fun zs h => .ok (y :: zs) h).bind fun ys h => .ok (x :: ys) h) _
      cases ee3 : ev cs e'' env h2 with
      | ex z m =>
        rw [ee3] at P'
        exact P'
      | bad =>
        rw [ee3] at P'
        exact P'.elim
      | ok z h3 =>
        rw [ee3] at P'
        intro ρ1 H1 vs e1 S1 rs
        have P2 := P'.from e1
        have rs : RWs T.K ρ1 h3.length H1 [x, y, z] vs := rs
        cases rs with
        | cons rx rn => cases rn with
          | cons ry rn => cases rn with
            | cons rz rn =>
              cases rn
              cases rx with
              | int i => cases ry with
                | int j => cases rz with
                  | int k =>
                    have P2 : PostG T (RIt T) (WE Wx σ) ρ1 h3 H1 (match rngOf i j k with
                      | some w => .ok w h3
                      | none => .bad) R := P2
                    cases er' : rngOf i j k with
                    | none =>
                      rw [er'] at P2
                      exact P2.elim
                    | some w =>
                      obtain ⟨cc, d⟩ := rng_cond er'
                      rcases d with ⟨rfl, rfl⟩ | ⟨d1, d2, rfl, d3, d4⟩
                      · refine ⟨i, j, 1, (j - i).toNat, rfl, ⟨by decide, by decide, small_one cc.1 cc.2.1 cc.2.2.1 cc.2.2.2, ?_⟩, rng_fin er' S1 P2 ?_⟩
                        · rw [rangeSize_one]
                          split <;> omega
                        · have j1 := jw_rng (T := T) (ρ := ρ1) (h := h3) (H := H1) i 1 (j - i).toNat
                          have e3 : rngL i 1 (j - i).toNat = upL i (j - i).toNat := by
                            unfold rngL upL
                            simp
                          rw [e3] at j1
                          exact j1
                      · exact ⟨i, j, k, _, rfl, rgc_up d1 d2 d3 d4, rng_fin er' S1 P2 (jw_rng i k _)⟩
                  | _ => exact P2.elim
                | _ => cases rz <;> exact P2.elim
              | _ => cases ry <;> cases rz <;> exact P2.elim
end
end DM

/-! The deep machine: targets; comprehensions. -/
namespace DM
open PySem L2 PySem.Spec PyProof.Rows
mutual
def chkTg (N : List Str) (ok : Str → Bool) : Tg → Expr → Bool
  | .nm i, .Name x _ => decide (N[i]? = some x) && ok x
  | .tp ts, .Tuple es _ _ => chkTgs N ok ts es
  | _, _ => false
def chkTgs (N : List Str) (ok : Str → Bool) : List Tg → List Expr → Bool
  | [], [] => true
  | t :: ts, e :: es => chkTg N ok t e && chkTgs N ok ts es
  | _, _ => false
end
/-- what is stored: only at the target's slots -/
def Only (σ σ' : L2.St) (sl : List Nat) : Prop := σ'.length = σ.length ∧ ∀ i, i ∉ sl → σ'[i]? = σ[i]?
theorem Only.refl (σ : L2.St) (sl : List Nat) : Only σ σ sl := ⟨rfl, fun _ _ => rfl⟩
theorem Only.trans {σ σ1 σ2 : L2.St} {s t : List Nat} (a : Only σ σ1 s) (b : Only σ1 σ2 t) : Only σ σ2 (s ++ t) := ⟨b.1.trans a.1, fun i hi => by
  rw [List.mem_append, not_or] at hi
  rw [b.2 i hi.2, a.2 i hi.1]⟩
def gT (T : NT) (t : Tg) : TG := fun v σ H Q => ∃ ρ h env w env', Sim T ρ h H ∧ ER T.K ρ h.length H env σ ∧ RW T.K ρ h.length H w v ∧ asg t w env = some env' ∧ ∀ σ', ER T.K ρ h.length H env' σ' → Only σ σ' t.slots → Q σ' H
def gTs (T : NT) (ts : List Tg) : TGs := fun vs σ H Q => ∃ ρ h env ws env', Sim T ρ h H ∧ ER T.K ρ h.length H env σ ∧ RWs T.K ρ h.length H ws vs ∧ asgs ts ws env = some env' ∧ ∀ σ', ER T.K ρ h.length H env' σ' → Only σ σ' (slotsL ts) → Q σ' H
theorem PG.of {X : Cx} {x : Expr} {g g' : TG} (h : PG X x g) (i : ∀ v σ H Q, g' v σ H Q → g v σ H Q) : PG X x g' := ⟨fun pins s σ H v u Q I r q => h.run pins s σ H v u Q I r (i v σ H Q q)⟩
theorem PGs.of {X : Cx} {x : List Expr} {g g' : TGs} (h : PGs X x g) (i : ∀ v σ H Q, g' v σ H Q → g v σ H Q) : PGs X x g' := ⟨fun pins s σ H v u Q I r q => h.run pins s σ H v u Q I r (i v σ H Q q)⟩
theorem asgs_length : ∀ {ts : List Tg} {ws : List W} {env env' : Env}, asgs ts ws env = some env' → ws.length = ts.length
  | [], [], _, _, _ => rfl
  | t :: ts, w :: ws, env, env', h => by
    unfold asgs at h
    split at h
    · show _ + 1 = _ + 1
      rw [asgs_length h]
    · cases h
  | [], _ :: _, _, _, h => by cases h
  | _ :: _, [], _, _, h => by cases h
/-- shapes of targets -/
def tgs (es : List Expr) : Bool := es.all fun | .Name _ _ => true | .Tuple _ _ _ => true | _ => false
theorem tgs_each {X : Cx} : ∀ {es : List Expr}, tgs es = true → (assignEach es X.env).map (·.2) = es.map (fun e => assign e X.env) ∧ (assignEach es X.env).length = es.length ∧ (assignEach es X.env).findIdx? (·.1) = none
  | [], _ => ⟨rfl, rfl, rfl⟩
  | e :: es, h => by
    unfold tgs at h
    rw [List.all_cons] at h
    obtain ⟨h1, h2⟩ := Bool.and_eq_true_iff.mp h
    obtain ⟨q1, q2, q3⟩ := tgs_each (X := X) (es := es) h2
    have e1 : assignEach (e :: es) X.env = (false, assign e X.env) :: assignEach es X.env := by
      cases e <;> first | exact Bool.noConfusion h1 | rfl
    rw [e1]
    refine ⟨by rw [List.map_cons, q1]; rfl, by rw [List.length_cons, q2]; rfl, ?_⟩
    rw [List.findIdx?_cons, q3]
    rfl
theorem chkTgs_tgs {N : List Str} {ok : Str → Bool} : ∀ {ts : List Tg} {es : List Expr}, chkTgs N ok ts es = true → tgs es = true ∧ es.length = ts.length
  | [], [], _ => ⟨rfl, rfl⟩
  | t :: ts, e :: es, h => by
    unfold chkTgs at h
    obtain ⟨h1, h2⟩ := Bool.and_eq_true_iff.mp h
    obtain ⟨q1, q2⟩ := chkTgs_tgs h2
    refine ⟨?_, by show _ + 1 = _ + 1; rw [q2]⟩
    unfold tgs at q1 ⊢
    rw [List.all_cons, q1, Bool.and_true]
    cases t <;> cases e <;> first | rfl | (unfold chkTg at h1; exact Bool.noConfusion h1)
  | [], _ :: _, h => by cases h
  | _ :: _, [], h => by cases h
theorem ER.set {K : PySem.W.Frag} {ρ : Nat → Addr} {N : Nat} {H : Hp} {env : Env} {σ : L2.St} (r : ER K ρ N H env σ) {w : W} {v : V} (rw' : RW K ρ N H w v) (i : Nat) : ER K ρ N H (env.set i (some w)) (σ.set i (some v)) := by
  refine ⟨by rw [List.length_set, List.length_set]; exact r.1, fun j x q => ?_⟩
  by_cases e : i = j
  · subst e
    have l : i < env.length := by
      have := (List.getElem?_eq_some_iff.mp q).1
      rwa [List.length_set] at this
    rw [List.getElem?_set_self l] at q
    cases q
    exact ⟨v, List.getElem?_set_self (by rw [← r.1]; exact l), rw'⟩
  · rw [List.getElem?_set_ne e] at q
    rw [List.getElem?_set_ne e]
    exact r.2 j x q
section
variable {T : NT} {X : Cx} {ok : Str → Bool}
mutual
theorem snd_tg (hK : X.K = T.K) (hc : X.calm = true) (hN : X.N.Nodup) (hok : ∀ x, ok x = true → Loc X.env.scope x ∧ (X.fn x = true ∨ X.env.scope.names.lookup x = some .local)) : ∀ (t : Tg) (e : Expr), chkTg X.N ok t e = true → PG X e (gT T t)
  | .nm i, e, h => by
    cases e <;> first | (unfold chkTg at h; exact Bool.noConfusion h) | skip
    rename_i x p
    unfold chkTg at h
    obtain ⟨h1, h2⟩ := Bool.and_eq_true_iff.mp h
    obtain ⟨q1, q2⟩ := hok x h2
    refine PG.of (pg_name hN (of_decide_eq_true h1) q1 q2) fun v σ H Q ⟨ρ, h, env, w, env', S, r, rw', ea, k⟩ => ?_
    unfold asg at ea
    cases ea
    refine k _ (r.set rw' i) ⟨List.length_set, fun j hj => List.getElem?_set_ne fun z => hj ?_⟩
    rw [z]
    exact List.mem_singleton.mpr rfl
  | .tp ts, e, h => by
    cases e <;> first | (unfold chkTg at h; exact Bool.noConfusion h) | skip
    rename_i es k p
    unfold chkTg at h
    obtain ⟨c1, c2⟩ := chkTgs_tgs h
    obtain ⟨d1, d2, d3⟩ := tgs_each (X := X) c1
    refine PG.of (pg_tup hc (snd_tgs hK hc hN hok ts es h) d2 d3) fun v σ H Q ⟨ρ, h, env, w, env', S, r, rw', ea, k⟩ => ?_
    cases rw' with
    | tup s rs =>
      unfold asg at ea
      refine ⟨_, _, rfl, by rw [hK]; exact s, ?_, ρ, h, env, _, env', S, r, rs, ea, fun σ' q o => k σ' q ?_⟩
      · rw [rs.length, asgs_length ea, c2]
      · unfold Tg.slots
        exact o
    | _ =>
      unfold asg at ea
      exact nomatch ea
theorem snd_tgs (hK : X.K = T.K) (hc : X.calm = true) (hN : X.N.Nodup) (hok : ∀ x, ok x = true → Loc X.env.scope x ∧ (X.fn x = true ∨ X.env.scope.names.lookup x = some .local)) : ∀ (ts : List Tg) (es : List Expr), chkTgs X.N ok ts es = true → PGs X es (gTs T ts)
  | [], es, h => by
    cases es with
    | cons _ _ => unfold chkTgs at h; exact Bool.noConfusion h
    | nil =>
      refine PGs.of pgs_nil fun v σ H Q ⟨ρ, h, env, w, env', S, r, rw', ea, k⟩ => ?_
      cases rw' with
      | nil =>
        unfold asgs at ea
        cases ea
        exact ⟨rfl, k σ r (Only.refl _ _)⟩
      | cons _ _ => unfold asgs at ea; exact nomatch ea
  | t :: ts, es, h => by
    cases es with
    | nil => unfold chkTgs at h; exact Bool.noConfusion h
    | cons e es =>
      obtain ⟨c1, c2⟩ := chkTgs_tgs h
      obtain ⟨d1, d2, d3⟩ := tgs_each (X := X) c1
      unfold chkTgs at h
      obtain ⟨h1, h2⟩ := Bool.and_eq_true_iff.mp h
      obtain ⟨f1, f2, f3⟩ := tgs_each (X := X) (chkTgs_tgs h2).1
      refine PGs.of (pgs_cons (snd_tg hK hc hN hok t e h1) (snd_tgs hK hc hN hok ts es h2) (by rw [d1, f1]; rfl)) fun v σ H Q ⟨ρ, h, env, w, env', S, r, rw', ea, k⟩ => ?_
      cases rw' with
      | nil => unfold asgs at ea; exact nomatch ea
      | cons ra rb =>
        unfold asgs at ea
        split at ea
        · rename_i env1 e1
          refine ⟨_, _, rfl, ρ, h, env, _, env1, S, r, ra, e1, fun σ1 r1 o1 => ⟨ρ, h, env1, _, env', S, r1, rb, ea, fun σ2 r2 o2 => k σ2 r2 ?_⟩⟩
          unfold slotsL
          exact o1.trans o2
        · cases ea
end
def gTM (T : NT) (t : Tg) : TG := fun v σ H Q => ∃ ρ h env w env', Sim T ρ h H ∧ ER T.K ρ h.length H env σ ∧ RW T.K ρ h.length H w v ∧ asgM h t w env = some env' ∧ ∀ σ', ER T.K ρ h.length H env' σ' → Q σ' H
theorem PG.or {e : Expr} {t1 t2 : TG} (a : PG X e t1) (b : PG X e t2) : PG X e (fun v σ H Q => t1 v σ H Q ∨ t2 v σ H Q) :=
  ⟨fun pins s σ H v u Q I r hw => hw.elim (a.run pins s σ H v u Q I r) (b.run pins s σ H v u Q I r)⟩
theorem snd_tgM (hK : X.K = T.K) (hc : X.calm = true) (hN : X.N.Nodup) (hok : ∀ x, ok x = true → Loc X.env.scope x ∧ (X.fn x = true ∨ X.env.scope.names.lookup x = some .local)) {ts : List Tg} {es : List Expr} {k : Nat} {p : Pos} (h : chkTgs X.N ok ts es = true) : PG X (.Tuple es k p) (gTM T (.tp ts)) := by
  obtain ⟨c1, c2⟩ := chkTgs_tgs h
  obtain ⟨d1, d2, d3⟩ := tgs_each (X := X) c1
  refine PG.of (PG.or (pg_tup hc (snd_tgs hK hc hN hok ts es h) d2 d3) (pg_lst hc (snd_tgs hK hc hN hok ts es h) d2 d3)) fun v σ H Q ⟨ρ, h, env, w, env', S, r, rw', ea, q⟩ => ?_
  cases rw' with
  | tup s rs =>
    rw [asgM_tp] at ea
    exact .inl ⟨_, _, rfl, by rw [hK]; exact s, by rw [rs.length, asgs_length ea, c2], ρ, h, env, _, env', S, r, rs, ea, fun σ' z _ => q σ' z⟩
  | ref hn =>
    unfold asgM at ea
    dsimp only at ea
    split at ea
    · rename_i ws e
      obtain ⟨vs, q1, q2⟩ := S.lst e
      exact .inr ⟨_, _, rfl, .of q1, by rw [q2.length, asgs_length ea, c2], ρ, h, env, _, env', S, r, q2, ea, fun σ' z _ => q σ' z⟩
    · cases ea
  | _ =>
    unfold asgM asg at ea
    cases ea
end
end DM

/-! The deep machine: comprehensions. -/
namespace DM
open PySem L2 PySem.Spec PyProof.Rows
/-! ### the heap without the new list -/
def er (D : Addr) (H : Hp) : Hp := fun a => if a = D then none else H a
theorem er_at (D : Addr) (H : Hp) : er D H D = none := if_pos rfl
theorem er_ne {D a : Addr} {H : Hp} (e : a ≠ D) : er D H a = H a := if_neg e
theorem er_upd {D : Addr} {H : Hp} {u : HO} (e : H D = some u) : upd (er D H) D u = H := by
  funext a
  by_cases q : a = D
  · rw [q, upd_same, e]
  · rw [upd_ne q, er_ne q]
theorem er_new {D : Addr} {H : Hp} {u : HO} (e : H D = none) : er D (upd H D u) = H := by
  funext a
  by_cases q : a = D
  · rw [q, er_at, e]
  · rw [er_ne q, upd_ne q]
theorem er_set {D : Addr} {H : Hp} {u : HO} : er D (upd H D u) = er D H := by
  funext a
  by_cases q : a = D
  · rw [q, er_at, er_at]
  · rw [er_ne q, er_ne q, upd_ne q]
theorem er_eq {D : Addr} {H H' : Hp} (e : ∀ b, H b ≠ none → H' b = H b) (a : Addr) (h : er D H a ≠ none) : er D H' a = er D H a := by
  by_cases q : a = D
  · rw [q, er_at] at h
    exact absurd rfl h
  · rw [er_ne q] at h ⊢
    rw [er_ne q]
    exact e a h
theorem sqT_er {K : PySem.W.Frag} {D a : Addr} {H : Hp} {vs xs : List V} (e : H D = some (.lst vs)) (h : SqT K H a xs) : SqT K (er D H) a xs := by
  rcases h with h | h
  · refine .inl ?_
    have q : a ≠ D := by
      rintro rfl
      rcases h with h | ⟨z, h⟩ <;> rw [e] at h <;> cases h
    unfold Rd
    rw [er_ne q]
    exact h
  · exact .inr h
theorem sqC_er {K : PySem.W.Frag} {D a : Addr} {H : Hp} {vs xs : List V} (e : H D = some (.lst vs)) (h : SqC K H a xs) : SqC K (er D H) a xs := by
  rcases h with h | h
  · refine .inl ?_
    have q : a ≠ D := by
      rintro rfl
      obtain ⟨z, h⟩ := h
      rw [e] at h
      cases h
    rw [er_ne q]
    exact h
  · exact .inr h
mutual
theorem RW.map {K : PySem.W.Frag} {ρ : Nat → Addr} {N : Nat} {H H' : Hp} (t : ∀ a xs, SqT K H a xs → SqT K H' a xs) (c : ∀ a xs, SqC K H a xs → SqC K H' a xs) : ∀ {w : W} {v : V}, RW K ρ N H w v → RW K ρ N H' w v
  | _, _, .non => .non
  | _, _, .bl b => .bl b
  | _, _, .int i => .int i
  | _, _, .str x o => .str x o
  | _, _, .tup s r => .tup (t _ _ s) (RWs.map t c r)
  | _, _, .con s r => .con (c _ _ s) (RWs.map t c r)
  | _, _, .ref l => .ref l
theorem RWs.map {K : PySem.W.Frag} {ρ : Nat → Addr} {N : Nat} {H H' : Hp} (t : ∀ a xs, SqT K H a xs → SqT K H' a xs) (c : ∀ a xs, SqC K H a xs → SqC K H' a xs) : ∀ {w : List W} {v : List V}, RWs K ρ N H w v → RWs K ρ N H' w v
  | _, _, .nil => .nil
  | _, _, .cons a r => .cons (RW.map t c a) (RWs.map t c r)
end
theorem RO.map {T : NT} {ρ : Nat → Addr} {N : Nat} {H H' : Hp} (t : ∀ a xs, SqT T.K H a xs → SqT T.K H' a xs) (c : ∀ a xs, SqC T.K H a xs → SqC T.K H' a xs) (x : ∀ a gs, H a = Option.some (HO.xd gs) → H' a = Option.some (HO.xd gs)) {a : Addr} {o : Ob} (e : H' a = H a) (r : RO T ρ N H a o) : RO T ρ N H' a o := by
  cases r with
  | lst h r => exact .lst (e.trans h) (r.map t c)
  | dic h r => exact .dic (e.trans h) (paired_imp (fun p q z => ⟨z.1.map t c, z.2.map t c⟩) r)
  | ins h r => exact .ins (e.trans h) (paired_imp (fun p q z => ⟨z.1, z.2.map t c⟩) r)
  | exc v h q r => exact .exc v (e.trans h) (q.mono x) (paired_imp (fun p q z => ⟨z.1, z.2.map t c⟩) r)
section
variable {T : NT} {ρ ρ' : Nat → Addr} {h h' : Mem} {H H' : Hp} {D : Addr} {vs vs' : List V}
theorem sim_er (S : Sim T ρ h H) (e : H D = some (.lst vs)) (n : ∀ i, i < h.length → ρ i ≠ D) : Sim T ρ h (er D H) :=
  ⟨S.inj, fun i o q => (S.obj i o q).map (fun _ _ z => sqT_er e z) (fun _ _ z => sqC_er e z) (fun a gs z => (er_ne (fun y => by
    rw [y, e] at z
    exact nomatch z)).trans z) (er_ne (n i (List.getElem?_eq_some_iff.mp q).1))⟩
theorem ext_er (x : Ext T.K ρ h H ρ' h' H') (e : H D = some (.lst vs)) (e' : H' D = some (.lst vs')) : Ext T.K ρ h (er D H) ρ' h' (er D H') := by
  have up : ∀ a xs, SqT T.K (er D H) a xs → SqT T.K H a xs := fun a xs z => by
    have := sqT_upd (o := .lst vs) (.inl (er_at D H)) z
    rwa [er_upd e] at this
  have up' : ∀ a xs, SqC T.K (er D H) a xs → SqC T.K H a xs := fun a xs z => by
    have := sqC_upd (o := .lst vs) (.inl (er_at D H)) z
    rwa [er_upd e] at this
  refine ⟨x.len, x.agr, fun i l1 l2 => ?_, fun a xs z => sqT_er e' (x.tup a xs (up a xs z)), fun a xs z => sqC_er e' (x.con a xs (up' a xs z)), fun a z => ?_, fun a o z q => ?_, fun a gs z => ?_⟩
  · have n := x.new i l1 l2
    have ne : ρ' i ≠ D := by
      intro z
      rw [z, e] at n
      cases n
    rw [er_ne ne]
    exact n
  · have ne : a ≠ D := by
      rintro rfl
      exact z (er_at a H)
    rw [er_ne ne] at z ⊢
    exact x.kee a z
  · have ne : a ≠ D := by
      rintro rfl
      rw [er_at] at z
      cases z
    rw [er_ne ne] at z ⊢
    exact x.frm a o z q
  · have ne : a ≠ D := by
      rintro rfl
      rw [er_at] at z
      cases z
    rw [er_ne ne] at z ⊢
    exact x.xds a gs z
theorem ext_ne (x : Ext T.K ρ h H ρ' h' H') (e : H D = some (.lst vs)) (n : ∀ i, i < h.length → ρ i ≠ D) : ∀ i, i < h'.length → ρ' i ≠ D := fun i l => by
  by_cases q : i < h.length
  · rw [x.agr i q]
    exact n i q
  · intro z
    have := x.new i (Nat.le_of_not_lt q) l
    rw [z, e] at this
    cases this
theorem sim_ne (S : Sim T ρ h (er D H)) : ∀ i, i < h.length → ρ i ≠ D := fun i l z => by
  obtain ⟨u, q, _⟩ := S.there l
  rw [z, er_at] at q
  cases q
end
/-! ### slots forgotten -/
theorem wipe_len : ∀ (own : List Nat) (env : Env), (DM.wipe env own).length = env.length
  | [], _ => rfl
  | i :: r, env => by
    unfold DM.wipe
    rw [wipe_len r, List.length_set]
theorem wipe_sm : ∀ {own : List Nat} {env : Env} {i : Nat} {w : W}, (DM.wipe env own)[i]? = some (some w) → env[i]? = some (some w) ∧ i ∉ own
  | [], _, _, _, h => ⟨h, by simp⟩
  | j :: r, env, i, w, h => by
    unfold DM.wipe at h
    obtain ⟨h1, h2⟩ := wipe_sm h
    by_cases e : j = i
    · subst e
      by_cases l : j < env.length
      · rw [List.getElem?_set_self l] at h1
        cases h1
      · rw [List.getElem?_eq_none (by rw [List.length_set]; omega)] at h1
        cases h1
    · rw [List.getElem?_set_ne e] at h1
      exact ⟨h1, by simp only [List.mem_cons, not_or]; exact ⟨fun z => e z.symm, h2⟩⟩
theorem wipe2_ne {σ : L2.St} {i : Nat} : ∀ {vs : List Nat}, i ∉ vs → (L2.wipe σ vs)[i]? = σ[i]?
  | [], _ => rfl
  | v :: vs, h => by
    simp only [List.mem_cons, not_or] at h
    unfold L2.wipe
    rw [List.getElem?_set_ne (fun z => h.1 z.symm), wipe2_ne h.2]
theorem wipe2_in {σ : L2.St} {i : Nat} : ∀ {vs : List Nat}, i ∈ vs → i < σ.length → (L2.wipe σ vs)[i]? = some none
  | [], h, _ => by cases h
  | v :: vs, h, l => by
    unfold L2.wipe
    by_cases e : v = i
    · subst e
      exact List.getElem?_set_self (by rw [L2.wipe_length]; exact l)
    · rw [List.getElem?_set_ne e]
      refine wipe2_in ?_ l
      rcases List.mem_cons.mp (h) with z | z
      · exact absurd z.symm e
      · exact z
theorem wipe2_eq {σ σ' : L2.St} {vs : List Nat} (o : Only (L2.wipe σ vs) σ' vs) : L2.wipe σ' vs = L2.wipe σ vs := by
  have hl : σ'.length = σ.length := o.1.trans (L2.wipe_length _ _)
  refine List.ext_getElem? fun i => ?_
  by_cases m : i ∈ vs
  · by_cases l : i < σ.length
    · rw [wipe2_in m l, wipe2_in m (by rw [hl]; exact l)]
    · rw [List.getElem?_eq_none (by rw [L2.wipe_length]; omega), List.getElem?_eq_none (by rw [L2.wipe_length]; omega)]
  · rw [wipe2_ne m, o.2 i m]
theorem ER.wipe {K : PySem.W.Frag} {ρ : Nat → Addr} {N : Nat} {H : Hp} {env : Env} {σ : L2.St} (r : ER K ρ N H env σ) (own : List Nat) : ER K ρ N H (DM.wipe env own) (L2.wipe σ own) := by
  refine ⟨by rw [wipe_len, L2.wipe_length]; exact r.1, fun i w q => ?_⟩
  obtain ⟨q1, q2⟩ := wipe_sm q
  obtain ⟨v, e, x⟩ := r.2 i w q1
  exact ⟨v, by rw [wipe2_ne q2]; exact e, x⟩
theorem ER.map {K : PySem.W.Frag} {ρ : Nat → Addr} {N : Nat} {H H' : Hp} (t : ∀ a xs, SqT K H a xs → SqT K H' a xs) (c : ∀ a xs, SqC K H a xs → SqC K H' a xs) {env : Env} {σ : L2.St} (r : ER K ρ N H env σ) : ER K ρ N H' env σ :=
  ⟨r.1, fun i w q => let ⟨v, a, b⟩ := r.2 i w q; ⟨v, a, b.map t c⟩⟩
theorem Only.weak {σ σ' : L2.St} {s t : List Nat} (o : Only σ σ' s) (h : ∀ i ∈ s, i ∈ t) : Only σ σ' t := ⟨o.1, fun i hi => o.2 i fun z => hi (h i z)⟩
theorem bind_ok {α β : Type} {r : R α} {g : α → Mem → R β} {z : β} {h2 : Mem} (h : r.bind g = .ok z h2) : ∃ a h1, r = .ok a h1 ∧ g a h1 = .ok z h2 := by
  cases r with
  | ok a h1 => exact ⟨a, h1, rfl, h⟩
  | ex x m => cases h
  | bad => cases h
theorem calm_ok {α β : Type} {T : NT} {Rl : (Nat → Addr) → Mem → Hp → α → β → Prop} {γ : Type} {E : XK} {ρ : Nat → Addr} {h : Mem} {H : Hp} {r : R γ} {g : γ → Mem → R α} {Q : β → Hp → Prop} (P : PostG T Rl E ρ h H (r.calm.bind g) Q) : ∃ a h1, r = .ok a h1 ∧ PostG T Rl E ρ h H (g a h1) Q := by
  cases r with
  | ok a h1 => exact ⟨a, h1, rfl, P⟩
  | ex x m => exact P.elim
  | bad => exact P.elim
theorem compL_cons {t : Tg} {own : List Nat} {f : Env → Mem → R (Option W)} {env : Env} {w : Walk} {x : W} {r acc ys : List W} {h h2 : Mem} (e : compL t own f env w (x :: r) acc h = .ok ys h2) :
    stays h w = true ∧ ∃ env', asg t x (wipe env own) = some env' ∧ ((f env' h).bind fun o h' => match o with
          | some y => if acc.length < LIM then compL t own f env w r (acc ++ [y]) h' else .bad
          | none => compL t own f env w r acc h') = .ok ys h2 := by
  unfold compL at e
  split at e
  · rename_i s
    refine ⟨s, ?_⟩
    split at e
    · rename_i env' q
      exact ⟨env', q, e⟩
    · cases e
  · cases e
theorem compL_nil {t : Tg} {own : List Nat} {f : Env → Mem → R (Option W)} {env : Env} {w : Walk} {acc ys : List W} {h h2 : Mem} (e : compL t own f env w [] acc h = .ok ys h2) : stays h w = true ∧ acc = ys ∧ h = h2 := by
  unfold compL at e
  split at e
  · rename_i s
    cases e
    exact ⟨s, rfl, rfl⟩
  · cases e
/-- the tests of a comprehension -/
def ttOf (T : NT) (cs : Tab) : Eo → TT
  | .no => tYes
  | .so c => tT T (fun _ _ _ _ => False) cs c
def bodyOf (cs : Tab) (c : Eo) (e : E) : Env → Mem → R (Option W) := fun env h => (evo cs c env h).bind fun o h => match o with
        | none => (ev cs e env h).bind fun y h => .ok (some y) h
        | some v => (tru v h).bind fun b h => if b then (ev cs e env h).bind fun y h => .ok (some y) h else .ok none h
theorem snd_lc {T : NT} {cs : Tab} {Wx : WX} {t : Tg} {it : DM.It} {own : List Nat} {c : Eo} {e : E} (hsl : ∀ i ∈ t.slots, i ∈ own) {σ : L2.St} {H : Hp} {Q : VK} (q : tE T Wx cs (.comp t it own c e) σ H Q) :
    tLc (tM T Wx (RIt T) (evi cs it)) (gT T t) (ttOf T cs c) (tE T (fun _ _ _ _ => False) cs e) own σ H Q := by
  refine (fun h => ?_) (tM.bind (Rl := RIt T) (f := evi cs it) (g := fun env w h => (compL t own (bodyOf cs c e) env w w.xs [] h).calm.bind fun ys h => alloc (.lst ys) h) q)
  obtain ⟨ρ, h0, env, S, r, P⟩ := h
  refine ⟨ρ, h0, env, S, r, P.imp fun J H1 ⟨ρ1, h1, env, w, S1, r1, J1, P1⟩ => ?_⟩
  have J1 : JW T ρ1 h1 H1 w J := J1
  obtain ⟨ys, h2, ec, P2⟩ := calm_ok P1
  clear P P1 S r
  intro D hD
  -- the state ahead of turn i
  refine ⟨fun i m H => m = w.xs.length - i ∧ i ≤ w.xs.length ∧ ∃ ρ h acc vs, H D = some (.lst vs) ∧ Ext T.K ρ1 h1 H1 ρ h (er D H) ∧ Sim T ρ h (er D H) ∧ RWs T.K ρ h.length (er D H) acc vs ∧ acc.length ≤ LIM ∧ compL t own (bodyOf cs c e) env w (w.xs.drop i) acc h = .ok ys h2, ⟨_, rfl, Nat.zero_le _, ρ1, h1, [], [], upd_same, by rw [er_new hD]; exact Ext.refl _ _ _, by rw [er_new hD]; exact S1, .nil, Nat.zero_le _, ec⟩, ?_⟩
  rintro i m H2 ⟨rfl, hi, ρ, h, acc, vs, eD, x, S, ra, la, ek⟩
  have xD : Ext T.K ρ h (er D H2) ρ h H2 := by
    have := ext_tup S (er_at D H2) (.lst vs)
    rwa [er_upd eD] at this
  have SD : Sim T ρ h H2 := by
    have := sim_tup S (er_at D H2) (.lst vs)
    rwa [er_upd eD] at this
  by_cases hlt : i < w.xs.length
  · rw [List.drop_eq_getElem_cons hlt] at ek
    obtain ⟨st, env', ea, ek⟩ := compL_cons ek
    obtain ⟨go, yld⟩ := J1.go i ρ h H2 (x.trans xD) SD st hlt
    refine .inr ⟨go, fun H' => i + 1 ≤ w.xs.length ∧ ∃ ρ h acc vs, H' D = some (.lst vs) ∧ Ext T.K ρ1 h1 H1 ρ h (er D H') ∧ Sim T ρ h (er D H') ∧ RWs T.K ρ h.length (er D H') acc vs ∧ acc.length ≤ LIM ∧ compL t own (bodyOf cs c e) env w (w.xs.drop (i + 1)) acc h = .ok ys h2, fun H' z => ⟨w.xs.length - (i + 1), by omega, rfl, z⟩, fun xv H3 y => ?_⟩
    obtain ⟨ww, e1, x3, S3, rw3, k3⟩ := yld xv H3 y
    rw [List.getElem?_eq_getElem hlt] at e1
    cases e1
    have eD3 : H3 D = some (.lst vs) := by rw [k3 D (by rw [eD]; simp), eD]
    have nD := sim_ne S
    refine ⟨ρ, h, DM.wipe env own, _, env', S3, ((r1.mono x).mono (xD.trans x3)).wipe own, rw3, ea, fun σ2 r2 o2 => ⟨wipe2_eq (o2.weak hsl), ?_⟩⟩
    -- the erased way to here
    have x3e : Ext T.K ρ1 h1 H1 ρ h (er D H3) := x.trans (ext_er x3 eD eD3)
    have S3e : Sim T ρ h (er D H3) := sim_er S3 eD3 nD
    have ra3 : RWs T.K ρ h.length (er D H3) acc vs := ra.mono (ext_er x3 eD eD3)
    -- the element
    have elem : ∀ {ρ4 : Nat → Addr} {h4 : Mem} {H4 : Hp}, Ext T.K ρ h H3 ρ4 h4 H4 → Sim T ρ4 h4 H4 → ((ev cs e env' h4).bind fun y h => (R.ok (some y) h : R (Option W))).bind (fun o h' => match o with
          | some y => if acc.length < LIM then compL t own (bodyOf cs c e) env w (w.xs.drop (i + 1)) (acc ++ [y]) h' else .bad
          | none => compL t own (bodyOf cs c e) env w (w.xs.drop (i + 1)) acc h') = .ok ys h2 → tE T (fun _ _ _ _ => False) cs e σ2 H4 fun y H5 => ∃ acc, H5 D = some (.lst acc) ∧ acc.length < sizeLine ∧ (i + 1 ≤ w.xs.length ∧ ∃ ρ h acc' vs, upd H5 D (.lst (acc ++ [y])) D = some (.lst vs) ∧ Ext T.K ρ1 h1 H1 ρ h (er D (upd H5 D (.lst (acc ++ [y])))) ∧ Sim T ρ h (er D (upd H5 D (.lst (acc ++ [y])))) ∧ RWs T.K ρ h.length (er D (upd H5 D (.lst (acc ++ [y])))) acc' vs ∧ acc'.length ≤ LIM ∧ compL t own (bodyOf cs c e) env w (w.xs.drop (i + 1)) acc' h = .ok ys h2) := by
      intro ρ4 h4 H4 x4 S4 eq
      obtain ⟨o, h5, q1, q2⟩ := bind_ok eq
      obtain ⟨yw, h6, q3, q4⟩ := bind_ok q1
      cases q4
      have q2 : (if acc.length < LIM then compL t own (bodyOf cs c e) env w (w.xs.drop (i + 1)) (acc ++ [yw]) h5 else .bad) = .ok ys h2 := q2
      split at q2
      · rename_i hl
        refine ⟨ρ4, h4, env', S4, r2.mono x4, ?_⟩
        rw [q3]
        intro ρ5 H5 yv x5 S5 ry
        have ry : RW T.K ρ5 h5.length H5 yw yv := ry
        have n4 := ext_ne x4 eD3 nD
        have eD4 : H4 D = some (.lst vs) := x4.frm D _ eD3 nD
        have eD5 : H5 D = some (.lst vs) := x5.frm D _ eD4 n4
        have n5 := ext_ne x5 eD4 n4
        have x35 := x4.trans x5
        refine ⟨vs, eD5, ?_, hlt, ρ5, h5, acc ++ [yw], vs ++ [yv], upd_same, ?_⟩
        · rw [ra.length]
          exact lim_lt hl
        · rw [er_set]
          refine ⟨x3e.trans (ext_er x35 eD3 eD5), sim_er S5 eD5 n5, (ra3.mono (ext_er x35 eD3 eD5)).app (.cons (ry.map (fun _ _ z => sqT_er eD5 z) fun _ _ z => sqC_er eD5 z) .nil), ?_, q2⟩
          rw [List.length_append]
          show acc.length + 1 ≤ LIM
          omega
      · cases q2
    cases c with
    | no =>
      exact elem (Ext.refl _ _ _) S3 ek
    | so cc =>
      obtain ⟨o, h5, q1, q2⟩ := bind_ok ek
      have q1 : (((ev cs cc env' h).bind fun x h => .ok (some x) h).bind fun o h => match o with
        | none => (ev cs e env' h).bind fun y h => .ok (some y) h
        | some v => (tru v h).bind fun b h => if b then (ev cs e env' h).bind fun y h => .ok (some y) h else .ok none h) = .ok o h5 := q1
      obtain ⟨o1, h6, q3, q4⟩ := bind_ok q1
      obtain ⟨cv, h7, q5, q6⟩ := bind_ok q3
      cases q6
      have q4 : ((tru cv h6).bind fun b h => if b then (ev cs e env' h).bind fun y h => .ok (some y) h else .ok none h) = .ok o h5 := q4
      obtain ⟨b, h8, q7, q8⟩ := bind_ok q4
      refine ⟨ρ, h, env', S3, r2, ?_⟩
      have et : tst cs cc env' h = .ok b h8 := by
        unfold tst
        rw [q5]
        exact q7
      rw [et]
      intro ρ5 H5 b' x5 S5 rb
      have rb : b = b' := rb
      subst rb
      cases b with
      | true =>
        rw [if_pos rfl]
        rw [if_pos rfl] at q8
        refine elem x5 S5 ?_
        rw [q8]
        exact q2
      | false =>
        rw [if_neg (Bool.false_ne_true)]
        rw [if_neg Bool.false_ne_true] at q8
        cases q8
        have eD5 : H5 D = some (.lst vs) := x5.frm D _ eD3 nD
        exact ⟨hlt, ρ5, h5, acc, vs, eD5, x3e.trans (ext_er x5 eD3 eD5), sim_er S5 eD5 (ext_ne x5 eD3 nD), ra3.mono (ext_er x5 eD3 eD5), la, q2⟩
  · have e0 : i = w.xs.length := by omega
    subst e0
    rw [List.drop_length] at ek
    obtain ⟨st, rfl, rfl⟩ := compL_nil ek
    refine .inl ⟨J1.stop ρ h H2 (x.trans xD) SD st, ?_⟩
    have xa := ext_alloc S (er_at D H2) (Ob.lst acc) (HO.lst vs)
    have sa := sim_alloc S (er_at D H2) (o := Ob.lst acc) (u := HO.lst vs) (.lst upd_same (by
      have := ra.mono xa
      exact this))
    rw [er_upd eD] at xa sa
    have rv : RW T.K (snoc ρ h.length D) (h ++ [Ob.lst acc]).length H2 (.ref h.length) (.ref (snoc ρ h.length D h.length)) := .ref (by simp)
    rw [snoc_at] at rv
    exact P2 _ H2 _ (x.trans xa) sa rv
/-! ### the block of a comprehension -/
theorem GX.blk {T : NT} {nm : Nm} {cs : Tab} {Wx : WX} {lvl : Nat} {X : Cx} (g : GX T nm cs Wx lvl X) (s : Shared) (H : Hp) (scope : Scope) (C : Addr) (cl : List (Str × Addr)) (fp : List Addr) : GX T nm cs (fun _ _ _ _ => False) lvl (X.blk s H scope (compEnvC scope cl C X.env) fp) :=
  ⟨g.K, g.calm, g.nd, g.room, g.un0, g.hs, takes0, PassesOwn.never, g.bl, g.gl, fun k x e => ⟨(g.fn k x e).ex⟩, g.fl, g.mkc, fun c m y e => ⟨(g.mt c m y e).1, (g.mt c m y e).2.1, ⟨(g.mt c m y e).2.2.ex⟩⟩, g.na, g.xc, g.xq, g.xna⟩
/-- the pairs of own slots -/
def ownP (N : List Str) (own : List Nat) : List (Str × Nat) := own.map fun i => (N.getD i default, i)
theorem ownP_map (N : List Str) (own : List Nat) : (ownP N own).map (·.2) = own := by
  unfold ownP
  rw [List.map_map]
  exact (List.map_congr_left fun _ _ => rfl).trans (List.map_id _)
/-- a target's name in a block -/
def okB (sc scope : Scope) (x : Str) : Bool := loc (relS scope sc) x && (decide ((relS scope sc).names.lookup x = some .local) || (scope.names.lookup x == some .cell))
theorem loc_of {sc : Scope} {x : Str} (h : loc sc x = true) : L2.Loc sc x := by
  unfold loc at h
  unfold L2.Loc
  cases e : sc.names.lookup x with
  | none =>
    rw [e] at h
    cases h
  | some k =>
    rw [e] at h
    cases k <;> simp_all
theorem okB_of {X : Cx} {s : Shared} {H : Hp} {scope : Scope} {C : Addr} {cl : List (Str × Addr)} {fp : List Addr} {x : Str} (h : okB X.env.scope scope x = true) : L2.Loc (X.blk s H scope (compEnvC scope cl C X.env) fp).env.scope x ∧ ((X.blk s H scope (compEnvC scope cl C X.env) fp).fn x = true ∨ (X.blk s H scope (compEnvC scope cl C X.env) fp).env.scope.names.lookup x = some .local) := by
  unfold okB at h
  obtain ⟨h1, h2⟩ := Bool.and_eq_true_iff.mp h
  refine ⟨loc_of h1, ?_⟩
  rcases Bool.or_eq_true_iff.mp h2 with z | z
  · exact .inr (of_decide_eq_true z)
  · exact .inl z
/-- what the checker asks of a comprehension's frame -/
def lcOk (N : List Str) (sc scope : Scope) (own : List Nat) (t : Tg) (tg iter : Expr) : Bool :=
  blkC N sc scope (ownP N own) && chkTg N (okB sc scope) t tg && (t.slots.all fun i => own.contains i)
section
variable {T : NT} {nm : Nm} {cs : Tab} {Wx : WX} {lvl : Nat} {X : Cx} {t : Tg} {it : DM.It} {own : List Nat} {c : Eo} {e : E} {elt tg iter : Expr} {ifs : List Expr} {scope : Scope} {pos : Pos}
theorem lcOk_sl {N : List Str} {sc : Scope} (h : lcOk N sc scope own t tg iter = true) : ∀ i ∈ t.slots, i ∈ own := fun i hi => by
  unfold lcOk at h
  obtain ⟨_, h3⟩ := Bool.and_eq_true_iff.mp h
  have := List.all_eq_true.mp h3 i hi
  simpa using this
theorem snd_comp (g : GX T nm cs Wx lvl X) (cool : nm.hot = false) (ok : lcOk X.N X.env.scope scope own t tg iter = true) (pi : pl iter = true) (hi : PI X tg iter (tM T Wx (RIt T) (evi cs it)))
    (ht : ∀ (s : Shared) (H : Hp) (C : Addr) (cl : List (Str × Addr)) (fp : List Addr), PTs (X.blk s H scope (compEnvC scope cl C X.env) fp) ifs (ttOf T cs c))
    (he : ∀ (s : Shared) (H : Hp) (C : Addr) (cl : List (Str × Addr)) (fp : List Addr), PE (X.blk s H scope (compEnvC scope cl C X.env) fp) elt (tE T (fun _ _ _ _ => False) cs e)) :
    PE X (.ListComp elt [⟨tg, iter, ifs, 0⟩] scope pos) (tE T Wx cs (.comp t it own c e)) := by
  have sl := lcOk_sl ok
  unfold lcOk at ok
  obtain ⟨o12, _⟩ := Bool.and_eq_true_iff.mp ok
  obtain ⟨o1, o2⟩ := Bool.and_eq_true_iff.mp o12
  refine PE.of (pe_lc (g.calm cool) g.nd hi (blkOk_by o1) (fun s H C cl fp => snd_tg (X := X.blk s H scope (compEnvC scope cl C X.env) fp) g.K (g.calm cool) g.nd (fun x hx => okB_of hx) t tg o2) ht he (pl_iter pi X.env)) fun σ H Q q => ?_
  rw [ownP_map]
  exact snd_lc sl q
theorem snd_setc (g : GX T nm cs Wx lvl X) (cool : nm.hot = false) (ok : lcOk X.N X.env.scope scope own t tg iter = true) (pi : pl iter = true) (hi : PI X tg iter (tM T Wx (RIt T) (evi cs it)))
    (ht : ∀ (s : Shared) (H : Hp) (C : Addr) (cl : List (Str × Addr)) (fp : List Addr), PTs (X.blk s H scope (compEnvC scope cl C X.env) fp) ifs (ttOf T cs c))
    (he : ∀ (s : Shared) (H : Hp) (C : Addr) (cl : List (Str × Addr)) (fp : List Addr), PE (X.blk s H scope (compEnvC scope cl C X.env) fp) elt (tE T (fun _ _ _ _ => False) cs e))
    {i : Nat} {y : Str} {py spos : Pos} (hy : X.N[i]? = some y) (hyl : X.env.scope.names.lookup y = some .local) (hsw : swapsWith (.ListComp elt [⟨tg, iter, ifs, 0⟩] scope pos) (some (.Name y py)) spos.line X.env = pure true) :
    PS X (.Assign [.Name y py] (.ListComp elt [⟨tg, iter, ifs, 0⟩] scope pos) spos) (tAsg (tE T Wx cs (.comp t it own c e)) (gName i)) := by
  have sl := lcOk_sl ok
  unfold lcOk at ok
  obtain ⟨o12, _⟩ := Bool.and_eq_true_iff.mp ok
  obtain ⟨o1, o2⟩ := Bool.and_eq_true_iff.mp o12
  have p := ps_setLc (g.calm cool) g.nd hy hyl hsw hi (blkOk_by o1) (fun s H C cl fp => snd_tg (X := X.blk s H scope (compEnvC scope cl C X.env) fp) g.K (g.calm cool) g.nd (fun x hx => okB_of hx) t tg o2) ht he (pl_iter pi X.env)
  refine ⟨fun pins s σ H D I q => p.run pins s σ H D I ?_⟩
  show tLc _ _ _ _ ((ownP X.N own).map (·.2)) σ H _
  rw [ownP_map]
  exact snd_lc sl q
end
end DM

/-! The deep machine: statements. -/
namespace DM
open PySem L2 PySem.Spec PyProof.Rows
def PostS (T : NT) (Wx : WX) (ρ : Nat → Addr) (h : Mem) (H : Hp) (r : RS) (D : Ends) : Prop := match r with
  | .nx env' h' => ∀ ρ' H' σ', Ext T.K ρ h H ρ' h' H' → Sim T ρ' h' H' → ER T.K ρ' h'.length H' env' σ' → D.nx σ' H'
  | .rt w h' => ∀ ρ' H' v, Ext T.K ρ h H ρ' h' H' → Sim T ρ' h' H' → RW T.K ρ' h'.length H' w v → D.rt v H'
  | .ex x env' h' => ∀ ρ' H' σ' cls d, Ext T.K ρ h H ρ' h' H' → Sim T ρ' h' H' → ER T.K ρ' h'.length H' env' σ' → RX T ρ' h'.length H' x cls d → Wx cls d σ' H'
  | .bad => False
def tS (T : NT) (Wx : WX) (f : Env → Mem → RS) : TS := fun D σ H => ∃ ρ h env, Sim T ρ h H ∧ ER T.K ρ h.length H env σ ∧ PostS T Wx ρ h H (f env h) D
theorem PS.of {X : Cx} {x : Stmt} {t t' : TS} (h : PS X x t) (i : ∀ D σ H, t' D σ H → t D σ H) : PS X x t' := ⟨fun pins s σ H D I q => h.run pins s σ H D I (i D σ H q)⟩
theorem PSs.of {X : Cx} {x : List Stmt} {t t' : TS} (h : PSs X x t) (i : ∀ D σ H, t' D σ H → t D σ H) : PSs X x t' := ⟨fun pins s σ H D I q => h.run pins s σ H D I (i D σ H q)⟩
section
variable {T : NT} {Wx : WX} {ρ ρ1 : Nat → Addr} {h h1 : Mem} {H H1 : Hp} {r : RS} {D : Ends} {env : Env} {σ : L2.St}
theorem PostS.from (e : Ext T.K ρ h H ρ1 h1 H1) (P : PostS T Wx ρ h H r D) : PostS T Wx ρ1 h1 H1 r D := by
  cases r with
  | nx env' h' => exact fun ρ' H' σ' e1 s q => P ρ' H' σ' (e.trans e1) s q
  | rt w h' => exact fun ρ' H' v e1 s q => P ρ' H' v (e.trans e1) s q
  | ex x env' h' => exact fun ρ' H' σ' cls d e1 s q => P ρ' H' σ' cls d (e.trans e1) s q
  | bad => exact P
theorem PostS.st {α β : Type} {Rl : (Nat → Addr) → Mem → Hp → α → β → Prop} {r : R α} {f : α → Mem → RS} (er : ER T.K ρ h.length H env σ) (P : PostS T Wx ρ h H (r.st env f) D) :
    PostG T Rl (WE Wx σ) ρ h H r fun b H1 => ∃ ρ1 h1 a, r = .ok a h1 ∧ Ext T.K ρ h H ρ1 h1 H1 ∧ Sim T ρ1 h1 H1 ∧ Rl ρ1 h1 H1 a b ∧ PostS T Wx ρ1 h1 H1 (f a h1) D := by
  cases r with
  | ok a h' => exact fun ρ' H' b e s q => ⟨ρ', h', a, rfl, e, s, q, P.from e⟩
  | ex x h' => exact fun ρ' H' cls d e s q => P ρ' H' σ cls d e s (er.mono e) q
  | bad => exact P
theorem PostS.seq {r : RS} {k : Env → Mem → RS} {N : L2.St → Hp → Prop} (bk ct : L2.St → Hp → Prop) (P : PostS T Wx ρ h H (r.then k) D) (g : ∀ ρ1 h1 H1 env1 σ1, r = .nx env1 h1 → Ext T.K ρ h H ρ1 h1 H1 → Sim T ρ1 h1 H1 → ER T.K ρ1 h1.length H1 env1 σ1 → PostS T Wx ρ1 h1 H1 (k env1 h1) D → N σ1 H1) :
    PostS T Wx ρ h H r { nx := N, rt := D.rt, bk := bk, ct := ct } := by
  cases r with
  | nx env' h' => exact fun ρ' H' σ' e s q => g ρ' h' H' env' σ' rfl e s q (P.from e)
  | rt w h' => exact P
  | ex x env' h' => exact P
  | bad => exact P
end
section
variable {T : NT} {nm : Nm} {cs : Tab} {Wx : WX} {lvl : Nat} {X : Cx} {pos : Pos}
abbrev tX (T : NT) (Wx : WX) (cs : Tab) (s : S) : TS := tS T Wx (xs cs s)
abbrev tXs (T : NT) (Wx : WX) (cs : Tab) (s : Ss) : TS := tS T Wx (xss cs s)
theorem snd_snil : PSs X [] (tXs T Wx cs .nil) := PSs.of pss_nil fun D σ H ⟨ρ, h, env, S, r, P⟩ => P ρ H σ (Ext.refl _ _ _) S r
theorem snd_scons {s : S} {ss : Ss} {x : Stmt} {xs : List Stmt} (h1 : PS X x (tX T Wx cs s)) (h2 : PSs X xs (tXs T Wx cs ss)) : PSs X (x :: xs) (tXs T Wx cs (.cons s ss)) :=
  PSs.of (pss_cons h1 h2) fun D σ H ⟨ρ, h, env, S, r, P⟩ => ⟨ρ, h, env, S, r, PostS.seq D.bk D.ct P fun ρ1 h1 H1 env1 σ1 _ _ s1 r1 P1 => ⟨ρ1, h1, env1, s1, r1, P1⟩⟩
theorem snd_pass : PS X (.Pass pos) (tX T Wx cs .pass) := PS.of ps_pass fun D σ H ⟨ρ, h, env, S, r, P⟩ => P ρ H σ (Ext.refl _ _ _) S r
theorem snd_retN : PS X (.Return none pos) (tX T Wx cs .retN) := PS.of ps_retN fun D σ H ⟨ρ, h, env, S, r, P⟩ => P ρ H .non (Ext.refl _ _ _) S .non
theorem snd_ret {e : E} {x : Expr} (he : PE X x (tE T Wx cs e)) : PS X (.Return (some x) pos) (tX T Wx cs (.ret e)) :=
  PS.of (ps_ret he) fun D σ H ⟨ρ, h, env, S, r, P⟩ => ⟨ρ, h, env, S, r, (PostS.st (Rl := RV T) r (f := fun v h => .rt v h) P).imp fun v H1 ⟨ρ1, h1, w, _, e1, S1, rv, P1⟩ => P1 ρ1 H1 v (Ext.refl _ _ _) S1 rv⟩
/-- no comprehension -/
def noLc : Expr → Bool
  | .ListComp _ _ _ _ => false
  | .SetComp _ _ _ _ => false
  | .DictComp _ _ _ _ _ => false
  | _ => true
theorem noLc_sw {x : Expr} (h : noLc x = true) (o : Option Expr) (l : Nat) (env : PySem.Env) : swapsWith x o l env = pure false := by
  cases x <;> first | exact Bool.noConfusion h | rfl
theorem snd_expr {e : E} {x : Expr} (hl : noLc x = true) (he : PE X x (tE T Wx cs e)) : PS X (.Expr x pos) (tX T Wx cs (.expr e)) :=
  PS.of (ps_expr he (noLc_sw hl _ _ _)) fun D σ H ⟨ρ, h, env, S, r, P⟩ => ⟨ρ, h, env, S, r, (PostS.st (Rl := RV T) r (f := fun v h => .nx env h) P).imp fun v H1 ⟨ρ1, h1, w, _, e1, S1, rv, P1⟩ => P1 ρ1 H1 σ (Ext.refl _ _ _) S1 (r.mono e1)⟩
/-! ### stores -/
theorem asg_red {t : Tg} {e : E} {D : Ends} {σ : L2.St} {H : Hp} (q : tX T Wx cs (.set t e) D σ H) : tAsg (tE T Wx cs e) (gTM T t) D σ H := by
  obtain ⟨ρ, h, env, S, r, P⟩ := q
  refine ⟨ρ, h, env, S, r, (PostS.st (Rl := RV T) r (f := fun v h => match asgM h t v env with
    | some env' => .nx env' h
    | none => .bad) P).imp fun v H1 ⟨ρ1, h1, w, _, e1, S1, rv, P1⟩ => ?_⟩
  split at P1
  · rename_i env' ea
    exact ⟨ρ1, h1, env, w, env', S1, r.mono e1, rv, ea, fun σ' r' => P1 ρ1 H1 σ' (Ext.refl _ _ _) S1 r'⟩
  · exact P1.elim
theorem asgN_red {i : Nat} {e : E} {D : Ends} {σ : L2.St} {H : Hp} (q : tX T Wx cs (.set (.nm i) e) D σ H) : tAsg (tE T Wx cs e) (gName i) D σ H := by
  obtain ⟨ρ, h, env, S, r, P⟩ := q
  refine ⟨ρ, h, env, S, r, (PostS.st (Rl := RV T) r (f := fun v h => match asgM h (.nm i) v env with
    | some env' => .nx env' h
    | none => .bad) P).imp fun v H1 ⟨ρ1, h1, w, _, e1, S1, rv, P1⟩ => ?_⟩
  have P1 : PostS T Wx ρ1 h1 H1 (.nx (env.set i (some w)) h1) D := by
    rw [asgM_nm] at P1
    exact P1
  exact P1 ρ1 H1 _ (Ext.refl _ _ _) S1 ((r.mono e1).set rv i)
theorem snd_setN (hN : X.N.Nodup) {i : Nat} {x : Str} {e : E} {v : Expr} {p : Pos} (hi : X.N[i]? = some x) (hx : L2.Loc X.env.scope x) (hf : X.fn x = true) (hs : swapsWith v (some (.Name x p)) pos.line X.env = pure false) (he : PE X v (tE T Wx cs e)) : PS X (.Assign [.Name x p] v pos) (tX T Wx cs (.set (.nm i) e)) :=
  PS.of (ps_set hN hi hx he hs (.inl hf)) fun _ _ _ q => asgN_red q
def noTup : Expr → Bool
  | .Tuple _ _ _ => false
  | _ => true
theorem noTup_sw {x : Expr} (h : noTup x = true) (ts : List Expr) (k : Nat) (p : Pos) (env : PySem.Env) : swappedStores [.Tuple ts k p] x env = pure none := by
  cases x <;> first | exact Bool.noConfusion h | rfl
theorem swT {x : Expr} (ts : List Expr) (k : Nat) (p : Pos) (l : Nat) (env : PySem.Env) : swapsWith x (some (.Tuple ts k p)) l env = pure false := by
  cases x <;> rfl
theorem snd_setT (hK : X.K = T.K) (hc : X.calm = true) (hN : X.N.Nodup) {ok : Str → Bool} (hok : ∀ x, ok x = true → L2.Loc X.env.scope x ∧ (X.fn x = true ∨ X.env.scope.names.lookup x = some .local)) {us : List Tg} {ts : List Expr} {k : Nat} {p : Pos} {v : Expr} {e : E} (ht : chkTgs X.N ok us ts = true) (hv : noTup v = true)
    (he : PE X v (tE T Wx cs e)) : PS X (.Assign [.Tuple ts k p] v pos) (tX T Wx cs (.set (.tp us) e)) :=
  PS.of (ps_asg he (snd_tgM hK hc hN hok ht) (swT ts k p pos.line X.env) (noTup_sw hv ts k p X.env) rfl) fun _ _ _ q => asg_red q
theorem sw_cell {elt : Expr} {gs : List Comprehension} {scope : Scope} {pos py : Pos} {y : Str} {l : Nat} {env : PySem.Env} (hy : env.scope.names.lookup y = some .cell) : swapsWith (.ListComp elt gs scope pos) (some (.Name y py)) l env = pure false := by
  have ky : env.kindOf y = some .cell := hy
  unfold swapsWith
  simp only [ky]
  have : ((some NameKind.cell : Option NameKind) == some .local) = false := rfl
  rw [this]
  simp
/-! ### o[i] = .. -/
def rSI (T : NT) : V → V → V → Hp → (Hp → Prop) → Prop := fun o i v H Q => ∃ ρ h x y w h', Sim T ρ h H ∧ RW T.K ρ h.length H x o ∧ RW T.K ρ h.length H y i ∧ RW T.K ρ h.length H w v ∧ storeAt x y w h = some h' ∧ ∀ H', Ext T.K ρ h H ρ h' H' → Sim T ρ h' H' → Q H'
theorem set_item (hu : X.A.units + 1 < cLine) : PSet X (rSI T) := by
  intro pins s σ H o i v ov iv u Q I ro ri rv hq
  obtain ⟨ρ, h, x, y, w, h', S, rx, ry, rw', es, k⟩ := hq
  cases rx with
  | ref hn =>
    rename_i n
    unfold storeAt at es
    dsimp only at es
    split at es
    · rename_i ws e
      cases ry with
      | int j =>
        dsimp only at es
        split at es
        · rename_i a ea
          cases es
          obtain ⟨vs, q1, q2⟩ := S.lst e
          refine set_list pins s σ H _ _ v ov iv u Q I ro ri rv ⟨_, vs, j, a, rfl, rfl, q1, ?_, ?_⟩
          · rw [q2.length]
            exact ea
          · exact k _ (ext_set S hn _ _) (sim_set S hn (.lst upd_same (RWs.mono (ext_set S hn (.lst (ws.set a w)) (.lst (vs.set a v))) (q2.set rw' a))))
        · cases es
      | _ => cases es
    · rename_i kvs e
      split at es
      · rename_i c
        cases es
        obtain ⟨c1, c2⟩ := Bool.and_eq_true_iff.mp c
        obtain ⟨zs, z1, z2⟩ := S.dic e
        obtain ⟨kk, rfl⟩ := key_of' ry c1
        have hl : kvs.length < LIM := of_decide_eq_true c2
        obtain rfl : ov = Value.ref (ρ n) := ro
        refine d_setItem hu I (.k z1 (by rw [← z2.len]; exact lim_lt hl)) ri rv fun s4 I4 => ⟨_, I4, ?_⟩
        exact k _ (ext_set S hn _ _) (sim_set S hn (.dic upd_same (paired_imp (fun p q z => ⟨z.1.mono (ext_set S hn (.dic (putKW kvs y w)) (.dK (putK zs kk v))), z.2.mono (ext_set S hn (.dic (putKW kvs y w)) (.dK (putK zs kk v)))⟩) (put_rel ry rw' z2))))
      · cases es
    · cases es
  | _ => cases es
theorem swI {x : Expr} (o i : Expr) (p : Pos) (l : Nat) (env : PySem.Env) : swapsWith x (some (.Subscript o i p)) l env = pure false := by
  cases x <;> rfl
theorem snd_setI (hu : X.A.units + 1 < cLine) {o i e : E} {l r v : Expr} {p : Pos} (pr : pl r = true) (ho : PE X l (tE T Wx cs o)) (hi : PE X r (tE T Wx cs i)) (he : PE X v (tE T Wx cs e)) : PS X (.Assign [.Subscript l r p] v pos) (tX T Wx cs (.setI o i e)) := by
  refine PS.of (ps_asg he (pg_sub ho hi (set_item (T := T) hu) (by
    intro v
    cases r <;> first | exact Bool.noConfusion pr | rfl)) (swI l r p pos.line X.env) (by cases v <;> rfl) rfl) fun D σ H q => ?_
  obtain ⟨ρ, h, env, S, r, P⟩ := q
  refine ⟨ρ, h, env, S, r, (PostS.st (Rl := RV T) r (f := fun v h => (ev cs o env h).st env fun x h => (ev cs i env h).st env fun y h => match storeAt x y v h with
    | some h' => .nx env h'
    | none => .bad) P).imp fun v H1 ⟨ρ1, h1, w, _, e1, S1, rv, P1⟩ => ?_⟩
  have r1 := r.mono e1
  refine ⟨ρ1, h1, env, S1, r1, (PostS.st (Rl := RV T) r1 P1).imp fun ov H2 ⟨ρ2, h2, x, _, e2, S2, rx, P2⟩ => ?_⟩
  have r2 := r1.mono e2
  refine ⟨ρ2, h2, env, S2, r2, (PostS.st (Rl := RV T) r2 P2).imp fun iv H3 ⟨ρ3, h3, y, _, e3, S3, ry, P3⟩ => ?_⟩
  have r3 := r2.mono e3
  split at P3
  · rename_i h' es
    exact ⟨ρ3, h3, x, y, w, h', S3, RW.mono e3 rx, ry, RW.mono e3 (RW.mono e2 rv), es, fun H' e4 S4 => P3 ρ3 H' σ e4 S4 (r3.mono e4)⟩
  · exact P3.elim
/-! ### name op= .. -/
def augOf : Op → Option Operator
  | .add => some .Add
  | .sub => some .Sub
  | _ => none
theorem snd_aug (hN : X.N.Nodup) {i : Nat} {x : Str} {o : Op} {op : Operator} {e : E} {v : Expr} {p : Pos} (ho : augOf o = some op) (hi : X.N[i]? = some x) (hx : L2.Loc X.env.scope x) (hf : X.fn x = true) (he : PE X v (tE T Wx cs e)) : PS X (.AugAssign (.Name x p) op v pos) (tX T Wx cs (.aug i o e)) := by
  have key : ∀ (f : Int → Int → Int), PIp X op (ipI f) → (∀ (a b : Int) (env : Env) (h : Mem), (match o with
      | .add => RS.nx (env.set i (some (.int (a + b)))) h
      | .sub => .nx (env.set i (some (.int (a - b)))) h
      | _ => .bad) = .nx (env.set i (some (.int (f a b)))) h) → PS X (.AugAssign (.Name x p) op v pos) (tX T Wx cs (.aug i o e)) := by
    intro f hp hf2
    refine PS.of (ps_aug hN hi hx he hp (.inl hf)) fun D σ H ⟨ρ, h, env, S, r, P⟩ => ?_
    have P : PostS T Wx ρ h H ((getVar env i h).st env fun x h => (ev cs e env h).st env fun y h => match (generalizing := false) x, y with
      | .int a, .int b => (match (generalizing := false) o with
        | .add => RS.nx (env.set i (some (.int (a + b)))) h
        | .sub => .nx (env.set i (some (.int (a - b)))) h
        | _ => .bad)
      | _, _ => .bad) D := P
    cases ei : env[i]? with
    | none =>
      unfold getVar at P
      rw [ei] at P
      exact P.elim
    | some ow => cases ow with
      | none =>
        unfold getVar at P
        rw [ei] at P
        exact P.elim
      | some w =>
        unfold getVar at P
        rw [ei] at P
        obtain ⟨xv, e2, rx⟩ := r.2 i w ei
        have P : PostS T Wx ρ h H ((ev cs e env h).st env fun y h => match (generalizing := false) w, y with
          | .int a, .int b => (match (generalizing := false) o with
            | .add => RS.nx (env.set i (some (.int (a + b)))) h
            | .sub => .nx (env.set i (some (.int (a - b)))) h
            | _ => .bad)
          | _, _ => .bad) D := P
        refine ⟨xv, e2, ρ, h, env, S, r, (PostS.st (Rl := RV T) r P).imp fun yv H1 ⟨ρ1, h1, y, _, e1, S1, ry, P1⟩ => ?_⟩
        have ry : RW T.K ρ1 h1.length H1 y yv := ry
        cases rx with
        | int a => cases ry with
          | int b =>
            refine ⟨a, b, rfl, rfl, ?_⟩
            have P1 : PostS T Wx ρ1 h1 H1 (match (generalizing := false) o with
              | .add => RS.nx (env.set i (some (.int (a + b)))) h1
              | .sub => .nx (env.set i (some (.int (a - b)))) h1
              | _ => .bad) D := P1
            rw [hf2] at P1
            exact P1 ρ1 H1 _ (Ext.refl _ _ _) S1 ((r.mono e1).set (.int _) i)
          | _ => exact P1.elim
        | _ => cases ry <;> exact P1.elim
  cases o <;> first | (cases ho; done) | skip
  · cases ho
    exact key _ ip_add fun _ _ _ _ => rfl
  · cases ho
    exact key _ ip_sub fun _ _ _ _ => rfl
/-! ### if, for, while -/
theorem snd_ite {c : E} {a b : Ss} {x : Expr} {p q : List Stmt} (hc : PT X x (tT T Wx cs c)) (ha : PSs X p (tXs T Wx cs a)) (hb : PSs X q (tXs T Wx cs b)) : PS X (.If x p q pos) (tX T Wx cs (.ite c a b)) := by
  refine PS.of (ps_if hc ha hb) fun D σ H ⟨ρ, h, env, S, r, P⟩ => ⟨ρ, h, env, S, r, (PostS.st (Rl := RB) r (f := fun k h => if k then xss cs a env h else xss cs b env h) P).imp fun k H1 ⟨ρ1, h1, w, _, e1, S1, rv, P1⟩ => ?_⟩
  have rv : w = k := rv
  subst rv
  cases w with
  | true => exact ⟨ρ1, h1, env, S1, r.mono e1, P1⟩
  | false => exact ⟨ρ1, h1, env, S1, r.mono e1, P1⟩
theorem snd_for (g : GX T nm cs Wx lvl X) (cool : nm.hot = false) {t : Tg} {it : DM.It} {b : Ss} {tg iter : Expr} {body : List Stmt} (pi : pl iter = true) (hi : PI X tg iter (tM T Wx (RIt T) (evi cs it))) (hg : PG X tg (gT T t)) (hb : PSs X body (tXs T Wx cs b)) : PS X (.For tg iter body [] pos) (tX T Wx cs (.for t it b)) := by
  refine PS.of (ps_for g.po (g.calm cool) hi hg hb (pl_iter pi X.env)) fun D σ H ⟨ρ, h, env, S, r, P⟩ => ⟨ρ, h, env, S, r, (PostS.st (Rl := RIt T) r (f := fun w h => forL t (fun env h => xss cs b env h) w w.xs env h) P).imp fun J H1 ⟨ρ1, h1, w, _, e1, S1, J1, P1⟩ => ?_⟩
  have J1 : JW T ρ1 h1 H1 w J := J1
  refine ⟨fun i m σ H => m = w.xs.length - i ∧ i ≤ w.xs.length ∧ ∃ ρ h env, Ext T.K ρ1 h1 H1 ρ h H ∧ Sim T ρ h H ∧ ER T.K ρ h.length H env σ ∧ PostS T Wx ρ h H (forL t (fun env h => xss cs b env h) w (w.xs.drop i) env h) D, ⟨_, rfl, Nat.zero_le _, ρ1, h1, env, Ext.refl _ _ _, S1, r.mono e1, P1⟩, ?_⟩
  rintro i m σ2 H2 ⟨rfl, hi, ρ2, h2, env2, x2, S2, r2, P2⟩
  by_cases hlt : i < w.xs.length
  · rw [List.drop_eq_getElem_cons hlt] at P2
    unfold forL at P2
    split at P2
    · rename_i st
      split at P2
      · rename_i env' ea
        obtain ⟨go, yld⟩ := J1.go i ρ2 h2 H2 x2 S2 st hlt
        refine .inr ⟨go, fun σ H => i + 1 ≤ w.xs.length ∧ ∃ ρ h env, Ext T.K ρ1 h1 H1 ρ h H ∧ Sim T ρ h H ∧ ER T.K ρ h.length H env σ ∧ PostS T Wx ρ h H (forL t (fun env h => xss cs b env h) w (w.xs.drop (i + 1)) env h) D, fun σ' H' z => ⟨w.xs.length - (i + 1), by omega, rfl, z⟩, fun xv H3 y => ?_⟩
        obtain ⟨ww, q1, x3, S3, rw3, k3⟩ := yld xv H3 y
        rw [List.getElem?_eq_getElem hlt] at q1
        cases q1
        refine ⟨ρ2, h2, env2, _, env', S3, r2.mono x3, rw3, ea, fun σ4 r4 _ => ⟨ρ2, h2, env', S3, r4, ?_⟩⟩
        refine PostS.seq _ _ (P2.from x3) fun ρ5 h5 H5 env5 σ5 _ x5 S5 r5 P5 => ?_
        exact ⟨hlt, ρ5, h5, env5, (x2.trans x3).trans x5, S5, r5, P5⟩
      · exact P2.elim
    · exact P2.elim
  · have e0 : i = w.xs.length := by omega
    subst e0
    rw [List.drop_length] at P2
    unfold forL at P2
    split at P2
    · rename_i st
      exact .inl ⟨J1.stop ρ2 h2 H2 x2 S2 st, P2 ρ2 H2 σ2 (Ext.refl _ _ _) S2 r2⟩
    · exact P2.elim
theorem snd_while (g : GX T nm cs Wx lvl X) {c : E} {b : Ss} {x : Expr} {body : List Stmt} (hc : PT X x (tT T Wx cs c)) (hb : PSs X body (tXs T Wx cs b)) : PS X (.While x body [] pos) (tX T Wx cs (.while c b)) := by
  refine PS.of (ps_while g.po hc hb) fun D σ H ⟨ρ, h, env, S, r, P⟩ => ?_
  have P : PostS T Wx ρ h H (whileN (fun env h => tst cs c env h) (fun env h => xss cs b env h) WL env h) D := P
  refine ⟨fun m σ H => ∃ ρ h env, Sim T ρ h H ∧ ER T.K ρ h.length H env σ ∧ PostS T Wx ρ h H (whileN (fun env h => tst cs c env h) (fun env h => xss cs b env h) m env h) D, ⟨WL, ρ, h, env, S, r, P⟩, ?_⟩
  rintro m σ2 H2 ⟨ρ2, h2, env2, S2, r2, P2⟩
  cases m with
  | zero => exact P2.elim
  | succ m =>
    unfold whileN at P2
    refine ⟨ρ2, h2, env2, S2, r2, (PostS.st (Rl := RB) r2 P2).imp fun k H3 ⟨ρ3, h3, w, _, e3, S3, rv, P3⟩ => ?_⟩
    have rv : w = k := rv
    subst rv
    cases w with
    | true =>
      rw [if_pos rfl]
      refine ⟨fun σ H => ∃ ρ h env, Sim T ρ h H ∧ ER T.K ρ h.length H env σ ∧ PostS T Wx ρ h H (whileN (fun env h => tst cs c env h) (fun env h => xss cs b env h) m env h) D, fun σ' H' z => ⟨m, Nat.lt_succ_self m, z⟩, ρ3, h3, env2, S3, r2.mono e3, ?_⟩
      exact PostS.seq _ _ P3 fun ρ5 h5 H5 env5 σ5 _ x5 S5 r5 P5 => ⟨ρ5, h5, env5, S5, r5, P5⟩
    | false =>
      rw [if_neg (Bool.false_ne_true)]
      exact P3 ρ3 H3 σ2 (Ext.refl _ _ _) S3 (r2.mono e3)
end
end DM

/-! The deep machine: o.f = e. -/
namespace DM
open PySem L2 PySem.Spec PyProof.Rows
section
variable {T : NT} {nm : Nm} {cs : Tab} {Wx : WX} {lvl : Nat} {X : Cx} {pos : Pos}
theorem swA {x : Expr} (o : Expr) (f : Str) (p : Pos) (l : Nat) (env : PySem.Env) : swapsWith x (some (.Attribute o f p)) l env = pure false := by
  cases x <;> rfl
theorem snd_setF (g : GX T nm cs Wx lvl X) {cl : List Nat} {o e : E} {f : Nat} {y : Str} {l v : Expr} {p : Pos} (hy : nm.fl[f]? = some y) (hn : (cl.all fun c => nm.na.contains (c, f)) = true) (ho : PE X l (tE T Wx cs o)) (he : PE X v (tE T Wx cs e)) : PS X (.Assign [.Attribute l y p] v pos) (tX T Wx cs (.setF cl o f e)) := by
  rw [g.fl] at hy
  refine PS.of (ps_fld ho he (swA l y p pos.line X.env)) fun D σ H ⟨ρ, h, env, S, r, P⟩ => ?_
  refine ⟨ρ, h, env, S, r, (PostS.st (Rl := RV T) r (f := fun v h => (ev cs o env h).st env fun x h => match storeF cl x f v h with
    | some h' => .nx env h'
    | none => .bad) P).imp fun v H1 ⟨ρ1, h1, w, _, e1, S1, rv, P1⟩ => ?_⟩
  have r1 := r.mono e1
  refine ⟨ρ1, h1, env, S1, r1, (PostS.st (Rl := RV T) r1 P1).imp fun ov H2 ⟨ρ2, h2, x, _, e2, S2, rx, P2⟩ => ?_⟩
  have r2 := r1.mono e2
  unfold storeF at P2
  cases x with
  | ref n =>
    dsimp only at P2
    cases q : h2[n]? with
    | none =>
      rw [q] at P2
      exact P2.elim
    | some ob =>
      rw [q] at P2
      cases ob with
      | ins c fs =>
        dsimp only at P2
        split at P2
        · rename_i h' eh
          split at eh
          · rename_i hc
            obtain ⟨hc1, hc2⟩ := Bool.and_eq_true_iff.mp hc
            have hc2 : fs.length < 1000 := of_decide_eq_true hc2
            obtain ⟨dx, gs, q1, q2⟩ := S2.ins q
            have hmem := List.all_eq_true.mp hn c (by simpa using hc1)
            obtain ⟨k1, k2⟩ := g.na c f y (by simpa using hmem) hy
            have rx : RW T.K ρ2 h2.length H2 (.ref n) ov := rx
            cases rx with
            | ref hl =>
              have rw2 : RW T.K ρ2 h2.length H2 w v := RW.mono e2 rv
              cases eh
              refine ⟨_, T.cl c, dx, gs, rfl, q1, k1, k2, by rw [q2.len]; exact hc2, ?_⟩
              have E := ext_set S2 hl (.ins c (DM.putF fs f w)) (.ins (T.cl c) dx (L2.putF y v gs))
              exact P2 ρ2 _ σ E (sim_set S2 hl (.ins upd_same (FR.mono E (FR.put hy rw2 q2)))) (r2.mono E)
          · cases eh
        · exact P2.elim
      | _ => exact P2.elim
  | _ => exact P2.elim
theorem snd_incF (g : GX T nm cs Wx lvl X) {cl : List Nat} {o : E} {f : Nat} {d : Int} {y : Str} {l : Expr} {p p2 : Pos} {k : Nat} (hy : nm.fl[f]? = some y) (hn : (cl.all fun c => nm.na.contains (c, f)) = true) (ho : PE X l (tE T Wx cs o)) : PS X (.AugAssign (.Attribute l y p) .Add (.Constant (.int d) k p2) pos) (tX T Wx cs (.incF cl o f d)) := by
  rw [g.fl] at hy
  refine PS.of (ps_fldaug ho pe_int in_add) fun D σ H ⟨ρ, h, env, S, r, P⟩ => ?_
  refine ⟨ρ, h, env, S, r, (PostS.st (Rl := RV T) r (f := fun x h => match addF cl x f d h with
    | some h' => .nx env h'
    | none => .bad) P).imp fun ov H2 ⟨ρ2, h2, x, _, e2, S2, rx, P2⟩ => ?_⟩
  have r2 := r.mono e2
  unfold addF at P2
  cases x with
  | ref n =>
    dsimp only at P2
    cases q : h2[n]? with
    | none =>
      rw [q] at P2
      exact P2.elim
    | some ob =>
      rw [q] at P2
      cases ob with
      | ins c fs =>
        dsimp only at P2
        split at P2
        · rename_i h' eh
          split at eh
          · rename_i hc
            obtain ⟨hc1, hc2⟩ := Bool.and_eq_true_iff.mp hc
            have hc2 : fs.length < 1000 := of_decide_eq_true hc2
            obtain ⟨dx, gs, q1, q2⟩ := S2.ins q
            have hmem := List.all_eq_true.mp hn c (by simpa using hc1)
            obtain ⟨k1, k2⟩ := g.na c f y (by simpa using hmem) hy
            split at eh
            · rename_i u eu
              obtain ⟨v, q3, q4⟩ := FR.at hy q2 eu
              cases q4
              have rx : RW T.K ρ2 h2.length H2 (.ref n) ov := rx
              cases rx with
              | ref hl =>
                cases eh
                refine ⟨_, T.cl c, dx, gs, .int u, rfl, q1, k1, k2, q3, u, d, rfl, rfl, dx, gs, q1, by rw [q2.len]; exact hc2, ?_⟩
                have E := ext_set S2 hl (.ins c (DM.putF fs f (.int (u + d)))) (.ins (T.cl c) dx (L2.putF y (.int (u + d)) gs))
                exact P2 ρ2 _ σ E (sim_set S2 hl (.ins upd_same (FR.mono E (FR.put hy (.int (u + d)) q2)))) (r2.mono E)
            · cases eh
          · cases eh
        · exact P2.elim
      | _ => exact P2.elim
  | _ => exact P2.elim
end
end DM

/-! The deep machine: a, b = x, y. -/
namespace DM
open PySem L2 PySem.Spec PyProof.Rows
def lcl (sc : Scope) (x : Str) : Bool := decide (sc.names.lookup x = some .local)
/-- two names on a line, two values that are not constants alone -/
def parOk (sc : Scope) (x y : Str) (px py : Pos) (vs : List Expr) : Bool := lcl sc x && lcl sc y && decide (x ≠ y) && (py.line == px.line) && !(vs.all (foldedForSure 8)) && !(vs.all (constantsAlone 8)) && vs.all pl
theorem no_star {vs : List Expr} (h : vs.all pl = true) : (vs.any fun | .Starred .. => true | _ => false) = false := by
  induction vs with
  | nil => rfl
  | cons v r ih =>
    rw [List.all_cons] at h
    obtain ⟨h1, h2⟩ := Bool.and_eq_true_iff.mp h
    rw [List.any_cons, ih h2]
    cases v <;> first | exact Bool.noConfusion h1 | rfl
theorem sw_pair {env : PySem.Env} {x y : Str} {px py pt pt2 : Pos} {a b : Expr} {kt k2} (hb : env.blockKind = .function) (h : parOk env.scope x y px py [a, b] = true) : swappedStores [.Tuple [.Name x px, .Name y py] kt pt] (.Tuple [a, b] k2 pt2) env = pure (some [x, y]) := by
  unfold parOk at h
  simp only [Bool.and_eq_true] at h
  obtain ⟨⟨⟨⟨⟨⟨h1, h2⟩, h3⟩, h4⟩, h5⟩, h6⟩, h7⟩ := h
  have h1 : env.kindOf x = some .local := of_decide_eq_true h1
  have h2 : env.kindOf y = some .local := of_decide_eq_true h2
  have h3 : x ≠ y := of_decide_eq_true h3
  have h8 := no_star h7
  have p1 : (Expr.Name x px).pos = px := rfl
  have e2 : ((some NameKind.local : Option NameKind) == some .local) = true := rfl
  have e4 : (py.line == px.line) = true := h4
  have e5 : (px.line == px.line) = true := beq_self_eq_true _
  have e6 : ((x == y) = false) := beq_eq_false_iff_ne.mpr h3
  have e7 : ((y == x) = false) := beq_eq_false_iff_ne.mpr (Ne.symm h3)
  have e8 : [x, y].eraseDups = [x, y] := by
    simp [List.eraseDups_cons, e6, e7, h3]
  unfold swappedStores
  simp only [List.length_cons, List.length_nil, hb]
  simp only [List.filterMap_cons, List.filterMap_nil, h1, h2, e2, List.head?_cons, Option.map_some, Option.getD_some, p1, e4, e5, Bool.and_self, if_true]
  have h5 : [a, b].all (foldedForSure 8) = false := (Bool.not_eq_true' _).mp h5
  have h6 : [a, b].all (constantsAlone 8) = false := (Bool.not_eq_true' _).mp h6
  refine (if_neg (by decide)).trans ((if_neg fun z => Bool.noConfusion (h8.symm.trans z)).trans ?_)
  rw [e8, h5, h6]
  rfl
section
variable {T : NT} {nm : Nm} {cs : Tab} {Wx : WX} {lvl : Nat} {X : Cx} {pos : Pos}
theorem par_red {i j : Nat} {es : Es} {D : Ends} {σ : L2.St} {H : Hp} (q : tX T Wx cs (.set (.tp [.nm i, .nm j]) (.tup es)) D σ H) : tPar i j (tEs T Wx cs es) D σ H := by
  obtain ⟨ρ, h, env, S, r, P⟩ := q
  have P : PostS T Wx ρ h H ((ev cs (.tup es) env h).st env fun v h => match asgM h (.tp [.nm i, .nm j]) v env with
    | some env' => .nx env' h
    | none => .bad) D := P
  have P : PostS T Wx ρ h H (((evs cs es env h).bind fun vs h => if vs.length ≤ LIM then R.ok (W.tup vs) h else .bad).st env fun v h => match asgM h (.tp [.nm i, .nm j]) v env with
    | some env' => .nx env' h
    | none => .bad) D := P
  have e : (((evs cs es env h).bind fun vs h => if vs.length ≤ LIM then R.ok (W.tup vs) h else .bad).st env fun v h => match asgM h (.tp [.nm i, .nm j]) v env with
    | some env' => RS.nx env' h
    | none => .bad) = (evs cs es env h).st env fun vs h => (if vs.length ≤ LIM then R.ok (W.tup vs) h else .bad).st env fun v h => match asgM h (.tp [.nm i, .nm j]) v env with
    | some env' => RS.nx env' h
    | none => .bad := by
    cases evs cs es env h <;> rfl
  rw [e] at P
  refine ⟨ρ, h, env, S, r, (PostS.st (Rl := RVs T) r P).imp fun vs H1 ⟨ρ1, h1, ws, _, e1, S1, rs, P1⟩ => ?_⟩
  have rs : RWs T.K ρ1 h1.length H1 ws vs := rs
  split at P1
  · have P2 : PostS T Wx ρ1 h1 H1 (match asgs [.nm i, .nm j] ws env with
      | some env' => RS.nx env' h1
      | none => .bad) D := by
      rw [R.st_ok, asgM_tp] at P1
      exact P1
    match ws, rs, P2 with
    | [w1, w2], .cons (v := v1) r1 (.cons (v := v2) r2 .nil), P2 =>
      refine ⟨v1, v2, rfl, ?_⟩
      have P3 : PostS T Wx ρ1 h1 H1 (.nx ((env.set i (some w1)).set j (some w2)) h1) D := by
        simpa [asgs, asg] using P2
      exact P3 ρ1 H1 _ (Ext.refl _ _ _) S1 (((r.mono e1).set r1 i).set r2 j)
    | [], _, P2 => exact P2.elim
    | [w1], _, P2 =>
      have : asgs [Tg.nm i, .nm j] [w1] env = none := by simp [asgs, asg]
      rw [this] at P2
      exact P2.elim
    | w1 :: w2 :: w3 :: ws, _, P2 =>
      have : asgs [Tg.nm i, .nm j] (w1 :: w2 :: w3 :: ws) env = none := by simp [asgs, asg]
      rw [this] at P2
      exact P2.elim
  · exact P1.elim
theorem snd_par (hc : X.calm = true) (hN : X.N.Nodup) {i j : Nat} {x y : Str} {a b : Expr} {es : Es} {px py pt pt2 : Pos} {kt k2} (hb : X.env.blockKind = .function) (hi : X.N[i]? = some x) (hj : X.N[j]? = some y) (h : parOk X.env.scope x y px py [a, b] = true) (ha : PA X [a, b] (tEs T Wx cs es)) :
    PS X (.Assign [.Tuple [.Name x px, .Name y py] kt pt] (.Tuple [a, b] k2 pt2) pos) (tX T Wx cs (.set (.tp [.nm i, .nm j]) (.tup es))) := by
  have h0 := h
  unfold parOk at h
  simp only [Bool.and_eq_true] at h
  obtain ⟨⟨⟨⟨⟨⟨h1, h2⟩, h3⟩, h4⟩, h5⟩, h6⟩, h7⟩ := h
  have h3 : x ≠ y := of_decide_eq_true h3
  have hij : i ≠ j := by
    rintro rfl
    exact h3 (Option.some.inj (hi.symm.trans hj))
  exact PS.of (ps_par hc hN hi hj hij (of_decide_eq_true h1) (of_decide_eq_true h2) ha (sw_pair hb h0)) fun _ _ _ q => par_red q
def parOk3 (sc : Scope) (x y z : Str) (px py pz : Pos) (vs : List Expr) : Bool := lcl sc x && lcl sc y && lcl sc z && decide (x ≠ y) && decide (x ≠ z) && decide (y ≠ z) && (py.line == px.line) && (pz.line == px.line) && !(vs.all (foldedForSure 8)) && !(vs.all (constantsAlone 8)) && vs.all pl
theorem sw_three {env : PySem.Env} {x y z : Str} {px py pz pt pt2 : Pos} {a b c : Expr} {kt k2} (hb : env.blockKind = .function) (h : parOk3 env.scope x y z px py pz [a, b, c] = true) : swappedStores [.Tuple [.Name x px, .Name y py, .Name z pz] kt pt] (.Tuple [a, b, c] k2 pt2) env = pure (some [x, y, z]) := by
  unfold parOk3 at h
  simp only [Bool.and_eq_true] at h
  obtain ⟨⟨⟨⟨⟨⟨⟨⟨⟨⟨h1, h2⟩, h3⟩, hxy⟩, hxz⟩, hyz⟩, l1⟩, l2⟩, h5⟩, h6⟩, h7⟩ := h
  have h1 : env.kindOf x = some .local := of_decide_eq_true h1
  have h2 : env.kindOf y = some .local := of_decide_eq_true h2
  have h3 : env.kindOf z = some .local := of_decide_eq_true h3
  have hxy : x ≠ y := of_decide_eq_true hxy
  have hxz : x ≠ z := of_decide_eq_true hxz
  have hyz : y ≠ z := of_decide_eq_true hyz
  have h8 := no_star h7
  have p1 : (Expr.Name x px).pos = px := rfl
  have e2 : ((some NameKind.local : Option NameKind) == some .local) = true := rfl
  have e5 : (px.line == px.line) = true := beq_self_eq_true _
  have f1 : (y == x) = false := beq_eq_false_iff_ne.mpr (Ne.symm hxy)
  have f2 : (z == x) = false := beq_eq_false_iff_ne.mpr (Ne.symm hxz)
  have f3 : (z == y) = false := beq_eq_false_iff_ne.mpr (Ne.symm hyz)
  have e8 : [x, y, z].eraseDups = [x, y, z] := by
    simp [List.eraseDups_cons, f1, f2, f3, Ne.symm hxy, Ne.symm hxz, Ne.symm hyz]
  unfold swappedStores
  simp only [List.length_cons, List.length_nil, hb]
  simp only [List.filterMap_cons, List.filterMap_nil, h1, h2, h3, e2, List.head?_cons, Option.map_some, Option.getD_some, p1, l1, l2, e5, Bool.and_self, if_true]
  have h5 : [a, b, c].all (foldedForSure 8) = false := (Bool.not_eq_true' _).mp h5
  have h6 : [a, b, c].all (constantsAlone 8) = false := (Bool.not_eq_true' _).mp h6
  refine (if_neg (by decide)).trans ((if_neg fun z => Bool.noConfusion (h8.symm.trans z)).trans ?_)
  rw [e8, h5, h6]
  rfl
theorem par3_red {i j l : Nat} {es : Es} {D : Ends} {σ : L2.St} {H : Hp} (q : tX T Wx cs (.set (.tp [.nm i, .nm j, .nm l]) (.tup es)) D σ H) : tPar3 i j l (tEs T Wx cs es) D σ H := by
  obtain ⟨ρ, h, env, S, r, P⟩ := q
  have P : PostS T Wx ρ h H (((evs cs es env h).bind fun vs h => if vs.length ≤ LIM then R.ok (W.tup vs) h else .bad).st env fun v h => match asgM h (.tp [.nm i, .nm j, .nm l]) v env with
    | some env' => .nx env' h
    | none => .bad) D := P
  have e : (((evs cs es env h).bind fun vs h => if vs.length ≤ LIM then R.ok (W.tup vs) h else .bad).st env fun v h => match asgM h (.tp [.nm i, .nm j, .nm l]) v env with
    | some env' => RS.nx env' h
    | none => .bad) = (evs cs es env h).st env fun vs h => (if vs.length ≤ LIM then R.ok (W.tup vs) h else .bad).st env fun v h => match asgM h (.tp [.nm i, .nm j, .nm l]) v env with
    | some env' => RS.nx env' h
    | none => .bad := by
    cases evs cs es env h <;> rfl
  rw [e] at P
  refine ⟨ρ, h, env, S, r, (PostS.st (Rl := RVs T) r P).imp fun vs H1 ⟨ρ1, h1, ws, _, e1, S1, rs, P1⟩ => ?_⟩
  have rs : RWs T.K ρ1 h1.length H1 ws vs := rs
  split at P1
  · have P2 : PostS T Wx ρ1 h1 H1 (match asgs [.nm i, .nm j, .nm l] ws env with
      | some env' => RS.nx env' h1
      | none => .bad) D := by
      rw [R.st_ok, asgM_tp] at P1
      exact P1
    match ws, rs, P2 with
    | [w1, w2, w3], .cons (v := v1) r1 (.cons (v := v2) r2 (.cons (v := v3) r3 .nil)), P2 =>
      refine ⟨v1, v2, v3, rfl, ?_⟩
      have P3 : PostS T Wx ρ1 h1 H1 (.nx (((env.set i (some w1)).set j (some w2)).set l (some w3)) h1) D := by
        simpa [asgs, asg] using P2
      exact P3 ρ1 H1 _ (Ext.refl _ _ _) S1 ((((r.mono e1).set r1 i).set r2 j).set r3 l)
    | [], _, P2 => exact P2.elim
    | [w1], _, P2 =>
      have : asgs [Tg.nm i, .nm j, .nm l] [w1] env = none := by simp [asgs, asg]
      rw [this] at P2
      exact P2.elim
    | [w1, w2], _, P2 =>
      have : asgs [Tg.nm i, .nm j, .nm l] [w1, w2] env = none := by simp [asgs, asg]
      rw [this] at P2
      exact P2.elim
    | w1 :: w2 :: w3 :: w4 :: ws, _, P2 =>
      have : asgs [Tg.nm i, .nm j, .nm l] (w1 :: w2 :: w3 :: w4 :: ws) env = none := by simp [asgs, asg]
      rw [this] at P2
      exact P2.elim
  · exact P1.elim
theorem snd_par3 (hc : X.calm = true) (hN : X.N.Nodup) {i j l : Nat} {x y z : Str} {a b c : Expr} {es : Es} {px py pz pt pt2 : Pos} {kt k2} (hb : X.env.blockKind = .function) (hi : X.N[i]? = some x) (hj : X.N[j]? = some y) (hl : X.N[l]? = some z) (h : parOk3 X.env.scope x y z px py pz [a, b, c] = true) (ha : PA X [a, b, c] (tEs T Wx cs es)) :
    PS X (.Assign [.Tuple [.Name x px, .Name y py, .Name z pz] kt pt] (.Tuple [a, b, c] k2 pt2) pos) (tX T Wx cs (.set (.tp [.nm i, .nm j, .nm l]) (.tup es))) := by
  have h0 := h
  unfold parOk3 at h
  simp only [Bool.and_eq_true] at h
  obtain ⟨⟨⟨⟨⟨⟨⟨⟨⟨⟨h1, h2⟩, h3⟩, hxy⟩, hxz⟩, hyz⟩, l1⟩, l2⟩, h5⟩, h6⟩, h7⟩ := h
  have hxy : x ≠ y := of_decide_eq_true hxy
  have hxz : x ≠ z := of_decide_eq_true hxz
  have hyz : y ≠ z := of_decide_eq_true hyz
  have hij : i ≠ j := by
    rintro rfl
    exact hxy (Option.some.inj (hi.symm.trans hj))
  have hil : i ≠ l := by
    rintro rfl
    exact hxz (Option.some.inj (hi.symm.trans hl))
  have hjl : j ≠ l := by
    rintro rfl
    exact hyz (Option.some.inj (hj.symm.trans hl))
  exact PS.of (ps_par3 hc hN hi hj hl hij hil hjl (of_decide_eq_true h1) (of_decide_eq_true h2) (of_decide_eq_true h3) ha (sw_three hb h0)) fun _ _ _ q => par3_red q
/-- no pair, no three of values -/
def noSw (ts : List Expr) (v : Expr) : Bool := noTup v || decide (4 ≤ ts.length)
theorem noSw_sw {v : Expr} {ts : List Expr} (h : noSw ts v = true) (k : Nat) (p : Pos) (env : PySem.Env) : swappedStores [.Tuple ts k p] v env = pure none := by
  rcases Bool.or_eq_true_iff.mp h with h | h
  · exact noTup_sw h ts k p env
  · have h := of_decide_eq_true h
    cases v with
    | Tuple vs k2 p2 =>
      have e2 : (ts.length == 2) = false := by simp; omega
      have e3 : (ts.length == 3) = false := by simp; omega
      unfold swappedStores
      simp only [e2, e3]
      rfl
    | _ => rfl
theorem snd_setT4 (hK : X.K = T.K) (hc : X.calm = true) (hN : X.N.Nodup) {ok : Str → Bool} (hok : ∀ x, ok x = true → L2.Loc X.env.scope x ∧ (X.fn x = true ∨ X.env.scope.names.lookup x = some .local)) {us : List Tg} {ts : List Expr} {k : Nat} {p : Pos} {v : Expr} {e : E} (ht : chkTgs X.N ok us ts = true) (hv : noSw ts v = true)
    (he : PE X v (tE T Wx cs e)) : PS X (.Assign [.Tuple ts k p] v pos) (tX T Wx cs (.set (.tp us) e)) :=
  PS.of (ps_asg he (snd_tgM hK hc hN hok ht) (swT ts k p pos.line X.env) (noSw_sw hv k p X.env) rfl) fun _ _ _ q => asg_red q
end
end DM

/-! The deep machine: exceptions made, raised, caught, looked at. -/
namespace DM
open PySem L2 PySem.Spec PyProof.Rows
/-! ### the __init__ of a class of exceptions -/
def slotOk (N : List Str) (sc : Scope) (i : Nat) (x : Str) : Bool := decide (N[i]? = some x) && vis sc x && nodbg x
def iniOk (N : List Str) (sc : Scope) (ys : List Str) (body : List Stmt) : Bool := match body with
  | [.Expr (.Call (.Attribute (.Name b _) i ap) [.Name s _, .Name u _] [] cp) _, .Assign [.Attribute (.Name s1 _) f1 _] (.Name v1 _) _] =>
    (ap.endLine == cp.line) && decide (b = "RoadError") && decide (i = "__init__") && glb sc b && slotOk N sc 0 s && slotOk N sc 1 u && slotOk N sc 0 s1 && slotOk N sc 2 v1 && decide (ys = [f1])
  | [.Expr (.Call (.Attribute (.Name b _) i ap) [.Name s _, .Name u _] [] cp) _, .Assign [.Attribute (.Name s1 _) f1 _] (.Name v1 _) _, .Assign [.Attribute (.Name s2 _) f2 _] (.Name v2 _) _] =>
    (ap.endLine == cp.line) && decide (b = "RoadError") && decide (i = "__init__") && glb sc b && slotOk N sc 0 s && slotOk N sc 1 u && slotOk N sc 0 s1 && slotOk N sc 2 v1 && slotOk N sc 0 s2 && slotOk N sc 3 v2 && decide (ys = [f1, f2])
  | _ => false
theorem slot_pe {X : Cx} {i : Nat} {x : Str} {p : Pos} (h : slotOk X.N X.env.scope i x = true) : PE X (.Name x p) (tVar i) := by
  unfold slotOk at h
  simp only [(Bool.and_eq_true)] at h
  obtain ⟨⟨h1, h2⟩, h3⟩ := h
  exact pe_var (of_decide_eq_true h1) (vis_of h2) (nodbg1 h3).1 (nodbg1 h3).2.1
theorem pe_bini {X : Cx} {CB : Addr} {s u : Str} {p1 p2 p3 p4 pos : Pos} (hg : Gl X "RoadError") (hm : X.mg "RoadError" = some (.ref CB)) (rd : PySem.W.readsIn X.K CB (.type "type") = true)
    (fc : PySem.W.findCls X.K (.ref CB) (.type "type") "__init__" = some (.val (.builtin "ValueError.__init__"))) (sg : PySem.W.specialIn X.K (.ref CB) "__getattribute__" = some (some (.builtin "type.__getattribute__")))
    (hs : slotOk X.N X.env.scope 0 s = true) (hu : slotOk X.N X.env.scope 1 u = true) (hl : (p2.endLine == pos.line) = true) :
    PE X (.Call (.Attribute (.Name "RoadError" p1) "__init__" p2) [.Name s p3, .Name u p4] [] pos) (tVeI X.K (tCons (tVar 0) (tCons (tVar 1) tNil))) := by
  obtain ⟨z, ht⟩ := mtree (o := .Name "RoadError" p1) (m := "__init__") (xs := [.Name s p3, .Name u p4]) (apos := p2) rfl rfl (by show 2 < 30; decide) hl X.env
  exact pe_binit (pl := z) hg hm rd fc sg (pa_cons (slot_pe hs) (pa_cons (slot_pe hu) pa_nil)) ht
section
variable {P : Program} {w : World} {K : PySem.W.Frag} {mg : Str → Option Value} {base : Heap}
theorem ini_fn {C CB fI : Addr} {N ps ys : List Str} {qual : Str} {args : Arguments} {body : List Stmt} {scope : Scope} {fd : FuncData} (F : FunD K "__init__" qual args body scope [] [] fI fd) (S : FnScope N ps scope) (hps : ps.length = ys.length + 2)
    (chk : iniOk N scope ys body = true) (T : OexC K C) (na : ∀ y ∈ ys, PySem.W.findIn K (.ref C) y = some none) (hm : mg "RoadError" = some (.ref CB)) (rd : PySem.W.readsIn K CB (.type "type") = true)
    (fc : PySem.W.findCls K (.ref CB) (.type "type") "__init__" = some (.val (.builtin "ValueError.__init__"))) (sg : PySem.W.specialIn K (.ref CB) "__getattribute__" = some (some (.builtin "type.__getattribute__"))) :
    FnOk P w K mg base (L2.CX P w) 1 fI fd ps (spI C ys) := by
  refine F.ok S (fun vs H Q E h => ?_) (fun cdv A outer s H vs Q E hr h => ?_)
  · obtain ⟨a, u, us, rfl, l, _⟩ := h
    simp only [List.length_cons]
    omega
  · unfold iniOk at chk
    split at chk
    · simp only [(Bool.and_eq_true)] at chk
      obtain ⟨⟨⟨⟨⟨⟨⟨⟨c0, c1⟩, c2⟩, c3⟩, c4⟩, c5⟩, c6⟩, c7⟩, c8⟩ := chk
      cases of_decide_eq_true c1
      cases of_decide_eq_true c2
      cases of_decide_eq_true c8
      let X := cxOf (L2.CX P w) P w K mg base N qual scope fI cdv A outer s H E
      have p0 := fun p => slot_pe (X := X) (p := p) c4
      have p1 := fun p => slot_pe (X := X) (p := p) c5
      have p2 := fun p => slot_pe (X := X) (p := p) c6
      have p3 := fun p => slot_pe (X := X) (p := p) c7
      refine ⟨_, pss_cons (ps_expr (pe_bini (X := X) (CB := CB) (glb_of c3) hm rd fc sg c4 c5 c0)) (pss_one (ps_ost (p2 _) (p3 _))), ?_⟩
      obtain ⟨a, u, us, rfl, l, ha, k⟩ := h
      obtain ⟨v, rfl⟩ : ∃ v, us = [v] := List.length_eq_one_iff.mp l
      refine ⟨.ref a, rfl, u, rfl, a, C, [u], rfl, by simp, T, ha, v, rfl, .ref a, rfl, a, C, rfl, T, na _ (by simp), .inl ⟨ha, fun dx hd ne => k dx _ hd ne upd_same ?_ fun b q1 q2 => ?_⟩⟩
      · rw [upd_ne ne, upd_same]
        rfl
      · rw [upd_ne q1, upd_ne q2]
    · simp only [(Bool.and_eq_true)] at chk
      obtain ⟨⟨⟨⟨⟨⟨⟨⟨⟨⟨c0, c1⟩, c2⟩, c3⟩, c4⟩, c5⟩, c6⟩, c7⟩, c9⟩, c10⟩, c8⟩ := chk
      cases of_decide_eq_true c1
      cases of_decide_eq_true c2
      cases of_decide_eq_true c8
      let X := cxOf (L2.CX P w) P w K mg base N qual scope fI cdv A outer s H E
      have p0 := fun p => slot_pe (X := X) (p := p) c4
      have p1 := fun p => slot_pe (X := X) (p := p) c5
      have p2 := fun p => slot_pe (X := X) (p := p) c6
      have p3 := fun p => slot_pe (X := X) (p := p) c7
      have p4 := fun p => slot_pe (X := X) (p := p) c9
      have p5 := fun p => slot_pe (X := X) (p := p) c10
      refine ⟨_, pss_cons (ps_expr (pe_bini (X := X) (CB := CB) (glb_of c3) hm rd fc sg c4 c5 c0)) (pss_cons (ps_ost (p2 _) (p3 _)) (pss_one (ps_ost (p4 _) (p5 _)))), ?_⟩
      obtain ⟨a, u, us, rfl, l, ha, k⟩ := h
      obtain ⟨v, v', rfl⟩ : ∃ v v', us = [v, v'] := by
        match us, l with
        | [v, v'], _ => exact ⟨v, v', rfl⟩
      refine ⟨.ref a, rfl, u, rfl, a, C, [u], rfl, by simp, T, ha, v, rfl, .ref a, rfl, a, C, rfl, T, na _ (by simp), .inl ⟨ha, fun dx hd ne => ?_⟩⟩
      refine ⟨v', rfl, .ref a, rfl, a, C, rfl, T, na _ (by simp), .inr ⟨dx, _, upd_same, by rw [upd_ne ne, upd_same], by simp, ?_⟩⟩
      refine k dx _ hd ne ?_ ?_ fun b q1 q2 => ?_
      · rw [upd_ne (Ne.symm ne), upd_same]
      · rw [upd_same]
        rfl
      · rw [upd_ne q2, upd_ne q1, upd_ne q2]
    · cases chk
end
section
variable {T : NT} {nm : Nm} {cs : Tab} {Wx : WX} {lvl : Nat} {X : Cx} {pos : Pos}
theorem Sim.exc {ρ : Nat → Addr} {h : Mem} {H : Hp} (S : Sim T ρ h H) {n c : Nat} {fs : List (Nat × W)} (e : h[n]? = some (.exc c fs)) : ∃ d gs x, T.xc.lookup c = some x ∧ H (ρ n) = some (xob (ρ n) (.ref (T.cl c)) d) ∧ XdOk H d gs ∧ FR T ρ h.length H fs gs := by
  have q := S.obj n _ e
  cases q with
  | exc v a q r =>
    obtain ⟨x, hx⟩ := Option.isSome_iff_exists.mp v
    exact ⟨_, _, x, hx, a, q, r⟩
/-- e.f, e caught -/
theorem snd_xfl (g : GX T nm cs Wx (lvl + 2) X) {o : E} {f : Nat} {y : Str} {l : Expr} (hy : nm.fl[f]? = some y) (hf : f ∈ nm.xf) (p : pl l = true) (ho : PE X l (tE T Wx cs o)) : PE X (.Attribute l y pos) (tE T Wx cs (.xfl o f)) := by
  refine PE.of (pe_xa ho (pl_base p y X.env)) fun σ H Q q => ?_
  obtain ⟨ρ, h, env, S, r, P⟩ := tM.bind (Rl := RV T) (f := ev cs o) (g := fun _ x h => getX f x h) q
  refine ⟨ρ, h, env, S, r, P.imp fun v H1 ⟨ρ1, h1, env1, x, S1, r1, rx, P1⟩ => ?_⟩
  have rx : RW T.K ρ1 h1.length H1 x v := rx
  have P1 : PostG T (RV T) (WE Wx σ) ρ1 h1 H1 (getX f x h1) Q := P1
  cases rx with
  | ref hn =>
    rename_i n
    unfold getX at P1
    dsimp only at P1
    split at P1
    · rename_i c fs e
      split at P1
      · rename_i w ew
        obtain ⟨d, gs, x, hx, ha, hq, hr⟩ := S1.exc e
        have hy' : T.fld[f]? = some y := by
          rw [← g.fl]
          exact hy
        obtain ⟨u, hu, ru⟩ := FR.at hy' hr ew
        rcases hq with ⟨_, rfl⟩ | ⟨dd, rfl, hd⟩
        · cases hu
        · have hx' : nm.xc.lookup c = some x := by
            rw [g.xc]
            exact hx
          exact ⟨_, _, dd, gs, u, rfl, (g.xq c x hx').xf, g.xna c x f y hx' hf hy', ha, hd, hu, post_ok P1 S1 ru⟩
      · exact P1.elim
    · exact P1.elim
  | _ => exact P1.elim
/-- isinstance(e, c) -/
theorem snd_xis (g : GX T nm cs Wx (lvl + 2) X) {o : E} {ms : List Nat} {y : Str} {l : Expr} {p p2 : Pos} (h1 : glb X.env.scope "isinstance" = true) (h2 : glb X.env.scope y = true) (h3 : nodbg y = true)
    (hc : (∃ c d, nm.xc.lookup c = some d ∧ d.name = y ∧ d.sub = ms) ∨ (y = "ValueError" ∧ ∀ c d, nm.xc.lookup c = some d → ms.contains c = true)) (pa : pl l = true) (ho : PE X l (tE T Wx cs o)) :
    PE X (.Call (.Name "isinstance" p) [l, .Name y p2] [] pos) (tE T Wx cs (.xis ms o)) := by
  obtain ⟨cv, c, hb, rc, key⟩ : ∃ (cv : V) (c : Value), PE X (.Name y p2) (tC cv) ∧ (∀ u, RelV cv u → u = c) ∧ ∀ c' d', nm.xc.lookup c' = some d' → PySem.W.kitOne X.K (.ref (T.cl c')) c = some (ms.contains c') := by
    rcases hc with ⟨c, d, e1, e2, e3⟩ | ⟨rfl, e⟩
    · have q := g.xq c d e1
      refine ⟨.ref (T.cl c), .ref (T.cl c), pe_glob (glb_of h2) (by rw [← e2]; exact q.mgd) rfl (nodbg1 h3).1, fun u r => r, fun c' d' e' => ?_⟩
      rw [← e3]
      exact (q.ex c' d' (by rw [← g.xc]; exact e')).2
    · refine ⟨.ty "ValueError", .type "ValueError", pe_bltn (glb_of h2) (g.bl _ (by decide +kernel)) (by decide +kernel) rfl (nodbg1 h3).2.2 (nodbg1 h3).1, fun u r => r, fun c' d' e' => ?_⟩
      rw [e c' d' e']
      exact (g.xq c' d' e').ve
  refine PE.of (pe_callB call_xi (glb_of h1) (g.bl _ (by decide +kernel)) (by decide +kernel) (pa_cons ho (pa_cons hb pa_nil) (pl_star pa _ _)) (by decide +kernel) (by decide +kernel) (pl_star pa _ _) rfl) fun σ H Q q => ?_
  obtain ⟨ρ, h, env, S, r, P⟩ := tM.bind (Rl := RV T) (f := ev cs o) (g := fun _ x h => isX ms x h) q
  refine ⟨ρ, h, env, S, r, P.imp fun v H1 ⟨ρ1, m1, env1, x, S1, r1, rx, P1⟩ => ?_⟩
  have rx : RW T.K ρ1 m1.length H1 x v := rx
  have P1 : PostG T (RV T) (WE Wx σ) ρ1 m1 H1 (isX ms x m1) Q := P1
  cases rx with
  | ref hn =>
    unfold isX at P1
    dsimp only at P1
    split at P1
    · rename_i c' fs e
      obtain ⟨d, gs, xd, hx, ha, hq, hr⟩ := S1.exc e
      have hx' : nm.xc.lookup c' = some xd := by
        rw [g.xc]
        exact hx
      exact ⟨_, _, d, gs, cv, c, _, rfl, rc, (g.xq c' xd hx').xf, ha, hq, key c' xd hx', post_ok P1 S1 (.bl _)⟩
    · exact P1.elim
  | _ => exact P1.elim
/-! ### raise -/
theorem rai_H {H1 H' : Hp} {a d C : Addr} {fs : List (Str × V)} (ha : H1 a = none) (hd : H1 d = none) (ne : d ≠ a) (oth : ∀ b, b ≠ a → b ≠ d → H' b = upd H1 a (exo a C none) b) : upd (del H' a) d (.xd fs) = upd H1 d (.xd fs) := by
  funext b
  by_cases q : b = d
  · rw [q, upd_same, upd_same]
  · rw [upd_ne q, upd_ne q]
    by_cases r : b = a
    · rw [r, del_same, ha]
    · rw [del_ne r, oth b r q, upd_ne r]
theorem snd_rai0 (g : GX T nm cs Wx (lvl + 2) X) (hot : nm.hot = false) {c : Nat} {d : XD} {m : Str} {k : Nat} {p p2 pos' : Pos} (hc : nm.xc.lookup c = some d) (hi : d.ini = none) (h2 : glb X.env.scope d.name = true) (h3 : nodbg d.name = true) {x : List Nat} :
    PS X (.Raise (some (.Call (.Name d.name p) [.Constant (.str m) k p2] [] pos)) none pos') (tX T Wx cs (.rai c [] (.cons (.lit (.str x)) .nil))) := by
  have q := g.xq c d hc
  have pm : PMk X (.Call (.Name d.name p) [.Constant (.str m) k p2] [] pos) (fun _ H Q => Q (.ref (T.cl c)) none H) :=
    pmk_own PySem.F.excBase_ValueError (q.i0 hi) q.mgd q.kp (raises_own q.xf.su q.ty) (glb_of h2) (nodbg1 h3).1
  refine PS.of (ps_raise (g.calm hot) g.tk pm) fun D σ H ⟨ρ, h, env, S, r, P⟩ => ?_
  have P' : PostS T Wx ρ h H (.ex ⟨c, []⟩ env h) D := by
    have e : xs cs (.rai c [] (.cons (.lit (.str x)) .nil)) env h = .ex ⟨c, []⟩ env h := by
      simp [xs, evs, ev, raiX]
    rw [← e]
    exact P
  exact P' ρ H σ _ none (Ext.refl _ _ _) S r ⟨rfl, by rw [← g.xc, hc]; rfl, [], .inl ⟨rfl, rfl⟩, .nil⟩
theorem zip_fr {ρ : Nat → Addr} {N : Nat} {H : Hp} : ∀ {fl : List Nat} {ys : List Str}, Paired (fun (f : Nat) (y : Str) => T.fld[f]? = some y) fl ys → ∀ {ws : List W} {vs : List V}, RWs T.K ρ N H ws vs → FR T ρ N H (fl.zip ws) (ys.zip vs)
  | _, _, .nil, ws, vs, _ => by
    rw [List.zip_nil_left, List.zip_nil_left]
    exact .nil
  | _, _, .cons a r, _, _, .nil => .nil
  | _, _, .cons a r, _, _, .cons b s => .cons ⟨a, b⟩ (zip_fr r s)
theorem paired_app {α β : Type} {R : α → β → Prop} : ∀ {a : List α} {b : List β} {c : List α} {d : List β}, Paired R a b → Paired R c d → Paired R (a ++ c) (b ++ d)
  | _, _, _, _, .nil, s => s
  | _, _, _, _, .cons x r, s => .cons x (paired_app r s)
theorem paired_rev {α β : Type} {R : α → β → Prop} : ∀ {a : List α} {b : List β}, Paired R a b → Paired R a.reverse b.reverse
  | _, _, .nil => .nil
  | _, _, .cons x r => by
    rw [List.reverse_cons, List.reverse_cons]
    exact paired_app (paired_rev r) (.cons x .nil)
theorem snd_rai1 (g : GX T nm cs Wx (lvl + 2) X) (hot : nm.hot = false) {c : Nat} {d : XD} {fl : List Nat} {e : Expr} {es : List Expr} {is : Es} {p pos' : Pos} (hc : nm.xc.lookup c = some d) (hi : d.ini = some fl) (h2 : glb X.env.scope d.name = true) (h3 : nodbg d.name = true)
    (pe : (e :: es).all pl = true) (ha : PA X (e :: es) (tEs T Wx cs is)) : PS X (.Raise (some (.Call (.Name d.name p) (e :: es) [] pos)) none pos') (tX T Wx cs (.rai c fl is)) := by
  have q := g.xq c d hc
  obtain ⟨ne, Ox, ys, fI, fd, ps, py, k1, k2, F, B⟩ := q.i1 fl hi
  rw [List.all_cons] at pe
  obtain ⟨p1, p2⟩ := Bool.and_eq_true_iff.mp pe
  have pm : PMk X (.Call (.Name d.name p) (e :: es) [] pos) (tMkO (T.cl c) (spI (T.cl c) ys) [] (tEs T Wx cs is)) :=
    pmk_oex Ox k1 k2 F ((g.room hot).mono (by omega)) B .nil passL (glb_of h2) q.mgd ha (nodbg1 h3).1 (pl_star p1 es X.env) (pl_stars es p2)
  refine PS.of (ps_raise (g.calm hot) g.tk pm) fun D σ H ⟨ρ, h, env, S, r, P⟩ => ?_
  refine ⟨ρ, h, env, S, r, (PostS.st (Rl := RVs T) r (f := fun vs h => raiX c fl vs env h) P).imp fun vs H1 ⟨ρ1, h1, ws, _, e1, S1, rs, P1⟩ => ?_⟩
  have rs : RWs T.K ρ1 h1.length H1 ws vs := rs
  cases rs with
  | nil => exact P1.elim
  | @cons w ws v vs rw0 rt =>
    have P1 : PostS T Wx ρ1 h1 H1 (if ws.length = fl.length then .ex ⟨c, (fl.zip ws).reverse⟩ env h1 else .bad) D := P1
    split at P1
    · rename_i hl
      have ly := py.length
      have lv := rt.length
      refine ⟨by rw [List.length_cons]; omega, fun a na => ?_⟩
      refine ⟨a, v, vs ++ [], rfl, by rw [List.append_nil]; omega, upd_same, fun dx H' hd nd g1 g2 g3 => ⟨rfl, dx, _, g1, g2, ?_, ?_⟩⟩
      · rw [upd_ne nd] at hd
        exact hd
      · rw [upd_ne nd] at hd
        rw [rai_H na hd nd g3, List.append_nil]
        have x1 := ext_tup S1 hd (.xd (ys.zip vs).reverse)
        exact P1 ρ1 _ σ _ (some dx) x1 (sim_tup S1 hd _) ((r.mono e1).mono x1) ⟨rfl, by rw [← g.xc, hc]; rfl, _, .inr ⟨dx, rfl, upd_same⟩, FR.mono x1 (paired_rev (zip_fr py rt))⟩
    · exact P1.elim
/-! ### try -/
theorem GX.su (g : GX T nm cs Wx lvl X) (a : Addr) (pn : List (Addr × Obj)) : GX T nm.inSu cs (fun _ _ _ _ => False) lvl (suX X a pn) :=
  ⟨g.K, fun z => absurd (show true = false from z) (by decide), g.nd, fun z => absurd (show true = false from z) (by decide), g.un0, fun _ => ⟨rfl, rfl⟩, takes0, PassesOwn.never, g.bl, g.gl, fun k x e => (nomatch (show (none : Option Str) = some x from e)), g.fl, g.mkc, fun c m y e => (nomatch (show (none : Option Str) = some y from e)), g.na, g.xc, g.xq, g.xna⟩
theorem GX.tr (g : GX T nm cs Wx lvl X) {W : WX} {pn : List (Addr × Obj)} {xe : Value → Shared → Prop} (tk : Takes (X.tr pn xe) W) (po : PassesOwn (model X.prog X.w) X.A X.env xe) : GX T nm cs W lvl (X.tr pn xe) :=
  ⟨g.K, g.calm, g.nd, g.room, g.un0, g.hs, tk, po, g.bl, g.gl, fun k x e => ⟨(g.fn k x e).ex⟩, g.fl, g.mkc, fun c m y e => ⟨(g.mt c m y e).1, (g.mt c m y e).2.1, ⟨(g.mt c m y e).2.2.ex⟩⟩, g.na, g.xc, g.xq, g.xna⟩
/-- the clauses' readings -/
def hsTs (T : NT) (cs : Tab) : Hs → List (Value × Option Nat × TS)
  | .nil => []
  | .cons c _ i b r => (Value.ref (T.cl c), i, tXs T (fun _ _ _ _ => False) cs b) :: hsTs T cs r
def hsCl (nm : Nm) : Hs → Prop
  | .nil => True
  | .cons c ms _ _ r => (∃ d, nm.xc.lookup c = some d ∧ d.sub = ms) ∧ hsCl nm r
theorem er_put {K : PySem.W.Frag} {ρ : Nat → Addr} {N : Nat} {H : Hp} {env : Env} {σ : L2.St} (r : ER K ρ N H env σ) (i : Option Nat) {w : Option W} {v : Option V} (rw' : ∀ x, w = some x → ∃ y, v = some y ∧ RW K ρ N H x y) : ER K ρ N H (putE env i w) (putO σ i v) := by
  cases i with
  | none => exact r
  | some i =>
    refine ⟨by show (env.set i w).length = (σ.set i v).length; rw [List.length_set, List.length_set]; exact r.1, fun j x q => ?_⟩
    have q : (env.set i w)[j]? = some (some x) := q
    show ∃ v', (σ.set i v)[j]? = some (some v') ∧ _
    by_cases e : j = i
    · subst e
      by_cases l : j < env.length
      · rw [List.getElem?_set_self l] at q
        obtain ⟨y, e1, e2⟩ := rw' x (Option.some.inj q)
        refine ⟨y, ?_, e2⟩
        rw [List.getElem?_set_self (by rw [← r.1]; exact l), e1]
      · rw [List.getElem?_eq_none (by rw [List.length_set]; omega)] at q
        cases q
    · rw [List.getElem?_set_ne (Ne.symm e)] at q ⊢
      exact r.2 j x q
theorem hs_post {K : PySem.W.Frag} (xcE : nm.xc = T.xc) (xq : ∀ c d, nm.xc.lookup c = some d → ∀ c' d', T.xc.lookup c' = some d' → PySem.W.exmOne K (.ref (T.cl c')) (.ref (T.cl c)) = some (d.sub.contains c')) {D : Ends} {x : Ex} {env : Env} {h h0 : Mem} {H H0 : Hp} {ρ ρ0 : Nat → Addr} {σ : L2.St} {cls : Value} {d : Option Addr}
    (e0 : Ext T.K ρ0 h0 H0 ρ h H) (S : Sim T ρ h H) (er : ER T.K ρ h.length H env σ) (rx : RX T ρ h.length H x cls d) : ∀ (hs : Hs), hsCl nm hs → PostS T Wx ρ0 h0 H0 (xhs cs hs x env h) D → wX K Wx D (hsTs T cs hs) cls d σ H
  | .nil, _, P => P ρ H σ cls d e0 S er rx
  | .cons c ms i b r, ⟨⟨cd, c1, c2⟩, cr⟩, P => by
    obtain ⟨rc, rv, gs, xd, rf⟩ := rx
    obtain ⟨x', hx'⟩ := Option.isSome_iff_exists.mp rv
    have P : PostS T Wx ρ0 h0 H0 (if ms.contains x.c then (xss cs b (putE env i (some (.ref h.length))) (h ++ [.exc x.c x.fs])).gone i else xhs cs r x env h) D := P
    subst rc
    refine ⟨ms.contains x.c, ?_, fun hb a na => ?_, fun hb => ?_⟩
    · rw [← c2]
      exact xq c cd c1 x.c x' hx'
    · rw [if_pos hb] at P
      have x1 := ext_alloc S na (.exc x.c x.fs) (xob a (.ref (T.cl x.c)) d)
      have S1 := sim_alloc S na (o := .exc x.c x.fs) (u := xob a (.ref (T.cl x.c)) d) (.exc rv upd_same (xd.mono x1.xds) (FR.mono x1 rf))
      have ra : RW T.K (snoc ρ h.length a) (h ++ [Ob.exc x.c x.fs]).length (upd H a (xob a (.ref (T.cl x.c)) d)) (.ref h.length) (.ref (snoc ρ h.length a h.length)) := .ref (by simp)
      rw [snoc_at] at ra
      refine ⟨_, _, putE env i (some (.ref h.length)), S1, er_put (er.mono x1) i (fun y e => ⟨.ref a, rfl, by cases e; exact ra⟩), ?_⟩
      have e1 := e0.trans x1
      cases hr : xss cs b (putE env i (some (.ref h.length))) (h ++ [.exc x.c x.fs]) with
      | nx env2 h2 =>
        rw [hr, RS.gone_nx] at P
        exact fun ρ' H' σ' e s q => P ρ' H' _ (e1.trans e) s (er_put q i fun y z => nomatch z)
      | rt w h2 =>
        rw [hr, RS.gone_rt] at P
        exact fun ρ' H' v e s q => P ρ' H' v (e1.trans e) s q
      | ex x2 env2 h2 =>
        rw [hr] at P
        exact P.elim
      | bad =>
        rw [hr] at P
        exact P.elim
    · rw [hb, if_neg Bool.false_ne_true] at P
      exact hs_post xcE xq e0 S er ⟨rfl, rv, gs, xd, rf⟩ r cr P
theorem snd_try (g : GX T nm cs Wx lvl X) (hs : X.stack = X.env :: X.outer) (hf : X.env.frame = some X.env.locals) {b : Ss} {hh : Hs} {body : List Stmt} {h₀ : ExceptHandler} {hds : List ExceptHandler}
    (hb : ∀ (W : WX) (pn : List (Addr × Obj)) (xe : Value → Shared → Prop), Takes (X.tr pn xe) W → PassesOwn (model X.prog X.w) X.A X.env xe → PSs (X.tr pn xe) body (tXs T W cs b)) (hc : hsCl nm hh) (hx : HdX X (h₀ :: hds) (hsTs T cs hh)) :
    PS X (.Try body (h₀ :: hds) [] [] pos) (tX T Wx cs (.try b hh)) := by
  refine PS.of (ps_tryX hs hf g.nd g.tk hb hx) fun D σ H ⟨ρ, h, env, S, r, P⟩ => ⟨ρ, h, env, S, r, ?_⟩
  have P : PostS T Wx ρ h H ((xss cs b env h).catch fun x env h => xhs cs hh x env h) D := P
  cases hr : xss cs b env h with
  | nx env2 h2 =>
    rw [hr, RS.catch_nx] at P
    exact P
  | rt w h2 =>
    rw [hr, RS.catch_rt] at P
    exact P
  | bad =>
    rw [hr] at P
    exact P.elim
  | ex x env2 h2 =>
    rw [hr, RS.catch_ex] at P
    exact fun ρ' H' σ' cls d e s q rx => hs_post g.xc (fun c d hc c' d' hd => ((g.xq c d hc).ex c' d' hd).1) e s q rx hh hc (P.from (Ext.refl _ _ _))
end
end DM

/-! The deep machine: o[::-1], list(range(..)), enumerate, zip, extend. -/
namespace DM
open PySem L2 PySem.Spec PyProof.Rows
section
variable {T : NT} {nm : Nm} {cs : Tab} {Wx : WX} {lvl : Nat} {X : Cx} {pos : Pos}
theorem RWs.reverse {K : PySem.W.Frag} {ρ : Nat → Addr} {N : Nat} {H : Hp} : ∀ {w : List W} {v : List V}, RWs K ρ N H w v → RWs K ρ N H w.reverse v.reverse
  | _, _, .nil => .nil
  | _, _, .cons a r => by
    rw [List.reverse_cons, List.reverse_cons]
    exact (RWs.reverse r).app (.cons a .nil)
theorem snd_rev (hK : X.K = T.K) {o : E} {l : Expr} {k : Nat} {p1 p2 p3 : Pos} (ho : PE X l (tE T Wx cs o)) : PE X (.Subscript l (.Slice none none (some (.UnaryOp .USub (.Constant (.int 1) k p1) p2)) p3) pos) (tE T Wx cs (.rev o)) := by
  refine PE.of (pe_revL ho) fun σ H Q q => ?_
  obtain ⟨ρ, h, env, S, r, P⟩ := tM.bind (Rl := RV T) (f := ev cs o) (g := fun _ x h => match getL h x with
    | some xs => alloc (.lst xs.reverse) h
    | none => .bad) q
  refine ⟨ρ, h, env, S, r, P.imp fun v H1 ⟨ρ1, h1, env1, x, S1, r1, rx, P1⟩ => ?_⟩
  split at P1
  · rename_i xs ex
    obtain ⟨a, vs, rfl, q1, q2⟩ := getL_rel S1 rx ex
    refine ⟨a, vs, rfl, by rw [hK]; exact q1, fun p hp => ?_⟩
    exact post_lst S1 q2.reverse P1 p hp
  · exact P1.elim
theorem rngV (i j : Int) : ∀ (K : PySem.W.Frag) (ρ : Nat → Addr) (N : Nat) (H : Hp), RWs K ρ N H (upL i (j - i).toNat) (rgV i j) := by
  intro K ρ N H
  unfold upL rgV
  generalize (j - i).toNat = n
  have key : ∀ l : List Nat, RWs K ρ N H (l.map fun k => W.int (i + (k : Nat))) (l.map fun k => V.int (i + (k : Nat))) := fun l => by
    induction l with
    | nil => exact .nil
    | cons a r ih => exact .cons (.int _) ih
  exact key _
theorem rgOk_of {i j : Int} (h : (-1000000000000 ≤ i ∧ i ≤ 1000000000000) ∧ -1000000000000 ≤ j ∧ j ≤ 1000000000000) (l : (upL i (j - i).toNat).length ≤ LIM) : RgOk i j := by
  unfold upL at l
  rw [List.length_map, List.length_range] at l
  unfold LIM at l
  exact ⟨by omega, by omega, by omega, by omega, by omega⟩
theorem rng1_w {i j : Int} {w : Walk} (h : rngOf i j 1 = some w) : w = ⟨upL i (j - i).toNat, none, []⟩ ∧ (-1000000000000 ≤ i ∧ i ≤ 1000000000000) ∧ -1000000000000 ≤ j ∧ j ≤ 1000000000000 := by
  unfold rngOf at h
  split at h
  · cases h
  · rename_i hf
    have hf : far i = false ∧ far j = false := by simpa using hf
    rw [if_pos rfl] at h
    cases h
    exact ⟨rfl, far_of hf.1, far_of hf.2⟩
theorem lof_fin {i j : Int} {ρ : Nat → Addr} {h : Mem} {H : Hp} {E : XK} {Q : VK} (S : Sim T ρ h H) (P : PostG T (RV T) E ρ h H ((match rngOf i j 1 with
      | some w => R.ok w h
      | none => .bad).bind fun w h => newL w.xs h) Q) : RgOk i j ∧ ∀ q, H q = none → Q (.ref q) (upd H q (.lst (rgV i j))) := by
  cases e : rngOf i j 1 with
  | none =>
    rw [e] at P
    exact P.elim
  | some w =>
    rw [e] at P
    obtain ⟨rfl, b1, b2⟩ := rng1_w e
    have P : PostG T (RV T) E ρ h H (if (upL i (j - i).toNat).length ≤ LIM then alloc (.lst (upL i (j - i).toNat)) h else .bad) Q := P
    split at P
    · rename_i hl
      exact ⟨rgOk_of ⟨b1, b2⟩ hl, fun p hp => post_lst S (rngV i j _ _ _ _) P p hp⟩
    · exact P.elim
theorem snd_lof1 (g : GX T nm cs Wx lvl X) (cool : nm.hot = false) {e : E} {a : Expr} {p p2 pos2 : Pos} (hl : glb X.env.scope "list" = true) (hg : glb X.env.scope "range" = true) (pa : pl a = true) (ha : PE X a (tE T Wx cs e)) : PE X (.Call (.Name "list" p) [.Call (.Name "range" p2) [a] [] pos2] [] pos) (tE T Wx cs (.lof (.rng1 e))) := by
  refine PE.of (pe_listRg (g.calm cool) (glb_of hl) (g.bl _ (by decide +kernel)) (prg_1 (glb_of hg) (g.bl _ (by decide +kernel)) ha (pl_star pa _ _)) rfl) fun σ H Q q => ?_
  have q' : tM T Wx (RV T) (fun env h => (ev cs e env h).bind fun x h => (match x with
    | .int j => (match rngOf 0 j 1 with
      | some w => R.ok w h
      | none => .bad)
    | _ => .bad : R Walk).bind fun w h => newL w.xs h) σ H Q := by
    obtain ⟨ρ, h, env, S, r, P⟩ := q
    refine ⟨ρ, h, env, S, r, ?_⟩
    have P : PostG T (RV T) (WE Wx σ) ρ h H ((evi cs (.rng1 e) env h).bind fun w h => newL w.xs h) Q := P
    unfold evi at P
    rw [R.bind_bind] at P
    exact P
  obtain ⟨ρ, h, env, S, r, P⟩ := tM.bind (Rl := RV T) (f := ev cs e) (g := fun _ x h => (match x with
    | .int j => (match rngOf 0 j 1 with
      | some w => R.ok w h
      | none => .bad)
    | _ => .bad : R Walk).bind fun w h => newL w.xs h) q'
  refine ⟨ρ, h, env, S, r, P.imp fun v H1 ⟨ρ1, h1, env1, x, S1, r1, rx, P1⟩ => ?_⟩
  have rx : RW T.K ρ1 h1.length H1 x v := rx
  cases rx with
  | int j => exact ⟨j, rfl, lof_fin S1 P1⟩
  | _ => exact P1.elim
theorem snd_lof2 (g : GX T nm cs Wx lvl X) (cool : nm.hot = false) {e e' : E} {a b : Expr} {p p2 pos2 : Pos} (hl : glb X.env.scope "list" = true) (hg : glb X.env.scope "range" = true) (pa : pl a = true) (pb : pl b = true) (ha : PE X a (tE T Wx cs e)) (hb : PE X b (tE T Wx cs e')) : PE X (.Call (.Name "list" p) [.Call (.Name "range" p2) [a, b] [] pos2] [] pos) (tE T Wx cs (.lof (.rng2 e e'))) := by
  refine PE.of (pe_listRg (g.calm cool) (glb_of hl) (g.bl _ (by decide +kernel)) (prg_2 (glb_of hg) (g.bl _ (by decide +kernel)) ha hb (pl_star pa _ _) (pl_star pb _ _) (by rw [pl_star pb]; rfl)) rfl) fun σ H Q q => ?_
  have q' : tM T Wx (RV T) (fun env h => (ev cs e env h).bind fun x h => (ev cs e' env h).bind fun y h => (match (generalizing := false) x, y with
    | .int i, .int j => (match rngOf i j 1 with
      | some w => R.ok w h
      | none => .bad)
    | _, _ => .bad : R Walk).bind fun w h => newL w.xs h) σ H Q := by
    obtain ⟨ρ, h, env, S, r, P⟩ := q
    refine ⟨ρ, h, env, S, r, ?_⟩
    have P : PostG T (RV T) (WE Wx σ) ρ h H ((evi cs (.rng2 e e') env h).bind fun w h => newL w.xs h) Q := P
    unfold evi at P
    rw [R.bind_bind] at P
    show PostG T (RV T) (WE Wx σ) ρ h H ((ev cs e env h).bind fun x h => (ev cs e' env h).bind fun y h => (match (generalizing := false) x, y with
    | .int i, .int j => (match rngOf i j 1 with
      | some w => R.ok w h
      | none => .bad)
    | _, _ => .bad : R Walk).bind fun w h => newL w.xs h) Q
    cases z : ev cs e env h with
    | ok x m =>
      rw [z] at P
      have P : PostG T (RV T) (WE Wx σ) ρ h H (((ev cs e' env m).bind fun y h => (match (generalizing := false) x, y with
    | .int i, .int j => (match rngOf i j 1 with
      | some w => R.ok w h
      | none => .bad)
    | _, _ => .bad : R Walk)).bind fun w h => newL w.xs h) Q := P
      rw [R.bind_bind] at P
      exact P
    | ex x m =>
      rw [z] at P
      exact P
    | bad =>
      rw [z] at P
      exact P
  obtain ⟨ρ, h, env, S, r, P⟩ := tM.bind (Rl := RV T) (f := ev cs e) (g := fun env x h => (ev cs e' env h).bind fun y h => (match (generalizing := false) x, y with
    | .int i, .int j => (match rngOf i j 1 with
      | some w => R.ok w h
      | none => .bad)
    | _, _ => .bad : R Walk).bind fun w h => newL w.xs h) q'
  refine ⟨ρ, h, env, S, r, P.imp fun v H1 ⟨ρ1, h1, env1, x, S1, r1, rx, P1⟩ => ?_⟩
  refine ⟨ρ1, h1, env1, S1, r1, (P1.bind (Rl := RV T)).imp fun u H2 ⟨ρ2, h2, y, _, e2, S2, ry, P2⟩ => ?_⟩
  have rx : RW T.K ρ2 h2.length H2 x v := RW.mono e2 rx
  have ry : RW T.K ρ2 h2.length H2 y u := ry
  cases rx with
  | int i => cases ry with
    | int j => exact ⟨i, j, rfl, rfl, lof_fin S2 P2⟩
    | _ => exact P2.elim
  | _ => cases ry <;> exact P2.elim
theorem PI.of' {tg x : Expr} {t t' : TI} (h : PI X tg x t) (i : ∀ σ H R, t' σ H R → t σ H R) : PI X tg x t' := ⟨fun pins s σ H R I q => h.run pins s σ H R I (i σ H R q)⟩
/-! ### enumerate, zip -/
/-- what a list that is walked is, as long as it stays -/
theorem src_key {ρ ρ1 : Nat → Addr} {h h1 : Mem} {H H1 : Hp} {x : W} {v : V} {ws : List W} (S : Sim T ρ h H) (rx : RW T.K ρ h.length H x v) (eg : getL h x = some ws) (e : Ext T.K ρ h H ρ1 h1 H1) (S1 : Sim T ρ1 h1 H1) (st : ((srcOf x ws).all fun p => decide (getL h1 (.ref p.1) = some p.2)) = true) :
    ∃ a vs, v = .ref a ∧ SqL T.K H1 a vs ∧ RWs T.K ρ1 h1.length H1 ws vs := by
  have rx1 := RW.mono e rx
  have eg1 : getL h1 x = some ws := by
    cases x with
    | con zs => exact eg
    | ref n =>
      have st : (decide (getL h1 (.ref n) = some ws) && true) = true := st
      rw [Bool.and_true] at st
      exact of_decide_eq_true st
    | _ => cases eg
  exact getL_rel S1 rx1 eg1
theorem enumL_len : ∀ (k : Nat) (ws : List W), (enumL k ws).length = ws.length
  | _, [] => rfl
  | k, x :: r => by
    show (enumL (k + 1) r).length + 1 = r.length + 1
    rw [enumL_len]
theorem enumL_at : ∀ (k : Nat) (ws : List W) (i : Nat) (x : W), ws[i]? = some x → (enumL k ws)[i]? = some (.tup [.int ((k + i : Nat) : Int), x])
  | _, [], _, _, e => by simp at e
  | k, y :: r, 0, x, e => by
    simp at e
    subst e
    rfl
  | k, y :: r, i + 1, x, e => by
    have := enumL_at (k + 1) r i x (by simpa using e)
    rw [show k + 1 + i = k + (i + 1) by omega] at this
    exact this
theorem jw_enum {ρ : Nat → Addr} {h : Mem} {H : Hp} {x : W} {v : V} {a : Addr} {ws : List W} (S : Sim T ρ h H) (rx : RW T.K ρ h.length H x v) (eg : getL h x = some ws) (ev : v = .ref a) : JW T ρ h H ⟨enumL 0 ws, none, srcOf x ws⟩ (Ite T.K a) := by
  subst ev
  refine ⟨fun i ρ1 h1 H1 e S1 st hi => ?_, fun ρ1 h1 H1 e S1 st => ?_⟩
  · obtain ⟨b, vs, eb, q1, q2⟩ := src_key S rx eg e S1 (by simpa [stays] using st)
    cases eb
    have hi : i < ws.length := by
      have : i < (enumL 0 ws).length := hi
      rwa [enumL_len] at this
    obtain ⟨y, y1, y2⟩ := q2.at (List.getElem?_eq_getElem hi)
    refine ⟨⟨vs, y, q1, y1⟩, fun z H' yl => ?_⟩
    obtain ⟨Tp, u, rfl, hn, rfl, hu⟩ := yl
    have := hu vs q1
    rw [y1] at this
    cases this
    have x3 := ext_tup S1 hn (.tup [.int (i : Nat), y])
    refine ⟨.tup [.int ((0 + i : Nat) : Int), ws[i]], enumL_at 0 ws i _ (List.getElem?_eq_getElem hi), x3, sim_tup S1 hn _, ?_, fun b hb => upd_ne fun z => hb (by rw [z]; exact hn)⟩
    rw [Nat.zero_add]
    exact .tup (.inl (.inl upd_same)) (.cons (.int _) (.cons (y2.mono x3) .nil))
  · obtain ⟨b, vs, eb, q1, q2⟩ := src_key S rx eg e S1 (by simpa [stays] using st)
    cases eb
    exact ⟨vs, q1, by rw [q2.length]; show ws.length ≤ (enumL 0 ws).length; rw [enumL_len]; exact Nat.le_refl _⟩
theorem snd_enum (g : GX T nm cs Wx lvl X) {e : E} {a : Expr} {p : Pos} {elts : List Expr} {kk : Nat} {tpos : Pos} (hg : glb X.env.scope "enumerate" = true) (pa : pl a = true) (ha : PE X a (tE T Wx cs e)) : PI X (.Tuple elts kk tpos) (.Call (.Name "enumerate" p) [a] [] pos) (tM T Wx (RIt T) (evi cs (.enum e))) := by
  refine PI.of' (pi_enum (glb_of hg) (g.bl _ (by decide +kernel)) (pa_cons ha pa_nil (pl_star pa _ _)) (by rw [pl_star pa]; rfl)) fun σ H G q => ?_
  obtain ⟨ρ, h, env, S, r, P⟩ := tM.bind (Rl := RV T) (f := ev cs e) (g := fun _ x h => match enumOf h x with
    | some w => R.ok w h
    | none => .bad) q
  refine ⟨ρ, h, env, S, r, P.imp fun v H1 ⟨ρ1, h1, env1, x, S1, r1, rx, P1⟩ => ?_⟩
  unfold enumOf at P1
  cases eg : getL h1 x with
  | none =>
    rw [eg] at P1
    exact P1.elim
  | some ws =>
    rw [eg] at P1
    obtain ⟨b, vs, rfl, q1, q2⟩ := getL_rel S1 rx eg
    refine ⟨b, vs, rfl, by rw [g.K]; exact q1, ?_⟩
    rw [g.K]
    exact P1 ρ1 H1 _ (Ext.refl _ _ _) S1 (jw_enum S1 rx eg rfl)
theorem zipL_len (xs ys : List W) : (zipL xs ys).length = min xs.length ys.length := by
  unfold zipL
  rw [List.length_map, List.length_zip]
theorem zipL_at {xs ys : List W} {i : Nat} {x y : W} (e1 : xs[i]? = some x) (e2 : ys[i]? = some y) : (zipL xs ys)[i]? = some (.tup [x, y]) := by
  unfold zipL
  rw [List.getElem?_map]
  have : (xs.zip ys)[i]? = some (x, y) := by
    rw [List.getElem?_zip_eq_some]
    exact ⟨e1, e2⟩
  rw [this]
  rfl
theorem jw_zip {ρ : Nat → Addr} {h : Mem} {H : Hp} {x y : W} {a b : Addr} {xs ys : List W} (S : Sim T ρ h H) (rx : RW T.K ρ h.length H x (.ref a)) (ry : RW T.K ρ h.length H y (.ref b)) (ex : getL h x = some xs) (ey : getL h y = some ys) : JW T ρ h H ⟨zipL xs ys, none, srcOf x xs ++ srcOf y ys⟩ (Itz T.K a b) := by
  have two : ∀ h1, stays h1 ⟨zipL xs ys, none, srcOf x xs ++ srcOf y ys⟩ = true → ((srcOf x xs).all fun p => decide (getL h1 (.ref p.1) = some p.2)) = true ∧ ((srcOf y ys).all fun p => decide (getL h1 (.ref p.1) = some p.2)) = true := fun h1 st => by
    have st : (true && (srcOf x xs ++ srcOf y ys).all fun p => decide (getL h1 (.ref p.1) = some p.2)) = true := st
    rw [Bool.true_and, List.all_append] at st
    exact Bool.and_eq_true_iff.mp st
  refine ⟨fun i ρ1 h1 H1 e S1 st hi => ?_, fun ρ1 h1 H1 e S1 st => ?_⟩
  · obtain ⟨s1, s2⟩ := two h1 st
    obtain ⟨a', vs, ea, p1, p2⟩ := src_key S rx ex e S1 s1
    obtain ⟨b', us, eb, q1, q2⟩ := src_key S ry ey e S1 s2
    cases ea
    cases eb
    have hi : i < min xs.length ys.length := by
      have : i < (zipL xs ys).length := hi
      rwa [zipL_len] at this
    have i1 : i < xs.length := by omega
    have i2 : i < ys.length := by omega
    obtain ⟨u, u1, u2⟩ := p2.at (List.getElem?_eq_getElem i1)
    obtain ⟨w, w1, w2⟩ := q2.at (List.getElem?_eq_getElem i2)
    refine ⟨⟨vs, us, u, w, p1, q1, u1, w1⟩, fun z H' yl => ?_⟩
    obtain ⟨Tp, u', w', rfl, hn, rfl, hu, hw⟩ := yl
    have := hu vs p1
    rw [u1] at this
    cases this
    have := hw us q1
    rw [w1] at this
    cases this
    have x3 := ext_tup S1 hn (.tup [u, w])
    exact ⟨.tup [xs[i], ys[i]], zipL_at (List.getElem?_eq_getElem i1) (List.getElem?_eq_getElem i2), x3, sim_tup S1 hn _, .tup (.inl (.inl upd_same)) (.cons (u2.mono x3) (.cons (w2.mono x3) .nil)), fun b hb => upd_ne fun z => hb (by rw [z]; exact hn)⟩
  · obtain ⟨s1, s2⟩ := two h1 st
    obtain ⟨a', vs, ea, p1, p2⟩ := src_key S rx ex e S1 s1
    obtain ⟨b', us, eb, q1, q2⟩ := src_key S ry ey e S1 s2
    cases ea
    cases eb
    refine ⟨vs, us, p1, q1, ?_⟩
    show vs.length ≤ (zipL xs ys).length ∨ us.length ≤ (zipL xs ys).length
    rw [p2.length, q2.length, zipL_len]
    omega
theorem jw_zipT {ρ : Nat → Addr} {h : Mem} {H : Hp} {a b : Addr} {xs ys : List W} {vs us : List V} (s1 : SqT T.K H a vs) (s2 : SqT T.K H b us) (p2 : RWs T.K ρ h.length H xs vs) (q2 : RWs T.K ρ h.length H ys us) : JW T ρ h H ⟨zipL xs ys, none, []⟩ (RZ.ItzT T.K a b) := by
  refine ⟨fun i ρ1 h1 H1 e S1 st hi => ?_, fun ρ1 h1 H1 e S1 st => ?_⟩
  · have hi : i < min xs.length ys.length := by
      have : i < (zipL xs ys).length := hi
      rwa [zipL_len] at this
    have i1 : i < xs.length := by omega
    have i2 : i < ys.length := by omega
    have p1 := e.tup _ _ s1
    have q1 := e.tup _ _ s2
    obtain ⟨u, u1, u2⟩ := p2.at (List.getElem?_eq_getElem i1)
    obtain ⟨w, w1, w2⟩ := q2.at (List.getElem?_eq_getElem i2)
    refine ⟨⟨vs, us, u, w, p1, q1, u1, w1⟩, fun z H' yl => ?_⟩
    obtain ⟨Tp, u', w', rfl, hn, rfl, hu, hw⟩ := yl
    have := hu vs p1
    rw [u1] at this
    cases this
    have := hw us q1
    rw [w1] at this
    cases this
    have x3 := ext_tup S1 hn (.tup [u, w])
    exact ⟨.tup [xs[i], ys[i]], zipL_at (List.getElem?_eq_getElem i1) (List.getElem?_eq_getElem i2), x3, sim_tup S1 hn _, .tup (.inl (.inl upd_same)) (.cons ((u2.mono e).mono x3) (.cons ((w2.mono e).mono x3) .nil)), fun b hb => upd_ne fun z => hb (by rw [z]; exact hn)⟩
  · refine ⟨vs, us, e.tup _ _ s1, e.tup _ _ s2, ?_⟩
    show vs.length ≤ (zipL xs ys).length ∨ us.length ≤ (zipL xs ys).length
    rw [p2.length, q2.length, zipL_len]
    omega
theorem snd_zip (g : GX T nm cs Wx lvl X) {e e' : E} {a b : Expr} {p : Pos} {elts : List Expr} {kk : Nat} {tpos : Pos} (hg : glb X.env.scope "zip" = true) (pa : pl a = true) (pb : pl b = true) (ha : PE X a (tE T Wx cs e)) (hb : PE X b (tE T Wx cs e')) : PI X (.Tuple elts kk tpos) (.Call (.Name "zip" p) [a, b] [] pos) (tM T Wx (RIt T) (evi cs (.zip e e'))) := by
  refine PI.of' (RZ.pi_zipA (glb_of hg) (g.bl _ (by decide +kernel)) (pa_cons ha (pa_cons hb pa_nil (pl_star pb _ _)) (pl_star pa _ _)) (pl_star pa _ _) (by rw [pl_star pb]; rfl)) fun σ H G q => ?_
  obtain ⟨ρ, h, env, S, r, P⟩ := tM.bind (Rl := RV T) (f := ev cs e) (g := fun env x h => (ev cs e' env h).bind fun y h => match zipOf h x y with
    | some w => R.ok w h
    | none => .bad) q
  refine ⟨ρ, h, env, S, r, P.imp fun v H1 ⟨ρ1, h1, env1, x, S1, r1, rx, P1⟩ => ?_⟩
  refine ⟨ρ1, h1, env1, S1, r1, (P1.bind (Rl := RV T)).imp fun u H2 ⟨ρ2, h2, y, _, e2, S2, ry, P2⟩ => ?_⟩
  have rx : RW T.K ρ2 h2.length H2 x v := RW.mono e2 rx
  have ry : RW T.K ρ2 h2.length H2 y u := ry
  have gen : (match getL h2 x, getL h2 y with
    | some xs, some ys => some (⟨zipL xs ys, none, srcOf x xs ++ srcOf y ys⟩ : Walk)
    | _, _ => none) = zipOf h2 x y → ∃ a b xs ys, [v, u] = [V.ref a, V.ref b] ∧ ((SqL X.K H2 a xs ∧ SqL X.K H2 b ys ∧ G (Itz X.K a b) H2) ∨ (SqT X.K H2 a xs ∧ SqT X.K H2 b ys ∧ G (RZ.ItzT X.K a b) H2)) := by
    intro eq
    rw [← eq] at P2
    cases ex : getL h2 x with
    | none =>
      rw [ex] at P2
      exact P2.elim
    | some xs => cases ey : getL h2 y with
      | none =>
        rw [ex, ey] at P2
        exact P2.elim
      | some ys =>
        rw [ex, ey] at P2
        obtain ⟨a, vs, rfl, p1, p2⟩ := getL_rel S2 rx ex
        obtain ⟨b, us, rfl, q1, q2⟩ := getL_rel S2 ry ey
        rw [g.K]
        exact ⟨a, b, vs, us, rfl, .inl ⟨p1, q1, P2 ρ2 H2 _ (Ext.refl _ _ _) S2 (jw_zip S2 rx ry ex ey)⟩⟩
  cases rx with
  | tup s1 p2 => cases ry with
    | tup s2 q2 =>
      rw [g.K]
      exact ⟨_, _, _, _, rfl, .inr ⟨s1, s2, P2 ρ2 H2 _ (Ext.refl _ _ _) S2 (jw_zipT s1 s2 p2 q2)⟩⟩
    | non => exact P2.elim
    | bl _ => exact P2.elim
    | int _ => exact P2.elim
    | str _ _ => exact P2.elim
    | con s r => exact gen rfl
    | ref l => exact gen rfl
  | non => exact gen rfl
  | bl _ => exact gen rfl
  | int _ => exact gen rfl
  | str _ _ => exact gen rfl
  | con s r => exact gen rfl
  | ref l => exact gen rfl
/-! ### extend -/
theorem bm_extend : MtR X "list.extend" (rBM T .extend) := by
  intro pins s σ H x xs v us Q I rx rs ⟨E, ρ, h, w, ws, S, r1, r2, P⟩
  cases r1 with
  | ref hn =>
    rename_i n
    match ws, r2, P with
    | [], _, P => exact P.elim
    | y :: z :: r, _, P =>
      have P' : False := by
        cases y <;> exact P
      exact P'.elim
    | [y], .cons (v := y') a .nil, P =>
      cases a with
      | ref hm =>
        rename_i m
        have P' : PostG T (RV T) E ρ h H (match h[n]?, h[m]? with
          | some (.lst xs), some (.lst ys) => if xs.length + ys.length ≤ LIM then .ok .non (h.set n (.lst (xs ++ ys))) else .bad
          | _, _ => .bad) Q := P
        split at P'
        · rename_i xs ys e1 e2
          split at P'
          · rename_i hl
            obtain ⟨zs, q1, q2⟩ := S.lst e1
            obtain ⟨us', p1, p2⟩ := S.lst e2
            refine mt_extend pins s σ H _ _ v us Q I rx rs ⟨_, _, zs, us', rfl, rfl, q1, p1, by rw [q2.length, p2.length]; exact lim_line hl, ?_⟩
            exact post_set S hn (.lst upd_same (by
              have m := RWs.mono (ext_set S hn (.lst (xs ++ ys)) (.lst (zs ++ us'))) (q2.app p2)
              exact m)) P' .non
          · exact P'.elim
        · exact P'.elim
      | _ => exact P.elim
  | _ =>
    have P' : False := P
    exact P'.elim
theorem snd_extend (hK : X.K = T.K) {o e : E} {l a : Expr} {apos cpos : Pos} (pl1 : pl l = true) (p2 : pl a = true) (hl : (apos.endLine == cpos.line) = true) (ho : PE X l (tE T Wx cs o)) (ha : PE X a (tE T Wx cs e)) :
    PE X (.Call (.Attribute l "extend" apos) [a] [] cpos) (tE T Wx cs (.bm .extend o (.cons e .nil))) :=
  PE.of (pe_bm PySem.F.plainAttrs_list PySem.F.slot_list_extend PySem.F.type_list_extend bm_extend ho (snd_cons p2 ha snd_nil) (pl_base pl1 _ _) (by rw [pl_star p2]; rfl) hl (pl_star p2 _ _) rfl) fun _ _ _ q => bm_red hK q
end
end DM

/-! The deep machine: the checker of its form against the text; all of it is right. -/
namespace DM
open PySem L2 PySem.Spec PyProof.Rows
/-- a name called: the form of the call -/
def nmOk (sc : Scope) (x y : Str) : Bool := decide (x = y) && glb sc y && nodbg y
mutual
def chkE (nm : Nm) (N : List Str) : E → Scope → Expr → Bool
  | .var i, sc, x => (match x with
    | .Name y _ => decide (N[i]? = some y) && vis sc y && nodbg y
    | _ => false)
  | .lit w, sc, x => (match x with
    | .Constant c _ _ => litOk w c
    | _ => false)
  | .glo _ w, sc, x => (match x with
    | .Name y _ => decide (nm.gl.lookup y = some w) && glb sc y && nodbg y
    | _ => false)
  | .op o a b, sc, x => (match x with
    | .BinOp l op r _ => decide (binOf o = some op) && pl l && pl r && chkE nm N a sc l && chkE nm N b sc r
    | .Compare l [op] [r] _ => decide (cmpOf o = some op) && pl l && pl r && chkE nm N a sc l && chkE nm N b sc r
    | _ => false)
  | .neg a, sc, x => (match x with
    | .UnaryOp .USub l _ => pl l && chkE nm N a sc l
    | _ => false)
  | .not a, sc, x => (match x with
    | .UnaryOp .Not l _ => pl l && chkE nm N a sc l
    | _ => false)
  | .and a b, sc, x => (match x with
    | .BoolOp .And (l :: r :: rest) p => pl l && chkE nm N a sc l && (match rest with
      | [] => pl r && chkE nm N b sc r
      | _ => chkE nm N b sc (.BoolOp .And (r :: rest) p))
    | _ => false)
  | .or a b, sc, x => (match x with
    | .BoolOp .Or (l :: r :: rest) p => pl l && chkE nm N a sc l && (match rest with
      | [] => pl r && chkE nm N b sc r
      | _ => chkE nm N b sc (.BoolOp .Or (r :: rest) p))
    | _ => false)
  | .ch a c, sc, x => (match x with
    | .Compare l (op :: op' :: ops) (r :: r' :: rs) _ => pl l && chkE nm N a sc l && chkC nm N c sc (op :: op' :: ops) (r :: r' :: rs) && !(lastMarks (op :: op' :: ops) (r :: r' :: rs))
    | _ => false)
  | .call k es, sc, x => (match x with
    | .Call (.Name y _) (e :: xs) [] _ => decide (nm.fn.lookup k = some y) && glb sc y && nodbg y && chkEs nm N es sc (e :: xs)
    | .Call (.Name y _) [] [] _ => decide (nm.fn.lookup k = some y) && glb sc y && nodbg y && chkEs nm N es sc []
    | _ => false)
  | .fld cl o f, sc, x => (match x with
    | .Attribute l y _ => decide (nm.fl[f]? = some y) && (cl.all fun c => nm.na.contains (c, f)) && pl l && chkE nm N o sc l
    | _ => false)
  | .meth c m o es, sc, x => (match x with
    | .Call (.Attribute l y apos) (e :: xs) [] pos => decide (nm.mth.lookup (c, m) = some y) && pl l && decide ((e :: xs).length < 30) && (apos.endLine == pos.line) && chkE nm N o sc l && chkEs nm N es sc (e :: xs)
    | .Call (.Attribute l y apos) [] [] pos => decide (nm.mth.lookup (c, m) = some y) && pl l && (apos.endLine == pos.line) && chkE nm N o sc l && chkEs nm N es sc []
    | _ => false)
  | .make c es, sc, x => (match x with
    | .Call (.Name y _) (e :: xs) [] _ => decide (nm.cls.lookup c = some y) && decide (nm.mth.lookup (c, 0) = some "__init__") && glb sc y && nodbg y && chkEs nm N es sc (e :: xs)
    | .Call (.Name y _) [] [] _ => decide (nm.cls.lookup c = some y) && decide (nm.mth.lookup (c, 0) = some "__init__") && glb sc y && nodbg y && chkEs nm N es sc []
    | _ => false)
  | .bi f es, sc, x => (match x with
    | .Call (.Name y _) (e :: xs) [] _ => (match biFn f with
      | some (z, _) => !(loud f && nm.hot) && nmOk sc z y && chkEs nm N es sc (e :: xs)
      | none => (match biTy f with
        | some (z, _) => nmOk sc z y && chkEs nm N es sc (e :: xs)
        | none => (match isiOf f, xs with
          | some (z, _), [.Name u _] => nmOk sc "isinstance" y && nmOk sc z u && chkEs nm N es sc [e]
          | _, _ => false)))
    | _ => false)
  | .bm f o es, sc, x => (match x with
    | .Call (.Attribute l n apos) [] [] cpos => (match f with
      | .pop => decide (n = "pop")
      | .clear => decide (n = "clear")
      | _ => false) && (apos.endLine == cpos.line) && pl l && chkE nm N o sc l && chkEs nm N es sc []
    | .Call (.Attribute l n apos) [a] [] cpos => (match f with
      | .append => decide (n = "append")
      | .extend => decide (n = "extend")
      | _ => false) && (apos.endLine == cpos.line) && pl l && chkE nm N o sc l && chkEs nm N es sc [a]
    | .Call (.Attribute l n apos) [a, b] [] cpos => (match f with
      | .insert => decide (n = "insert")
      | _ => false) && (apos.endLine == cpos.line) && pl l && chkE nm N o sc l && chkEs nm N es sc [a, b]
    | _ => false)
  | .idx o i, sc, x => (match x with
    | .Subscript l r _ => pl l && pl r && chkE nm N o sc l && chkE nm N i sc r
    | _ => false)
  | .slc o lo hi, sc, x => (match x with
    | .Subscript l (.Slice a b none _) _ => pl l && chkE nm N o sc l && chkOp nm N lo sc a && chkOp nm N hi sc b
    | _ => false)
  | .lst es, sc, x => (match x with
    | .List xs _ => chkEs nm N es sc xs
    | _ => false)
  | .tup es, sc, x => (match x with
    | .Tuple xs _ _ => chkEs nm N es sc xs
    | _ => false)
  | .dic0, sc, x => (match x with
    | .Dict [] [] _ => true
    | _ => false)
  | .comp t it own c e, sc, x => (match x with
    | .ListComp elt [⟨tg, iter, ifs, 0⟩] scope _ => !nm.hot && lcOk N sc scope own t tg iter && pl iter && chkI nm N it sc tg iter && pl elt && chkE nm N e (relS scope sc) elt && (match ifs with
      | [] => chkOp nm N c (relS scope sc) none
      | [i] => chkOp nm N c (relS scope sc) (some i)
      | _ => false)
    | _ => false)
  | .xfl o f, sc, x => (match x with
    | .Attribute l y _ => decide (nm.fl[f]? = some y) && nm.xf.contains f && pl l && chkE nm N o sc l
    | _ => false)
  | .xis ms o, sc, x => (match x with
    | .Call (.Name u _) [l, .Name y _] [] _ => nmOk sc "isinstance" u && glb sc y && nodbg y && ((nm.xc.any fun p => decide (p.2.name = y) && decide (p.2.sub = ms) && (match nm.xc.lookup p.1 with
      | some d => decide (d.name = y) && decide (d.sub = ms)
      | none => false)) || (decide (y = "ValueError") && nm.xc.all fun p => ms.contains p.1)) && pl l && chkE nm N o sc l
    | _ => false)
  | .rev o, sc, x => (match x with
    | .Subscript l (.Slice none none (some (.UnaryOp .USub (.Constant (.int 1) _ _) _)) _) _ => pl l && chkE nm N o sc l
    | _ => false)
  | .lof it, sc, x => (match x with
    | .Call (.Name y _) [r] [] _ => !nm.hot && nmOk sc "list" y && pl r && (match it with
      | .rng1 _ => true
      | .rng2 _ _ => true
      | _ => false) && chkI nm N it sc r r
    | _ => false)
def chkEs (nm : Nm) (N : List Str) : Es → Scope → List Expr → Bool
  | .nil, sc, x => (match x with
    | [] => true
    | _ => false)
  | .cons e es, sc, x => (match x with
    | y :: ys => pl y && chkE nm N e sc y && chkEs nm N es sc ys
    | [] => false)
def chkOp (nm : Nm) (N : List Str) : Eo → Scope → Option Expr → Bool
  | .no, sc, x => (match x with
    | none => true
    | _ => false)
  | .so e, sc, x => (match x with
    | some y => pl y && chkE nm N e sc y
    | none => false)
def chkC (nm : Nm) (N : List Str) : Ch → Scope → List CmpOp → List Expr → Bool
  | .one o e, sc, ops, rs => (match ops, rs with
    | [op], [r] => decide (cmpOf o = some op) && pl r && chkE nm N e sc r
    | _, _ => false)
  | .more o e c, sc, ops, rs => (match ops, rs with
    | op :: op' :: ops, r :: r' :: rs => decide (cmpOf o = some op) && pl r && chkE nm N e sc r && chkC nm N c sc (op' :: ops) (r' :: rs)
    | _, _ => false)
def chkI (nm : Nm) (N : List Str) : DM.It → Scope → Expr → Expr → Bool
  | .of e, sc, tg, x => chkE nm N e sc x
  | .rng1 a, sc, tg, x => (match x with
    | .Call (.Name y _) [l] [] _ => nmOk sc "range" y && pl l && chkE nm N a sc l
    | _ => false)
  | .rng2 a b, sc, tg, x => (match x with
    | .Call (.Name y _) [l, r] [] _ => nmOk sc "range" y && pl l && pl r && chkE nm N a sc l && chkE nm N b sc r
    | _ => false)
  | .rng3 a b c, sc, tg, x => (match x with
    | .Call (.Name y _) [l, r, s] [] _ => nmOk sc "range" y && pl l && pl r && pl s && chkE nm N a sc l && chkE nm N b sc r && chkE nm N c sc s
    | _ => false)
  | .enum a, sc, tg, x => (match x, tg with
    | .Call (.Name y _) [l] [] _, .Tuple _ _ _ => nmOk sc "enumerate" y && pl l && chkE nm N a sc l
    | _, _ => false)
  | .zip a b, sc, tg, x => (match x, tg with
    | .Call (.Name y _) [l, r] [] _, .Tuple _ _ _ => nmOk sc "zip" y && pl l && pl r && chkE nm N a sc l && chkE nm N b sc r
    | _, _ => false)
end
theorem memX {α : Type} {c : Nat} {x : α} : ∀ {xs : List (Nat × α)}, xs.lookup c = some x → (c, x) ∈ xs
  | [], e => nomatch e
  | (d, y) :: r, e => by
    rw [List.lookup_cons] at e
    by_cases q : c = d
    · subst q
      rw [beq_self_eq_true] at e
      cases e
      exact .head _
    · rw [beq_eq_false_iff_ne.mpr q] at e
      exact .tail _ (memX e)
theorem and2 {a b : Bool} (h : (a && b) = true) : a = true ∧ b = true := Bool.and_eq_true_iff.mp h
theorem nm_of {sc : Scope} {x y : Str} (h : nmOk sc x y = true) : x = y ∧ glb sc y = true ∧ nodbg y = true := by
  unfold nmOk at h
  simp only [(Bool.and_eq_true)] at h
  exact ⟨of_decide_eq_true h.1.1, h.1.2, h.2⟩
/-- a comprehension's parts, in its block -/
structure CompOk (nm : Nm) (T : NT) (cs : Tab) (Wx : WX) (X : Cx) (t : Tg) (it : DM.It) (own : List Nat) (c : Eo) (e : E) (elt tg iter : Expr) (ifs : List Expr) (scope : Scope) : Prop where
  cool : nm.hot = false
  ok : lcOk X.N X.env.scope scope own t tg iter = true
  pi : pl iter = true
  hi : PI X tg iter (tM T Wx (RIt T) (evi cs it))
  ht : ∀ (s : Shared) (H : Hp) (C : Addr) (cl : List (Str × Addr)) (fp : List Addr), PTs (X.blk s H scope (compEnvC scope cl C X.env) fp) ifs (ttOf T cs c)
  he : ∀ (s : Shared) (H : Hp) (C : Addr) (cl : List (Str × Addr)) (fp : List Addr), PE (X.blk s H scope (compEnvC scope cl C X.env) fp) elt (tE T (fun _ _ _ _ => False) cs e)
section
variable {T : NT} {nm : Nm} {cs : Tab} {lvl : Nat}
theorem comp_parts {Wx : WX} {X : Cx} (g : GX T nm cs Wx (lvl + 2) X) {t : Tg} {it : DM.It} {own : List Nat} {c : Eo} {e : E} {x : Expr}
    (h : chkE nm X.N (.comp t it own c e) X.env.scope x = true)
    (ihI : ∀ {tg x : Expr}, pl x = true → chkI nm X.N it X.env.scope tg x = true → PI X tg x (tM T Wx (RIt T) (evi cs it)))
    (ihE : ∀ {Wx : WX} {X : Cx}, GX T nm cs Wx (lvl + 2) X → ∀ {x : Expr}, pl x = true → chkE nm X.N e X.env.scope x = true → Snd T Wx cs X e x)
    (ihO : ∀ {Wx : WX} {X : Cx}, GX T nm cs Wx (lvl + 2) X → ∀ {x : Option Expr}, chkOp nm X.N c X.env.scope x = true → POk T Wx cs X c x ∧ ∀ y, x = some y → ∃ e', c = .so e' ∧ Snd T Wx cs X e' y) :
    ∃ elt tg iter ifs scope pos, x = .ListComp elt [⟨tg, iter, ifs, 0⟩] scope pos ∧ CompOk nm T cs Wx X t it own c e elt tg iter ifs scope := by
  unfold chkE at h
  split at h
  · rename_i elt tg iter ifs scope pos
    obtain ⟨h, h6⟩ := and2 h
    obtain ⟨h, h5⟩ := and2 h
    obtain ⟨h, h4⟩ := and2 h
    obtain ⟨h, h3⟩ := and2 h
    obtain ⟨h, h2⟩ := and2 h
    obtain ⟨h0, h1⟩ := and2 h
    refine ⟨elt, tg, iter, ifs, scope, pos, rfl, by simpa using h0, h1, h2, ihI h2 h3, fun s H C cl fp => ?_, fun s H C cl fp => (ihE (g.blk s H scope C cl fp) h4 h5).pe⟩
    split at h6
    · obtain ⟨q, _⟩ := ihO (g.blk s H scope C cl fp) (x := none) h6
      rcases q with ⟨rfl, _⟩ | ⟨_, _, _, e, _⟩
      · exact pts_nil
      · cases e
    · rename_i i
      obtain ⟨_, q0⟩ := ihO (g.blk s H scope C cl fp) (x := some i) h6
      obtain ⟨e', e1, q1⟩ := q0 i rfl
      subst e1
      exact pts_one q1.pt
    · cases h6
  · cases h
mutual
theorem okE : ∀ (e : E) {Wx : WX} {X : Cx}, GX T nm cs Wx (lvl + 2) X → ∀ {x : Expr}, pl x = true → chkE nm X.N e X.env.scope x = true → Snd T Wx cs X e x
  | .var i, Wx, X, g, x, p, h => by
    unfold chkE at h
    split at h
    · obtain ⟨h, h3⟩ := and2 h
      obtain ⟨h1, h2⟩ := and2 h
      exact snd_plain g.K p rfl (snd_var (of_decide_eq_true h1) h2 h3)
    · cases h
  | .lit w, Wx, X, g, x, p, h => by
    unfold chkE at h
    split at h
    · exact snd_plain g.K p rfl (snd_lit h)
    · cases h
  | .glo _ w, Wx, X, g, x, p, h => by
    unfold chkE at h
    split at h
    · obtain ⟨h, h3⟩ := and2 h
      obtain ⟨h1, h2⟩ := and2 h
      exact snd_plain g.K p rfl (snd_glo g (of_decide_eq_true h1) h2 h3)
    · cases h
  | .op o a b, Wx, X, g, x, p, h => by
    unfold chkE at h
    split at h
    · obtain ⟨h, h5⟩ := and2 h
      obtain ⟨h, h4⟩ := and2 h
      obtain ⟨h, h3⟩ := and2 h
      obtain ⟨h1, h2⟩ := and2 h
      exact snd_plain g.K p rfl (snd_bin g (of_decide_eq_true h1) (okE a g h2 h4).pe (okE b g h3 h5).pe)
    · obtain ⟨h, h5⟩ := and2 h
      obtain ⟨h, h4⟩ := and2 h
      obtain ⟨h, h3⟩ := and2 h
      obtain ⟨h1, h2⟩ := and2 h
      exact snd_cmpT g (of_decide_eq_true h1) h3 (okE a g h2 h4).pe (okE b g h3 h5).pe
    · cases h
  | .neg a, Wx, X, g, x, p, h => by
    unfold chkE at h
    split at h
    · obtain ⟨h1, h2⟩ := and2 h
      exact snd_plain g.K p rfl (snd_neg (okE a g h1 h2).pe)
    · cases h
  | .not a, Wx, X, g, x, p, h => by
    unfold chkE at h
    split at h
    · obtain ⟨h1, h2⟩ := and2 h
      exact snd_not (okE a g h1 h2)
    · cases h
  | .and a b, Wx, X, g, x, p, h => by
    unfold chkE at h
    split at h
    · obtain ⟨h, h3⟩ := and2 h
      obtain ⟨h1, h2⟩ := and2 h
      split at h3
      · obtain ⟨h3, h4⟩ := and2 h3
        exact snd_and (okE a g h1 h2) (snd_one (okE b g h3 h4))
      · exact snd_and (okE a g h1 h2) (okE b g rfl h3)
    · cases h
  | .or a b, Wx, X, g, x, p, h => by
    unfold chkE at h
    split at h
    · obtain ⟨h, h3⟩ := and2 h
      obtain ⟨h1, h2⟩ := and2 h
      split at h3
      · obtain ⟨h3, h4⟩ := and2 h3
        exact snd_or (okE a g h1 h2) (snd_one (okE b g h3 h4))
      · exact snd_or (okE a g h1 h2) (okE b g rfl h3)
    · cases h
  | .ch a c, Wx, X, g, x, p, h => by
    unfold chkE at h
    split at h
    · obtain ⟨h, h4⟩ := and2 h
      obtain ⟨h, h3⟩ := and2 h
      obtain ⟨h1, h2⟩ := and2 h
      exact snd_ch (okE a g h1 h2).pe (okC c g h3) (by simpa using h4)
    · cases h
  | .call k es, Wx, X, g, x, p, h => by
    unfold chkE at h
    split at h
    · obtain ⟨h, h4⟩ := and2 h
      obtain ⟨h, h3⟩ := and2 h
      obtain ⟨h1, h2⟩ := and2 h
      obtain ⟨q1, q2, _⟩ := okEs es g h4
      exact snd_plain g.K p rfl (snd_call g (of_decide_eq_true h1) h2 h3 q1 q2)
    · obtain ⟨h, h4⟩ := and2 h
      obtain ⟨h, h3⟩ := and2 h
      obtain ⟨h1, h2⟩ := and2 h
      exact snd_plain g.K p rfl (by cases es with
        | nil => exact snd_call0 g (of_decide_eq_true h1) h2 h3 snd_nil
        | cons e es => unfold chkEs at h4; cases h4)
    · cases h
  | .fld cl o f, Wx, X, g, x, p, h => by
    unfold chkE at h
    split at h
    · obtain ⟨h, h4⟩ := and2 h
      obtain ⟨h, h3⟩ := and2 h
      obtain ⟨h1, h2⟩ := and2 h
      exact snd_plain g.K p rfl (snd_fld g (of_decide_eq_true h1) h2 h3 (okE o g h3 h4).pe)
    · cases h
  | .meth c m o es, Wx, X, g, x, p, h => by
    unfold chkE at h
    split at h
    · obtain ⟨h, h6⟩ := and2 h
      obtain ⟨h, h5⟩ := and2 h
      obtain ⟨h, h4⟩ := and2 h
      obtain ⟨h, h3⟩ := and2 h
      obtain ⟨h1, h2⟩ := and2 h
      obtain ⟨q1, q2, _⟩ := okEs es g h6
      exact snd_plain g.K p rfl (snd_meth g (of_decide_eq_true h1) h2 q1 (of_decide_eq_true h3) h4 (okE o g h2 h5).pe q2)
    · obtain ⟨h, h5⟩ := and2 h
      obtain ⟨h, h4⟩ := and2 h
      obtain ⟨h, h3⟩ := and2 h
      obtain ⟨h1, h2⟩ := and2 h
      cases es with
      | nil => exact snd_plain g.K p rfl (snd_meth0 g (of_decide_eq_true h1) h2 h3 (okE o g h2 h4).pe)
      | cons e es => unfold chkEs at h5; cases h5
    · cases h
  | .make c es, Wx, X, g, x, p, h => by
    unfold chkE at h
    split at h
    · obtain ⟨h, h5⟩ := and2 h
      obtain ⟨h, h4⟩ := and2 h
      obtain ⟨h, h3⟩ := and2 h
      obtain ⟨h1, h2⟩ := and2 h
      obtain ⟨q1, q2, _⟩ := okEs es g h5
      exact snd_plain g.K p rfl (snd_make g (of_decide_eq_true h1) (of_decide_eq_true h2) h3 h4 q1 q2)
    · obtain ⟨h, h5⟩ := and2 h
      obtain ⟨h, h4⟩ := and2 h
      obtain ⟨h, h3⟩ := and2 h
      obtain ⟨h1, h2⟩ := and2 h
      cases es with
      | nil => exact snd_plain g.K p rfl (snd_make0 g (of_decide_eq_true h1) (of_decide_eq_true h2) h3 h4)
      | cons e es => unfold chkEs at h5; cases h5
    · cases h
  | .bi f es, Wx, X, g, x, p, h => by
    unfold chkE at h
    split at h
    · split at h
      · rename_i z _ hf
        obtain ⟨h, h2⟩ := and2 h
        obtain ⟨h0, h1⟩ := and2 h
        obtain ⟨rfl, h3, h4⟩ := nm_of h1
        obtain ⟨q1, q2, _⟩ := okEs es g h2
        exact snd_plain g.K p rfl (snd_bi g hf (fun z => by
          rw [z, Bool.true_and] at h0
          simpa using h0) h3 h4 q1 q2)
      · split at h
        · rename_i z _ hf
          obtain ⟨h1, h2⟩ := and2 h
          obtain ⟨rfl, h3, h4⟩ := nm_of h1
          obtain ⟨q1, q2, _⟩ := okEs es g h2
          exact snd_plain g.K p rfl (snd_ty g hf h3 h4 q1 q2)
        · split at h
          · rename_i z _ u _ hf
            obtain ⟨h, h3⟩ := and2 h
            obtain ⟨h1, h2⟩ := and2 h
            obtain ⟨rfl, h4, h5⟩ := nm_of h1
            obtain ⟨rfl, h6, h7⟩ := nm_of h2
            obtain ⟨q1, q2, q3⟩ := okEs es g h3
            obtain ⟨e0, rfl, q4⟩ := q3 _ rfl
            rw [List.all_cons] at q1
            exact snd_plain g.K p rfl (snd_isi g hf h4 h6 h7 (and2 q1).1 q4)
          · cases h
    · cases h
  | .bm f o es, Wx, X, g, x, p, h => by
    unfold chkE at h
    split at h
    · obtain ⟨h, h5⟩ := and2 h
      obtain ⟨h, h4⟩ := and2 h
      obtain ⟨h, h3⟩ := and2 h
      obtain ⟨h1, h2⟩ := and2 h
      have e0 : es = .nil := by
        cases es with
        | nil => rfl
        | cons _ _ =>
          unfold chkEs at h5
          cases h5
      subst e0
      split at h1
      · cases of_decide_eq_true h1
        exact snd_plain g.K p rfl (snd_pop g.K h3 h2 (okE o g h3 h4).pe)
      · cases of_decide_eq_true h1
        exact snd_plain g.K p rfl (snd_clear g.K h3 h2 (okE o g h3 h4).pe)
      · cases h1
    · obtain ⟨h, h5⟩ := and2 h
      obtain ⟨h, h4⟩ := and2 h
      obtain ⟨h, h3⟩ := and2 h
      obtain ⟨h1, h2⟩ := and2 h
      obtain ⟨q1, q2, q3⟩ := okEs es g h5
      obtain ⟨e0, rfl, q4⟩ := q3 _ rfl
      rw [List.all_cons] at q1
      split at h1
      · cases of_decide_eq_true h1
        exact snd_plain g.K p rfl (snd_append g.K h3 (and2 q1).1 h2 (okE o g h3 h4).pe q4)
      · cases of_decide_eq_true h1
        exact snd_plain g.K p rfl (snd_extend g.K h3 (and2 q1).1 h2 (okE o g h3 h4).pe q4)
      · cases h1
    · obtain ⟨h, h5⟩ := and2 h
      obtain ⟨h, h4⟩ := and2 h
      obtain ⟨h, h3⟩ := and2 h
      obtain ⟨h1, h2⟩ := and2 h
      obtain ⟨q1, q2, q3⟩ := okEs es g h5
      rw [List.all_cons] at q1
      have q4 := (and2 q1).2
      rw [List.all_cons] at q4
      split at h1
      · cases of_decide_eq_true h1
        exact snd_plain g.K p rfl (snd_insert g.K h3 (and2 q1).1 (and2 q4).1 h2 (okE o g h3 h4).pe q2)
      · cases h1
    · cases h
  | .idx o i, Wx, X, g, x, p, h => by
    unfold chkE at h
    split at h
    · obtain ⟨h, h4⟩ := and2 h
      obtain ⟨h, h3⟩ := and2 h
      obtain ⟨h1, h2⟩ := and2 h
      exact snd_plain g.K p rfl (snd_idx g h2 (okE o g h1 h3).pe (okE i g h2 h4).pe)
    · cases h
  | .slc o lo hi, Wx, X, g, x, p, h => by
    unfold chkE at h
    split at h
    · obtain ⟨h, h4⟩ := and2 h
      obtain ⟨h, h3⟩ := and2 h
      obtain ⟨h1, h2⟩ := and2 h
      exact snd_plain g.K p rfl (snd_slc g.K (okE o g h1 h2).pe (okO lo g h3).1 (okO hi g h4).1)
    · cases h
  | .lst es, Wx, X, g, x, p, h => by
    unfold chkE at h
    split at h
    · exact snd_plain g.K p rfl (snd_lst (okEs es g h).2.1)
    · cases h
  | .tup es, Wx, X, g, x, p, h => by
    unfold chkE at h
    split at h
    · exact snd_plain g.K p rfl (snd_tup (okEs es g h).2.1)
    · cases h
  | .dic0, Wx, X, g, x, p, h => by
    unfold chkE at h
    split at h
    · exact snd_plain g.K p rfl snd_dic0
    · cases h
  | .comp t it own c e, Wx, X, g, x, p, h => by
    obtain ⟨elt, tg, iter, ifs, scope, pos, rfl, q⟩ := comp_parts g h (fun p h => okI it g p h) (fun g _ p h => okE e g p h) (fun g _ h => okO c g h)
    exact snd_plain g.K p rfl (snd_comp g q.cool q.ok q.pi q.hi q.ht q.he)
  | .xfl o f, Wx, X, g, x, p, h => by
    unfold chkE at h
    split at h
    · obtain ⟨h, h4⟩ := and2 h
      obtain ⟨h, h3⟩ := and2 h
      obtain ⟨h1, h2⟩ := and2 h
      exact snd_plain g.K p rfl (snd_xfl g (of_decide_eq_true h1) (List.contains_iff_mem.mp h2) h3 (okE o g h3 h4).pe)
    · cases h
  | .xis ms o, Wx, X, g, x, p, h => by
    unfold chkE at h
    split at h
    · obtain ⟨h, h6⟩ := and2 h
      obtain ⟨h, h5⟩ := and2 h
      obtain ⟨h, h4⟩ := and2 h
      obtain ⟨h, h3⟩ := and2 h
      obtain ⟨h1, h2⟩ := and2 h
      obtain ⟨rfl, h7, _⟩ := nm_of h1
      refine snd_plain g.K p rfl (snd_xis g h7 h2 h3 ?_ h5 (okE o g h5 h6).pe)
      rcases Bool.or_eq_true_iff.mp h4 with q | q
      · obtain ⟨⟨c, d0⟩, _, q⟩ := List.any_eq_true.mp q
        obtain ⟨_, q⟩ := and2 q
        dsimp only at q
        split at q
        · rename_i d e
          obtain ⟨q1, q2⟩ := and2 q
          exact .inl ⟨c, d, e, of_decide_eq_true q1, of_decide_eq_true q2⟩
        · cases q
      · obtain ⟨q1, q2⟩ := and2 q
        exact .inr ⟨of_decide_eq_true q1, fun c d e => List.all_eq_true.mp q2 (c, d) (memX e)⟩
    · cases h
  | .rev o, Wx, X, g, x, p, h => by
    unfold chkE at h
    split at h
    · obtain ⟨h1, h2⟩ := and2 h
      exact snd_plain g.K p rfl (snd_rev g.K (okE o g h1 h2).pe)
    · cases h
  | .lof it, Wx, X, g, x, p, h => by
    unfold chkE at h
    split at h
    · obtain ⟨h, h5⟩ := and2 h
      obtain ⟨h, h4⟩ := and2 h
      obtain ⟨h, h3⟩ := and2 h
      obtain ⟨h1, h2⟩ := and2 h
      have h1 : nm.hot = false := by simpa using h1
      obtain ⟨rfl, q1, _⟩ := nm_of h2
      exact snd_plain g.K p rfl (okL it g h1 q1 h4 h5)
    · cases h
theorem okEs : ∀ (es : Es) {Wx : WX} {X : Cx}, GX T nm cs Wx (lvl + 2) X → ∀ {xs : List Expr}, chkEs nm X.N es X.env.scope xs = true → xs.all pl = true ∧ PA X xs (tEs T Wx cs es) ∧ ∀ x, xs = [x] → ∃ e0, es = .cons e0 .nil ∧ PE X x (tE T Wx cs e0)
  | .nil, Wx, X, g, xs, h => by
    unfold chkEs at h
    split at h
    · exact ⟨rfl, snd_nil, fun x e => by cases e⟩
    · cases h
  | .cons e es, Wx, X, g, xs, h => by
    unfold chkEs at h
    split at h
    · rename_i y ys
      obtain ⟨h, h3⟩ := and2 h
      obtain ⟨h1, h2⟩ := and2 h
      obtain ⟨q1, q2, _⟩ := okEs es g h3
      refine ⟨by rw [List.all_cons, h1, q1]; rfl, snd_cons h1 (okE e g h1 h2).pe q2, fun x ex => ?_⟩
      cases ex
      refine ⟨e, ?_, (okE e g h1 h2).pe⟩
      cases es with
      | nil => rfl
      | cons _ _ =>
        unfold chkEs at h3
        cases h3
    · cases h
theorem okO : ∀ (c : Eo) {Wx : WX} {X : Cx}, GX T nm cs Wx (lvl + 2) X → ∀ {x : Option Expr}, chkOp nm X.N c X.env.scope x = true → POk T Wx cs X c x ∧ ∀ y, x = some y → ∃ e', c = .so e' ∧ Snd T Wx cs X e' y
  | .no, Wx, X, g, x, h => by
    unfold chkOp at h
    split at h
    · exact ⟨.inl ⟨rfl, rfl⟩, fun y e => by cases e⟩
    · cases h
  | .so e, Wx, X, g, x, h => by
    unfold chkOp at h
    split at h
    · rename_i y
      obtain ⟨h1, h2⟩ := and2 h
      exact ⟨.inr ⟨e, y, rfl, rfl, (okE e g h1 h2).pe⟩, fun z ez => by
        cases ez
        exact ⟨e, rfl, okE e g h1 h2⟩⟩
    · cases h
theorem okC : ∀ (c : Ch) {Wx : WX} {X : Cx}, GX T nm cs Wx (lvl + 2) X → ∀ {ops : List CmpOp} {rs : List Expr}, chkC nm X.N c X.env.scope ops rs = true → PCh T Wx cs X c ops rs
  | .one o e, Wx, X, g, ops, rs, h => by
    unfold chkC at h
    split at h
    · obtain ⟨h, h3⟩ := and2 h
      obtain ⟨h1, h2⟩ := and2 h
      exact pch_one g (of_decide_eq_true h1) (okE e g h2 h3).pe
    · cases h
  | .more o e c, Wx, X, g, ops, rs, h => by
    unfold chkC at h
    split at h
    · obtain ⟨h, h4⟩ := and2 h
      obtain ⟨h, h3⟩ := and2 h
      obtain ⟨h1, h2⟩ := and2 h
      exact pch_more g (of_decide_eq_true h1) (okE e g h2 h3).pe (okC c g h4)
    · cases h
theorem okL : ∀ (it : DM.It) {Wx : WX} {X : Cx}, GX T nm cs Wx (lvl + 2) X → nm.hot = false → glb X.env.scope "list" = true → (match it with
      | .rng1 _ => true
      | .rng2 _ _ => true
      | _ => false) = true → ∀ {r : Expr} {p pos : Pos}, chkI nm X.N it X.env.scope r r = true → PE X (.Call (.Name "list" p) [r] [] pos) (tE T Wx cs (.lof it))
  | .of e, Wx, X, g, _, _, c, r, p, pos, h => by cases c
  | .rng3 _ _ _, Wx, X, g, _, _, c, r, p, pos, h => by cases c
  | .enum _, Wx, X, g, _, _, c, r, p, pos, h => by cases c
  | .zip _ _, Wx, X, g, _, _, c, r, p, pos, h => by cases c
  | .rng1 a, Wx, X, g, cool, hl, c, r, p, pos, h => by
    unfold chkI at h
    split at h
    · obtain ⟨h, h3⟩ := and2 h
      obtain ⟨h1, h2⟩ := and2 h
      obtain ⟨rfl, h4, h5⟩ := nm_of h1
      exact snd_lof1 g cool hl h4 h2 (okE a g h2 h3).pe
    · cases h
  | .rng2 a b, Wx, X, g, cool, hl, c, r, p, pos, h => by
    unfold chkI at h
    split at h
    · obtain ⟨h, h5⟩ := and2 h
      obtain ⟨h, h4⟩ := and2 h
      obtain ⟨h, h3⟩ := and2 h
      obtain ⟨h1, h2⟩ := and2 h
      obtain ⟨rfl, h6, h7⟩ := nm_of h1
      exact snd_lof2 g cool hl h6 h2 h3 (okE a g h2 h4).pe (okE b g h3 h5).pe
    · cases h
theorem okI : ∀ (it : DM.It) {Wx : WX} {X : Cx}, GX T nm cs Wx (lvl + 2) X → ∀ {tg x : Expr}, pl x = true → chkI nm X.N it X.env.scope tg x = true → PI X tg x (tM T Wx (RIt T) (evi cs it))
  | .of e, Wx, X, g, tg, x, p, h => by
    unfold chkI at h
    exact snd_of g.K (okE e g p h).pe
  | .rng1 a, Wx, X, g, tg, x, p, h => by
    unfold chkI at h
    split at h
    · obtain ⟨h, h3⟩ := and2 h
      obtain ⟨h1, h2⟩ := and2 h
      obtain ⟨rfl, h4, h5⟩ := nm_of h1
      exact snd_rng1 g h4 h2 (okE a g h2 h3).pe
    · cases h
  | .rng2 a b, Wx, X, g, tg, x, p, h => by
    unfold chkI at h
    split at h
    · obtain ⟨h, h5⟩ := and2 h
      obtain ⟨h, h4⟩ := and2 h
      obtain ⟨h, h3⟩ := and2 h
      obtain ⟨h1, h2⟩ := and2 h
      obtain ⟨rfl, h6, h7⟩ := nm_of h1
      exact snd_rng2 g h6 h2 h3 (okE a g h2 h4).pe (okE b g h3 h5).pe
    · cases h
  | .rng3 a b c, Wx, X, g, tg, x, p, h => by
    unfold chkI at h
    split at h
    · obtain ⟨h, h7⟩ := and2 h
      obtain ⟨h, h6⟩ := and2 h
      obtain ⟨h, h5⟩ := and2 h
      obtain ⟨h, h4⟩ := and2 h
      obtain ⟨h, h3⟩ := and2 h
      obtain ⟨h1, h2⟩ := and2 h
      obtain ⟨rfl, h8, h9⟩ := nm_of h1
      exact snd_rng3 g h8 h2 h3 h4 (okE a g h2 h5).pe (okE b g h3 h6).pe (okE c g h4 h7).pe
    · cases h
  | .enum a, Wx, X, g, tg, x, p, h => by
    unfold chkI at h
    split at h
    · obtain ⟨h, h3⟩ := and2 h
      obtain ⟨h1, h2⟩ := and2 h
      obtain ⟨rfl, h4, h5⟩ := nm_of h1
      exact snd_enum g h4 h2 (okE a g h2 h3).pe
    · cases h
  | .zip a b, Wx, X, g, tg, x, p, h => by
    unfold chkI at h
    split at h
    · obtain ⟨h, h5⟩ := and2 h
      obtain ⟨h, h4⟩ := and2 h
      obtain ⟨h, h3⟩ := and2 h
      obtain ⟨h1, h2⟩ := and2 h
      obtain ⟨rfl, h6, h7⟩ := nm_of h1
      exact snd_zip g h6 h2 h3 (okE a g h2 h4).pe (okE b g h3 h5).pe
    · cases h
end
end
end DM

/-! The deep machine: statements against the text; defs; tables of defs. -/
namespace DM
open PySem L2 PySem.Spec PyProof.Rows
/-- name = a comprehension, the stores exchanged -/
def setC (sc : Scope) (y : Str) (py : Pos) : Expr → Bool
  | .ListComp _ _ scope p => decide (sc.names.lookup y = some .local) && (py.line == p.line) && !(scope.names.any fun (n, k) => n == y && (k == .local || k == .cell))
  | _ => false
/-- a value whose store is plain -/
def setP (sc : Scope) (y : Str) (v : Expr) : Bool := noLc v || (match v with
  | .ListComp _ _ _ _ => decide (sc.names.lookup y = some .cell)
  | _ => false)
theorem setP_sw {env : PySem.Env} {y : Str} {py : Pos} {v : Expr} {l : Nat} (h : setP env.scope y v = true) : swapsWith v (some (.Name y py)) l env = pure false := by
  unfold setP at h
  rcases Bool.or_eq_true_iff.mp (h) with h | h
  · exact noLc_sw h _ _ _
  · split at h
    · exact sw_cell (of_decide_eq_true h)
    · cases h
mutual
def chkS (nm : Nm) (N : List Str) (sc : Scope) : S → Stmt → Bool
  | .set t e, x => (match x with
    | .Assign [.Name y py] v _ => (match t with
      | .nm i => decide (N[i]? = some y) && loc sc y && pl v && chkE nm N e sc v && (setP sc y v || (setC sc y py v && (match e with
        | .comp .. => true
        | _ => false)))
      | _ => false)
    | .Assign [.Tuple ts k p] v _ => !nm.hot && (match noSw ts v with
      | true => (match t with
        | .tp us => chkTgs N (loc sc) us ts
        | _ => false) && noSw ts v && pl v && chkE nm N e sc v
      | false => (match t, e, ts, v with
        | .tp [.nm i, .nm j], .tup es, [.Name y py, .Name z pz], .Tuple [a, b] _ _ => decide (N[i]? = some y) && decide (N[j]? = some z) && parOk sc y z py pz [a, b] && chkEs nm N es sc [a, b]
        | .tp [.nm i, .nm j, .nm l], .tup es, [.Name y py, .Name z pz, .Name u pu], .Tuple [a, b, c] _ _ => decide (N[i]? = some y) && decide (N[j]? = some z) && decide (N[l]? = some u) && parOk3 sc y z u py pz pu [a, b, c] && chkEs nm N es sc [a, b, c]
        | _, _, _, _ => false))
    | _ => false)
  | .setI o i e, x => (match x with
    | .Assign [.Subscript l r _] v _ => pl l && pl r && pl v && chkE nm N o sc l && chkE nm N i sc r && chkE nm N e sc v
    | _ => false)
  | .setF cl o f e, x => (match x with
    | .Assign [.Attribute l y _] v _ => decide (nm.fl[f]? = some y) && (cl.all fun c => nm.na.contains (c, f)) && pl l && pl v && chkE nm N o sc l && chkE nm N e sc v
    | _ => false)
  | .incF cl o f d, x => (match x with
    | .AugAssign (.Attribute l y _) .Add (.Constant (.int j) _ _) _ => decide (nm.fl[f]? = some y) && (cl.all fun c => nm.na.contains (c, f)) && pl l && decide (j = d) && chkE nm N o sc l
    | _ => false)
  | .aug i o e, x => (match x with
    | .AugAssign (.Name y _) op v _ => decide (augOf o = some op) && decide (N[i]? = some y) && loc sc y && pl v && chkE nm N e sc v
    | _ => false)
  | .ret e, x => (match x with
    | .Return (some v) _ => pl v && chkE nm N e sc v
    | _ => false)
  | .retN, x => (match x with
    | .Return none _ => true
    | _ => false)
  | .expr e, x => (match x with
    | .Expr v _ => noLc v && pl v && chkE nm N e sc v
    | _ => false)
  | .pass, x => (match x with
    | .Pass _ => true
    | .Expr (.Constant (.str _) _ _) _ => true
    | _ => false)
  | .bad, x => true
  | .ite c a b, x => (match x with
    | .If v p q _ => pl v && chkE nm N c sc v && chkSs nm N sc a p && chkSs nm N sc b q
    | _ => false)
  | .for t it b, x => (match x with
    | .For tg iter body [] _ => !nm.hot && chkTg N (loc sc) t tg && pl iter && chkI nm N it sc tg iter && chkSs nm N sc b body
    | _ => false)
  | .while c b, x => (match x with
    | .While v body [] _ => pl v && chkE nm N c sc v && chkSs nm N sc b body
    | _ => false)
  | .rai c fl es, x => (match x with
    | .Raise (some (.Call (.Name y _) (e :: xs) [] _)) none _ => (match nm.xc.lookup c with
      | some d => !nm.hot && decide (d.name = y) && glb sc y && nodbg y && (match d.ini with
        | some f => decide (f = fl) && chkEs nm N es sc (e :: xs)
        | none => decide (fl = []) && (match e, xs, es with
          | .Constant (.str _) _ _, [], .cons (.lit (.str _)) .nil => true
          | _, _, _ => false))
      | none => false)
    | _ => false)
  | .try b hs, x => (match x with
    | .Try body (h₀ :: hds) [] [] _ => !nm.hot && chkSs nm N sc b body && chkHs nm N sc hs (h₀ :: hds)
    | _ => false)
def chkSs (nm : Nm) (N : List Str) (sc : Scope) : Ss → List Stmt → Bool
  | .nil, x => (match x with
    | [] => true
    | _ => false)
  | .cons s ss, x => (match x with
    | y :: ys => chkS nm N sc s y && chkSs nm N sc ss ys
    | [] => false)
def chkHs (nm : Nm) (N : List Str) (sc : Scope) : Hs → List ExceptHandler → Bool
  | .nil, x => (match x with
    | [] => true
    | _ => false)
  | .cons c ms i b r, x => (match x with
    | .ExceptHandler (some (.Name y _)) n (b₀ :: suite) _ :: hds => (match nm.xc.lookup c with
      | some d => decide (d.name = y) && decide (d.sub = ms)
      | none => false) && glb sc y && nodbg y && (match n, i with
      | none, none => true
      | some n, some i => decide (N[i]? = some n) && lcl sc n
      | _, _ => false) && chkSs nm.inSu N sc b (b₀ :: suite) && chkHs nm N sc r hds
    | _ => false)
end
section
variable {T : NT} {nm : Nm} {cs : Tab} {lvl : Nat} {Wx : WX} {X : Cx}
mutual
theorem okS' : ∀ (s : S) {nm : Nm} {Wx : WX} {X : Cx}, GX T nm cs Wx (lvl + 2) X → (∀ x, X.fn x = true) → X.env.scope.kind = .function → X.stack = X.env :: X.outer → X.env.frame = some X.env.locals → ∀ {x : Stmt}, chkS nm X.N X.env.scope s x = true → PS X x (tX T Wx cs s)
  | .set t e, nm, Wx, X, g, hfn, hk, hs, hf, x, h => by
    unfold chkS at h
    split at h
    · split at h
      · rename_i y py v pos _ i
        obtain ⟨h, h5⟩ := and2 h
        obtain ⟨h, h4⟩ := and2 h
        obtain ⟨h, h3⟩ := and2 h
        obtain ⟨h1, h2⟩ := and2 h
        cases hp : setP X.env.scope y v with
        | true => exact snd_setN g.nd (of_decide_eq_true h1) (loc_of h2) (hfn y) (setP_sw hp) (okE e g h3 h4).pe
        | false =>
          rw [hp, Bool.false_or] at h5
          obtain ⟨h5, h6⟩ := and2 h5
          split at h6
          · rename_i t it own c e _
            obtain ⟨elt, tg, iter, ifs, scope, p, rfl, q⟩ := comp_parts g h4 (fun p h => okI it g p h) (fun g _ p h => okE e g p h) (fun g _ h => okO c g h)
            unfold setC at h5
            dsimp only at h5
            obtain ⟨h5, _⟩ := and2 h5
            obtain ⟨h55, h9⟩ := and2 h5
            obtain ⟨h7, h8⟩ := and2 h55
            exact PS.of (snd_setc g q.cool q.ok q.pi q.hi q.ht q.he (of_decide_eq_true h1) (of_decide_eq_true h7) (sw_true hk (of_decide_eq_true h7) h8 (by
              cases hh : (scope.names.any fun (n, k) => n == y && (k == .local || k == .cell)) with
              | false => rfl
              | true =>
                have h9 : (!(scope.names.any fun (n, k) => n == y && (k == .local || k == .cell))) = true := h9
                rw [hh] at h9
                cases h9))) fun _ _ _ z => asgN_red z
          · cases h6
      · cases h
    · obtain ⟨h0, h⟩ := and2 h
      have h0 : nm.hot = false := by simpa using h0
      split at h
      · obtain ⟨h, h4⟩ := and2 h
        obtain ⟨h, h3⟩ := and2 h
        obtain ⟨h1, h2⟩ := and2 h
        split at h1
        case h_2 => cases h1
        exact snd_setT4 g.K (g.calm h0) g.nd (ok := loc X.env.scope) (fun x hx => ⟨loc_of hx, .inl (hfn x)⟩) h1 h2 (okE e g h3 h4).pe
      · split at h
        · obtain ⟨h, h4⟩ := and2 h
          obtain ⟨h, h3⟩ := and2 h
          obtain ⟨h1, h2⟩ := and2 h
          exact snd_par (g.calm h0) g.nd (by unfold PySem.Env.blockKind; rw [hk]; rfl) (of_decide_eq_true h1) (of_decide_eq_true h2) h3 (okEs _ g h4).2.1
        · obtain ⟨h, h4⟩ := and2 h
          obtain ⟨h, h3⟩ := and2 h
          obtain ⟨h, h5⟩ := and2 h
          obtain ⟨h1, h2⟩ := and2 h
          exact snd_par3 (g.calm h0) g.nd (by unfold PySem.Env.blockKind; rw [hk]; rfl) (of_decide_eq_true h1) (of_decide_eq_true h2) (of_decide_eq_true h5) h3 (okEs _ g h4).2.1
        · cases h
    · cases h
  | .setI o i e, nm, Wx, X, g, hfn, hk, hs, hf, x, h => by
    unfold chkS at h
    split at h
    · obtain ⟨h, h6⟩ := and2 h
      obtain ⟨h, h5⟩ := and2 h
      obtain ⟨h, h4⟩ := and2 h
      obtain ⟨h, h3⟩ := and2 h
      obtain ⟨h1, h2⟩ := and2 h
      exact snd_setI (by have := g.un; omega) h2 (okE o g h1 h4).pe (okE i g h2 h5).pe (okE e g h3 h6).pe
    · cases h
  | .setF cl o f e, nm, Wx, X, g, hfn, hk, hs, hf, x, h => by
    unfold chkS at h
    split at h
    · obtain ⟨h, h6⟩ := and2 h
      obtain ⟨h, h5⟩ := and2 h
      obtain ⟨h, h4⟩ := and2 h
      obtain ⟨h, h3⟩ := and2 h
      obtain ⟨h1, h2⟩ := and2 h
      exact snd_setF g (of_decide_eq_true h1) h2 (okE o g h3 h5).pe (okE e g h4 h6).pe
    · cases h
  | .incF cl o f d, nm, Wx, X, g, hfn, hk, hs, hf, x, h => by
    unfold chkS at h
    split at h
    · obtain ⟨h, h5⟩ := and2 h
      obtain ⟨h, h4⟩ := and2 h
      obtain ⟨h, h3⟩ := and2 h
      obtain ⟨h1, h2⟩ := and2 h
      obtain rfl := of_decide_eq_true h4
      exact snd_incF g (of_decide_eq_true h1) h2 (okE o g h3 h5).pe
    · cases h
  | .aug i o e, nm, Wx, X, g, hfn, hk, hs, hf, x, h => by
    unfold chkS at h
    split at h
    · rename_i y _ op v _
      obtain ⟨h, h5⟩ := and2 h
      obtain ⟨h, h4⟩ := and2 h
      obtain ⟨h, h3⟩ := and2 h
      obtain ⟨h1, h2⟩ := and2 h
      exact snd_aug g.nd (of_decide_eq_true h1) (of_decide_eq_true h2) (loc_of h3) (hfn y) (okE e g h4 h5).pe
    · cases h
  | .ret e, nm, Wx, X, g, hfn, hk, hs, hf, x, h => by
    unfold chkS at h
    split at h
    · obtain ⟨h1, h2⟩ := and2 h
      exact snd_ret (okE e g h1 h2).pe
    · cases h
  | .retN, nm, Wx, X, g, hfn, hk, hs, hf, x, h => by
    unfold chkS at h
    split at h
    · exact snd_retN
    · cases h
  | .expr e, nm, Wx, X, g, hfn, hk, hs, hf, x, h => by
    unfold chkS at h
    split at h
    · obtain ⟨h, h3⟩ := and2 h
      obtain ⟨h1, h2⟩ := and2 h
      exact snd_expr h1 (okE e g h2 h3).pe
    · cases h
  | .pass, nm, Wx, X, g, hfn, hk, hs, hf, x, h => by
    unfold chkS at h
    split at h
    · exact snd_pass
    · exact PS.of ps_doc fun D σ H ⟨ρ, h, env, S, r, P⟩ => P ρ H σ (Ext.refl _ _ _) S r
    · cases h
  | .bad, nm, Wx, X, g, hfn, hk, hs, hf, x, h => ⟨fun pins s σ H D I ⟨ρ, h, env, S, r, P⟩ => P.elim⟩
  | .ite c a b, nm, Wx, X, g, hfn, hk, hs, hf, x, h => by
    unfold chkS at h
    split at h
    · obtain ⟨h, h4⟩ := and2 h
      obtain ⟨h, h3⟩ := and2 h
      obtain ⟨h1, h2⟩ := and2 h
      exact snd_ite (okE c g h1 h2).pt (okSs a g hfn hk hs hf h3) (okSs b g hfn hk hs hf h4)
    · cases h
  | .for t it b, nm, Wx, X, g, hfn, hk, hs, hf, x, h => by
    unfold chkS at h
    split at h
    · obtain ⟨h, h4⟩ := and2 h
      obtain ⟨h, h3⟩ := and2 h
      obtain ⟨h, h2⟩ := and2 h
      obtain ⟨h0, h1⟩ := and2 h
      have h0 : nm.hot = false := by simpa using h0
      exact snd_for g h0 h2 (okI it g h2 h3) (snd_tg g.K (g.calm h0) g.nd (ok := loc X.env.scope) (fun x hx => ⟨loc_of hx, .inl (hfn x)⟩) t _ h1) (okSs b g hfn hk hs hf h4)
    · cases h
  | .while c b, nm, Wx, X, g, hfn, hk, hs, hf, x, h => by
    unfold chkS at h
    split at h
    · obtain ⟨h, h3⟩ := and2 h
      obtain ⟨h1, h2⟩ := and2 h
      exact snd_while g (okE c g h1 h2).pt (okSs b g hfn hk hs hf h3)
    · cases h
  | .rai c fl es, nm, Wx, X, g, hfn, hk, hs, hf, x, h => by
    unfold chkS at h
    split at h
    · rename_i y _ e xs _ _
      split at h
      · rename_i d hd
        obtain ⟨h, h5⟩ := and2 h
        obtain ⟨h, h4⟩ := and2 h
        obtain ⟨h, h3⟩ := and2 h
        obtain ⟨h1, h2⟩ := and2 h
        have h0 : nm.hot = false := by simpa using h1
        obtain rfl := of_decide_eq_true h2
        split at h5
        · rename_i f hi
          obtain ⟨q1, q2⟩ := and2 h5
          obtain rfl := of_decide_eq_true q1
          obtain ⟨p1, p2, _⟩ := okEs es g q2
          exact snd_rai1 g h0 hd hi h3 h4 p1 p2
        · rename_i hi
          obtain ⟨q1, q2⟩ := and2 h5
          obtain rfl := of_decide_eq_true q1
          split at q2
          · exact snd_rai0 g h0 hd hi h3 h4
          · cases q2
      · cases h
    · cases h
  | .try b r, nm, Wx, X, g, hfn, hk, hs, hf, x, h => by
    unfold chkS at h
    split at h
    · obtain ⟨h, h3⟩ := and2 h
      obtain ⟨h1, h2⟩ := and2 h
      obtain ⟨q1, q2⟩ := okHs r g hfn hk hs hf h3
      exact snd_try g hs hf (fun W pn xe tk po => okSs b (g.tr tk po) hfn hk hs hf h2) q1 q2
    · cases h
theorem okSs : ∀ (s : Ss) {nm : Nm} {Wx : WX} {X : Cx}, GX T nm cs Wx (lvl + 2) X → (∀ x, X.fn x = true) → X.env.scope.kind = .function → X.stack = X.env :: X.outer → X.env.frame = some X.env.locals → ∀ {x : List Stmt}, chkSs nm X.N X.env.scope s x = true → PSs X x (tXs T Wx cs s)
  | .nil, nm, Wx, X, g, hfn, hk, hs, hf, x, h => by
    unfold chkSs at h
    split at h
    · exact snd_snil
    · cases h
  | .cons s ss, nm, Wx, X, g, hfn, hk, hs, hf, x, h => by
    unfold chkSs at h
    split at h
    · obtain ⟨h1, h2⟩ := and2 h
      exact snd_scons (okS' s g hfn hk hs hf h1) (okSs ss g hfn hk hs hf h2)
    · cases h
theorem okHs : ∀ (s : Hs) {nm : Nm} {Wx : WX} {X : Cx}, GX T nm cs Wx (lvl + 2) X → (∀ x, X.fn x = true) → X.env.scope.kind = .function → X.stack = X.env :: X.outer → X.env.frame = some X.env.locals → ∀ {x : List ExceptHandler}, chkHs nm X.N X.env.scope s x = true → hsCl nm s ∧ HdX X x (hsTs T cs s)
  | .nil, nm, Wx, X, g, hfn, hk, hs, hf, x, h => by
    unfold chkHs at h
    split at h
    · exact ⟨True.intro, .nil⟩
    · cases h
  | .cons c ms i b r, nm, Wx, X, g, hfn, hk, hs, hf, x, h => by
    unfold chkHs at h
    split at h
    · rename_i y _ n b₀ suite _ hds
      obtain ⟨h, h6⟩ := and2 h
      obtain ⟨h, h5⟩ := and2 h
      obtain ⟨h, h4⟩ := and2 h
      obtain ⟨h, h3⟩ := and2 h
      obtain ⟨h1, h2⟩ := and2 h
      obtain ⟨q1, q2⟩ := okHs r g hfn hk hs hf h6
      split at h1
      · rename_i d hd
        obtain ⟨e1, e2⟩ := and2 h1
        have e1 := of_decide_eq_true e1
        refine ⟨⟨⟨d, hd, of_decide_eq_true e2⟩, q1⟩, .cons ⟨glb_of h2, (nodbg1 h3).1, .inl (by rw [← e1]; exact (g.xq c d hd).mgd)⟩ ?_ (fun a pn => okSs b (g.su a pn) hfn hk hs hf h5) q2⟩
        split at h4
        · exact True.intro
        · obtain ⟨z1, z2⟩ := and2 h4
          exact ⟨of_decide_eq_true z1, of_decide_eq_true z2⟩
        · cases h4
      · cases h1
    · cases h
end
end
/-! ### defs -/
/-- a def: its name, its qualified name, its form, its names, parameters, text -/
structure DE where
  c : Nat
  cn : Str
  k : Nat
  x : Str
  qual : Str
  df : Df
  N : List Str
  ps : List Str
  args : Arguments
  body : List Stmt
  scope : Scope
def scOk (N ps : List Str) (sc : Scope) : Bool := (match sc.kind with
    | .function => true
    | _ => false) && !sc.isCoroutine && !sc.isGenerator && decide N.Nodup && decide (N.take ps.length = ps) && (ps.all (loc sc)) && (sc.names.all fun y => !(y.2 == .free))
theorem scOk_of {N ps : List Str} {sc : Scope} (h : scOk N ps sc = true) : FnScope N ps sc := by
  unfold scOk at h
  obtain ⟨h, h7⟩ := and2 h
  obtain ⟨h, h6⟩ := and2 h
  obtain ⟨h, h5⟩ := and2 h
  obtain ⟨h, h4⟩ := and2 h
  obtain ⟨h, h3⟩ := and2 h
  obtain ⟨h1, h2⟩ := and2 h
  refine ⟨?_, by simpa using h2, by simpa using h3, of_decide_eq_true h4, of_decide_eq_true h5, fun x hx => loc_of (List.all_eq_true.mp h6 x hx), fun y hy e => ?_⟩
  · split at h1
    · assumption
    · cases h1
  · have q := List.all_eq_true.mp h7 y hy
    rw [e] at q
    cases q
/-- the skip of a docstring -/
def nodoc : List Stmt → List Stmt
  | .Expr (.Constant (.str _) _ _) _ :: r => r
  | b => b
def chkD (nm : Nm) (d : DE) : Bool := (decide (d.c = 0) || (decide (nm.cls.lookup (d.c - 1) = some d.cn) && decide (d.x ∉ nm.fl))) && (scOk d.N d.ps d.scope && decide (d.df.np = d.ps.length) && decide (d.df.n = d.N.length) && chkSs nm d.N d.scope d.df.body d.body)
/-- what a function keeps, in the module -/
structure FG (P : Program) (w : World) (K : PySem.W.Frag) (mg : Str → Option Value) (base : Heap) (T : NT) (lvl : Nat) (x : Str) (f : Fn) : Prop where
  ex : ∃ a fd ps, mg x = some (.ref a) ∧ PySem.W.keepIn K (.ref a) = true ∧ FnOk P w K mg base (L2.CX P w) lvl a fd ps (spOf T ps.length f) ∧ Binds K fd ps [] ∧ ∀ ws h, ws.length ≠ ps.length → f ws h = .bad
/-- a method in the module -/
structure MG (P : Program) (w : World) (K : PySem.W.Frag) (mg : Str → Option Value) (base : Heap) (T : NT) (lvl : Nat) (C : Addr) (y : Str) (f : Fn) : Prop where
  ex : ∃ a fd ps, Meth K C y a ∧ FnOk P w K mg base (L2.CX P w) lvl a fd ps (spOf T ps.length f) ∧ Binds K fd ps [] ∧ ∀ ws h, ws.length ≠ ps.length → f ws h = .bad
/-- what the law names: constants, classes, which class lacks which attribute, attributes -/
structure LF where
  gl : List (Str × W)
  cls : List (Nat × Str)
  na : List (Nat × Nat)
  fl : List Str
  xc : List (Nat × XD)
  xf : List Nat
/-- the module's names -/
structure MW (T : NT) (lf : LF) (K : PySem.W.Frag) (mg : Str → Option Value) : Prop where
  kk : K = T.K
  bl : ∀ x ∈ bnames, mg x = none
  gl : ∀ x w, lf.gl.lookup x = some w → ∃ u v, mg x = some u ∧ RelV v u ∧ ∀ ρ N H, RW T.K ρ N H w v
  fl : lf.fl = T.fld
  cl : ∀ c x, lf.cls.lookup c = some x → Cls K (T.cl c) ∧ mg x = some (.ref (T.cl c)) ∧ PySem.W.makesIn K (T.cl c) = true ∧ PySem.W.keepIn K (.ref (T.cl c)) = true
  na : ∀ c f y, (c, f) ∈ lf.na → T.fld[f]? = some y → Cls K (T.cl c) ∧ NoAttr K (T.cl c) y
  xcE : lf.xc = T.xc
  xq : ∀ c d, lf.xc.lookup c = some d → ∀ (P : Program) (w : World) (base : Heap), XQ T K mg P w base c d
  xna : ∀ c d f y, lf.xc.lookup c = some d → f ∈ lf.xf → T.fld[f]? = some y → PySem.W.findIn K (.ref (T.cl c)) y = some none
/-- a def's object, its parameters -/
structure DA (K : PySem.W.Frag) (mg : Str → Option Value) (T : NT) (d : DE) : Prop where
  ex : ∃ a fd dvs kws, (d.c = 0 → mg d.x = some (.ref a)) ∧ (d.c ≠ 0 → Meth K (T.cl (d.c - 1)) d.x a) ∧ FunD K d.x d.qual d.args d.body d.scope dvs kws a fd ∧ Binds K fd d.ps []
section
variable {P : Program} {w : World} {K : PySem.W.Frag} {mg : Str → Option Value} {base : Heap} {T : NT} {lvl : Nat}
theorem FG.mono {x : Str} {f : Fn} {l l' : Nat} (g : FG P w K mg base T l x f) (h : l ≤ l') : FG P w K mg base T l' x f := by
  obtain ⟨a, fd, ps, q1, q2, q3, q4, q5⟩ := g.ex
  exact ⟨a, fd, ps, q1, q2, q3.mono h, q4, q5⟩
theorem run_post {E : XK} {ρ : Nat → Addr} {h : Mem} {H : Hp} {r : RS} {Q : VK} (P : PostG T (RV T) E ρ h H (fnOf r) Q) : PostS T (fun cls d _ H => E cls d H) ρ h H r { nx := fun _ H' => Q .non H', rt := Q } := by
  cases r with
  | nx env' h' => exact fun ρ' H' σ' e s q => P ρ' H' .non e s .non
  | rt w h' => exact P
  | ex x env' h' => exact fun ρ' H' σ' cls d e s _ q => P ρ' H' cls d e s q
  | bad => exact P
theorem start_er {ρ : Nat → Addr} {N : Nat} {H : Hp} {ws : List W} {vs : List V} (r : RWs K ρ N H ws vs) {Ns : List Str} {n np : Nat} (hn : n = Ns.length) (hp : ws.length = np) (hl : ws.length ≤ n) : ER K ρ N H (ws.map some ++ List.replicate (n - np) none) (L2.start Ns vs) := by
  unfold L2.start
  have hv := r.length
  refine ⟨by rw [List.length_append, List.length_append, List.length_map, List.length_map, List.length_replicate, List.length_replicate, hv, hn, hp], fun i w q => ?_⟩
  by_cases l : i < ws.length
  · rw [List.getElem?_append_left (by rw [List.length_map]; exact l), List.getElem?_map, List.getElem?_eq_getElem l] at q
    cases q
    obtain ⟨v, e1, e2⟩ := r.at (List.getElem?_eq_getElem l)
    exact ⟨v, by rw [List.getElem?_append_left (by rw [List.length_map, hv]; exact l), List.getElem?_map, e1]; rfl, e2⟩
  · rw [List.getElem?_append_right (by rw [List.length_map]; omega)] at q
    have := List.mem_of_getElem? q
    have := List.eq_of_mem_replicate this
    cases this
/-- what a def below may name -/
structure CG (P : Program) (w : World) (K : PySem.W.Frag) (mg : Str → Option Value) (base : Heap) (T : NT) (lvl : Nat) (nm : Nm) (cs : Tab) : Prop where
  fn : ∀ k x, nm.fn.lookup k = some x → FG P w K mg base T lvl x (cs.get (0, k))
  mt : ∀ c m y, nm.mth.lookup (c, m) = some y → Cls K (T.cl c) ∧ y ∉ T.fld ∧ MG P w K mg base T lvl (T.cl c) y (cs.get (c + 1, m))
theorem chkD_1 {nm : Nm} {d : DE} (c : chkD nm d = true) : (d.c = 0 ∨ (nm.cls.lookup (d.c - 1) = some d.cn ∧ d.x ∉ nm.fl)) ∧ scOk d.N d.ps d.scope = true ∧ d.df.np = d.ps.length ∧ d.df.n = d.N.length ∧ chkSs nm d.N d.scope d.df.body d.body = true := by
  unfold chkD at c
  obtain ⟨c0, c⟩ := and2 c
  obtain ⟨c, c4⟩ := and2 c
  obtain ⟨c, c3⟩ := and2 c
  obtain ⟨c1, c2⟩ := and2 c
  refine ⟨?_, c1, of_decide_eq_true c2, of_decide_eq_true c3, c4⟩
  rcases Bool.or_eq_true_iff.mp c0 with c0 | c0
  · exact .inl (of_decide_eq_true c0)
  · obtain ⟨a, b⟩ := and2 c0
    exact .inr ⟨of_decide_eq_true a, of_decide_eq_true b⟩
def LF.nm (lf : LF) (fn : List (Nat × Str)) (mth : List ((Nat × Nat) × Str)) : Nm := ⟨fn, lf.gl, lf.cls, mth, lf.na, lf.fl, lf.xc, lf.xf, false⟩
theorem def_fn {lf : LF} {fn : List (Nat × Str)} {mth : List ((Nat × Nat) × Str)} {cs : Tab} {d : DE} {a : Addr} {fd : FuncData} {dvs : List V} {kws : List (Str × V)} (m : MW T lf K mg) (F : FunD K d.x d.qual d.args d.body d.scope dvs kws a fd) (c : chkD (lf.nm fn mth) d = true) (hc : CG P w K mg base T (lvl + 1) (lf.nm fn mth) cs) :
    FnOk P w K mg base (L2.CX P w) (lvl + 3) a fd d.ps (spOf T d.ps.length (run d.df cs)) := by
  obtain ⟨_, c1, c2, c3, c4⟩ := chkD_1 c
  have S := scOk_of c1
  have hnp : d.ps.length ≤ d.N.length := by
    have := congrArg List.length S.pre
    rw [List.length_take] at this
    omega
  refine F.ok S (fun vs H Q E h => h.1) (fun cdv A outer s H vs Q E hr h => ?_)
  refine ⟨tXs T (fun cls dd _ H => E cls dd H) cs d.df.body, ?_, ?_⟩
  · have g : GX T (lf.nm fn mth) cs (fun cls dd _ H => E cls dd H) (lvl + 2) (cxOf (L2.CX P w) P w K mg base d.N d.qual d.scope a cdv A outer s H E) :=
      ⟨m.kk, fun _ => rfl, S.nd, fun _ => hr, hr.un, fun z => Bool.noConfusion z, takes_of rfl rfl rfl rfl, PassesOwn.leaving, m.bl, m.gl, fun k x e => ⟨((hc.fn k x e).mono (Nat.le_succ _)).ex⟩, m.fl, fun c x e => (m.cl c x e).2, fun c' m' y e => by
        obtain ⟨q1, q2, ⟨a, fd, ps, q3, q4, q5, q6⟩⟩ := hc.mt c' m' y e
        exact ⟨q1, q2, ⟨lvl + 1, a, fd, ps, Nat.le_refl _, q3, q4, q5, q6⟩⟩, m.na, m.xcE, fun c d e => m.xq c d e P w base, m.xna⟩
    exact okSs d.df.body g (fun _ => rfl) S.kind rfl rfl c4
  · obtain ⟨hl, ρ, h, ws, Sm, rs, P1⟩ := h
    have hws : ws.length = d.df.np := by rw [← rs.length, hl, c2]
    have P2 : PostG T (RV T) E ρ h H (if ws.length = d.df.np then fnOf (xss cs d.df.body (ws.map some ++ List.replicate (d.df.n - d.df.np) none) h) else .bad) Q := P1
    rw [if_pos hws] at P2
    exact ⟨ρ, h, _, Sm, start_er rs c3 hws (by rw [hws, c2, c3]; exact hnp), run_post P2⟩
theorem run_len {nm : Nm} {cs : Tab} {d : DE} (c : chkD nm d = true) (ws : List W) (h : Mem) (e : ws.length ≠ d.ps.length) : run d.df cs ws h = .bad := by
  obtain ⟨_, _, c2, _⟩ := chkD_1 c
  show (if ws.length = d.df.np then _ else _) = _
  rw [if_neg (by rw [c2]; exact e)]
/-! ### tables -/
/-- the last def first -/
def tabOf : List DE → Tab
  | [] => []
  | d :: r => ((d.c, d.k), run d.df (tabOf r)) :: tabOf r
def fnsOf : List DE → List (Nat × Str)
  | [] => []
  | d :: r => if d.c = 0 then (d.k, d.x) :: fnsOf r else fnsOf r
def mthOf : List DE → List ((Nat × Nat) × Str)
  | [] => []
  | d :: r => if d.c = 0 then mthOf r else ((d.c - 1, d.k), d.x) :: mthOf r
def chkL (lf : LF) : List DE → Bool
  | [] => true
  | d :: r => chkD (lf.nm (fnsOf r) (mthOf r)) d && chkL lf r
theorem tab_at {L : List DE} {d : DE} {k : Nat × Nat} : (tabOf (d :: L)).get k = if k = (d.c, d.k) then run d.df (tabOf L) else (tabOf L).get k := by
  show (match List.lookup k (((d.c, d.k), run d.df (tabOf L)) :: tabOf L) with
    | some f => f
    | none => fun _ _ => .bad) = _
  rw [List.lookup_cons]
  by_cases c : k = (d.c, d.k)
  · rw [if_pos c, c]
    have : (((d.c, d.k) : Nat × Nat) == (d.c, d.k)) = true := beq_self_eq_true _
    rw [this]
  · rw [if_neg c]
    have : (k == (d.c, d.k)) = false := beq_eq_false_iff_ne.mpr c
    rw [this]
    rfl
theorem FG.mono' {x : Str} {f : Fn} {l l' : Nat} (g : FG P w K mg base T l x f) (h : l ≤ l') : FG P w K mg base T l' x f := g.mono h
theorem MG.mono {C : Addr} {x : Str} {f : Fn} {l l' : Nat} (g : MG P w K mg base T l C x f) (h : l ≤ l') : MG P w K mg base T l' C x f := by
  obtain ⟨a, fd, ps, q1, q2, q3, q4⟩ := g.ex
  exact ⟨a, fd, ps, q1, q2.mono h, q3, q4⟩
theorem tab_ok {lf : LF} (m : MW T lf K mg) : ∀ {L : List DE}, (∀ d ∈ L, DA K mg T d) → chkL lf L = true → CG P w K mg base T (2 * L.length + 1) (lf.nm (fnsOf L) (mthOf L)) (tabOf L)
  | [], _, _ => ⟨fun k x e => (nomatch (show (none : Option Str) = some x from e)), fun c m y e => (nomatch (show (none : Option Str) = some y from e))⟩
  | d :: r, hA, hc => by
    unfold chkL at hc
    obtain ⟨c1, c2⟩ := and2 hc
    have ih := tab_ok m (L := r) (fun d hd => hA d (List.mem_cons_of_mem _ hd)) c2
    obtain ⟨a, fd, dvs, kws, q1, q2, F, q3⟩ := (hA d List.mem_cons_self).ex
    have me := def_fn (P := P) (w := w) (base := base) (T := T) (lvl := 2 * r.length) m F c1 ih
    have le : 2 * r.length + 1 ≤ 2 * (d :: r).length + 1 := by rw [List.length_cons]; omega
    have me : FnOk P w K mg base (L2.CX P w) (2 * (d :: r).length + 1) a fd d.ps (spOf T d.ps.length (run d.df (tabOf r))) := me.mono (by rw [List.length_cons]; omega)
    obtain ⟨d0, _⟩ := chkD_1 c1
    refine ⟨fun k x e => ?_, fun c m' y e => ?_⟩
    · have e : (fnsOf (d :: r)).lookup k = some x := e
      rw [tab_at]
      unfold fnsOf at e
      split at e
      · rename_i hz
        rw [List.lookup_cons] at e
        by_cases q : k = d.k
        · subst q
          rw [beq_self_eq_true] at e
          cases e
          rw [if_pos (by rw [hz])]
          exact ⟨a, fd, d.ps, q1 hz, F.kp, me, q3, fun ws h z => run_len c1 ws h z⟩
        · have b : (k == d.k) = false := beq_eq_false_iff_ne.mpr q
          rw [b] at e
          rw [if_neg (fun z => q (Prod.mk.inj z).2)]
          exact (ih.fn k x e).mono le
      · rename_i hz
        rw [if_neg (fun z => hz (Prod.mk.inj z).1.symm)]
        exact (ih.fn k x e).mono le
    · have e : (mthOf (d :: r)).lookup (c, m') = some y := e
      rw [tab_at]
      unfold mthOf at e
      split at e
      · rename_i hz
        rw [if_neg (fun z => by have := (Prod.mk.inj z).1; omega)]
        obtain ⟨z1, z2, z3⟩ := ih.mt c m' y e
        exact ⟨z1, z2, z3.mono le⟩
      · rename_i hz
        rw [List.lookup_cons] at e
        rcases d0 with d0 | ⟨d1, d2⟩
        · exact absurd d0 hz
        by_cases q : (c, m') = (d.c - 1, d.k)
        · rw [q] at e
          have b : (((d.c - 1, d.k) : Nat × Nat) == (d.c - 1, d.k)) = true := beq_self_eq_true _
          rw [b] at e
          have ey : d.x = y := Option.some.inj e
          subst ey
          obtain ⟨rfl, rfl⟩ := Prod.mk.inj q
          rw [if_pos (by rw [show d.c - 1 + 1 = d.c by omega])]
          refine ⟨(m.cl _ _ d1).1, by rw [← m.fl]; exact d2, ⟨a, fd, d.ps, q2 hz, me, q3, fun ws h z => run_len c1 ws h z⟩⟩
        · have b : (((c, m') : Nat × Nat) == (d.c - 1, d.k)) = false := beq_eq_false_iff_ne.mpr q
          rw [b] at e
          rw [if_neg (fun z => q (by obtain ⟨z1, z2⟩ := Prod.mk.inj z; rw [z2, ← z1]; rfl))]
          obtain ⟨z1, z2, z3⟩ := ih.mt c m' y e
          exact ⟨z1, z2, z3.mono le⟩
end
end DM

/-! The deep machine: the end of a law. -/
namespace DM
open PySem L2 PySem.Spec PyProof.Rows
def ddOf (d : DE) : He.DefD := ⟨if d.c = 0 then (d.x, none) else (d.cn, some d.x), d.x, d.qual, d.args, d.body, d.scope, [], []⟩
/-- constants of the module -/
inductive Gv where
  | int (i : Int) | str (x : List Nat) | tup (ds : List (Int ⊕ List Nat))
def itW : Int ⊕ List Nat → W
  | .inl i => .int i
  | .inr x => .str x
def itD : Int ⊕ List Nat → He.Dv
  | .inl i => .int i
  | .inr x => .str ⟨x.toArray⟩
def Gv.w : Gv → W
  | .int i => .int i
  | .str x => .str x
  | .tup ds => .tup (ds.map itW)
def strOk (x : List Nat) : Bool := decide (x.length ≤ LIM) && x.all fun c => decide (c < 128)
def gvOk : Gv → Bool
  | .int _ => true
  | .str x => strOk x
  | .tup ds => ds.all fun
    | .inl _ => true
    | .inr x => strOk x
def glW (gl : List (Str × Gv)) : List (Str × W) := gl.map fun p => (p.1, p.2.w)
def gvFa (p : Str × Gv) : He.Fa := match p.2 with
  | .int i => .int p.1 i
  | .str x => .str p.1 ⟨x.toArray⟩
  | .tup _ => .glo p.1
/-- what no fact of the head's tells -/
def exB (gl : List (Str × Gv)) (K : PySem.W.Frag) : Bool := gl.all fun p => match p.2 with
  | .tup ds => He.tupB K p.1 (ds.map itD)
  | _ => true
/-- a law's form: defs (the last first), constants, classes, attributes -/
structure LW where
  L : List DE
  gl : List (Str × Gv)
  cls : List (Nat × Str)
  na : List (Nat × Nat)
  fl : List Str
  xc : List (Nat × XD) := []
  xf : List Nat := []
  xi : List DE := []
def LW.lf (l : LW) : LF := ⟨glW l.gl, l.cls, l.na, l.fl, l.xc, l.xf⟩
def LW.cn (l : LW) (c : Nat) : Str := (l.cls.lookup c).getD (((l.xc.lookup c).map (·.name)).getD default)
def LW.fa (l : LW) : List He.Fa := l.L.map (fun d => if d.c = 0 then .glo d.x else .meth d.cn d.x) ++ (l.gl.map gvFa ++ (l.cls.map (fun p => He.Fa.glo p.2) ++ (l.cls.map (fun p => He.Fa.cls p.2) ++ (l.cls.map (fun p => He.Fa.mkr p.2) ++ (l.na.map (fun p => He.Fa.noat (l.cn p.1) (l.fl.getD p.2 default)) ++ (l.na.map (fun p => He.Fa.cls (l.cn p.1)) ++ (bnames.map .free ++ (l.xc.map (fun p => He.Fa.glo p.2.name) ++ l.xi.map (fun d => He.Fa.meth d.cn d.x)))))))))
def LW.ds (l : LW) : List He.DefD := l.L.map ddOf ++ l.xi.map ddOf
def LW.T (l : LW) (K : PySem.W.Frag) (nd : l.fl.Nodup) : NT := ⟨K, fun c => He.ga K (l.cn c), l.fl, nd, l.xc⟩
/-- what the written part tells of a class of exceptions with its own __init__ -/
def oexB (K : PySem.W.Frag) (C : Addr) : Bool := (match K.lookup C with
  | some ⟨.type "type", _, .cls cd, sl⟩ => (match cd.mro, sl.toList with
    | .ref C' :: bm, [_, _, _, _, some (.builtin n), _] => C' == C && n == "ValueError.__new__" && !cd.hasDel && cd.hasDict && PySem.HandSPX.refsVE bm
    | _, _ => false)
  | _ => false) && decide (PySem.W.findIn K (.ref C) "__setattr__" = some (some (.builtin "object.__setattr__")))
/-- the same of all of them -/
def xcB (l : LW) (K : PySem.W.Frag) : Bool := (l.xc.all fun p =>
  PySem.W.keepIn K (.ref (He.ga K (l.cn p.1))) && xfkB K (He.ga K (l.cn p.1)) && decide (PySem.W.typeIn K (.ref (He.ga K (l.cn p.1))) = some (.type "type")) &&
  (l.xc.all fun q => decide (PySem.W.exmOne K (.ref (He.ga K (l.cn q.1))) (.ref (He.ga K (l.cn p.1))) = some (p.2.sub.contains q.1)) && decide (PySem.W.kitOne K (.ref (He.ga K (l.cn q.1))) (.ref (He.ga K (l.cn p.1))) = some (p.2.sub.contains q.1))) &&
  decide (PySem.W.kitOne K (.ref (He.ga K (l.cn p.1))) (.type "ValueError") = some true) && (l.fl.all fun y => decide (PySem.W.findIn K (.ref (He.ga K (l.cn p.1))) y = some none) || !(l.xf.any fun f => decide (l.fl[f]? = some y))) &&
  (match p.2.ini with
  | none => PySem.W.excIn K (He.ga K (l.cn p.1)) He.veBase "ValueError.__new__"
  | some fl => oexB K (He.ga K (l.cn p.1)) && fl.all fun f => decide (PySem.W.findIn K (.ref (He.ga K (l.cn p.1))) (l.fl.getD f default) = some none))) &&
  (l.xi.isEmpty || (PySem.W.readsIn K (He.ga K "RoadError") (.type "type") && (match PySem.W.findCls K (.ref (He.ga K "RoadError")) (.type "type") "__init__" with
    | some (.val v) => decide (v = .builtin "ValueError.__init__")
    | _ => false) && decide (PySem.W.specialIn K (.ref (He.ga K "RoadError")) "__getattribute__" = some (some (.builtin "type.__getattribute__")))))
def exL (l : LW) (K : PySem.W.Frag) : Bool := exB l.gl K && xcB l K
/-- the form of the exceptions' part -/
def xiOk (l : LW) (d : DE) : Bool := (match l.xc.lookup (d.c - 1) with
  | some x => decide (x.name = d.cn) && (match x.ini with
    | some fl => decide (d.c ≠ 0) && decide (d.x = "__init__") && decide (fl.length ≤ 900) && (fl.all fun f => decide (f < l.fl.length)) && scOk d.N d.ps d.scope && decide (d.ps.length = fl.length + 2) && iniOk d.N d.scope (fl.map fun f => l.fl.getD f default) d.body
    | none => false)
  | none => false)
def xOk (l : LW) : Bool := (l.xc.all fun p => decide (l.cls.lookup p.1 = none) && decide (l.xc.lookup p.1 = some p.2) && (match p.2.ini with
    | none => true
    | some _ => l.xi.any fun d => decide (d.c = p.1 + 1))) && (l.xi.all (xiOk l)) && (l.xi.isEmpty || l.xc.any fun p => decide (p.2.name = "RoadError"))
/-! ### the head: facts, defs, and what else is seen -/
abbrev AlM : Type := He.AlD × Bool
def obsM (fa : List He.Fa) (fn : List He.DefD) (ex : PySem.W.Frag → Bool) (K : PySem.W.Frag) : AlM := (He.obsD fa fn K, ex K)
def obsMG (n : Nat) (fa : List He.Fa) (fn : List He.DefD) (ex : PySem.W.Frag → Bool) (g : Addr → Option Obj) : AlM := obsM fa fn ex (He.frG g (cStatics :: He.asD g n))
def hookM (n : Nat) (fa : List He.Fa) (fn : List He.DefD) (ex : PySem.W.Frag → Bool) : PySem.W.Hook where
  α := AlM
  obs := fun s => obsMG n fa fn ex s.heap.get?
  val := fun _ => (He.valD fn, true)
  says := fun _ h => ∃ K : PySem.W.Frag, K.In h ∧ (He.SaysD fa fn K ∧ ex K = true)
  of := fun _ _ e => ⟨_, He.frG_in, congrArg (fun z : AlM => z.1) e, congrArg (fun z : AlM => z.2) e⟩
  keeps := fun _ _ _ ⟨K, hK, c⟩ k => ⟨K, PySem.W.Frag.In.keeps hK k, c⟩
theorem obsMG_eq {n : Nat} {fa : List He.Fa} {fn : List He.DefD} {ex : PySem.W.Frag → Bool} {g : Addr → Option Obj} {s : Shared} (h : ∀ a, g a = s.heap.get? a) : obsMG n fa fn ex g = (hookM n fa fn ex).obs s := by
  have e : g = s.heap.get? := funext h
  rw [e] <;> rfl
/-- a call of d binds -/
abbrev BndOk (d : DE) : Prop := ∀ (kV doc pm : Value) (an : Option Addr) (cdv ct : Value) (us : List Value), us.length = d.ps.length → bindArgs (PySem.W.fnOf d.x d.qual d.args d.body d.scope .none kV doc pm an cdv ct) ⟨us, []⟩ = pure (d.ps.zip us)
inductive AllB : List DE → Prop
  | nil : AllB []
  | cons {d : DE} {r : List DE} (h : BndOk d) (t : AllB r) : AllB (d :: r)
theorem AllB.of : ∀ {L : List DE}, AllB L → ∀ d ∈ L, BndOk d
  | _, .nil, _, h => by cases h
  | _, .cons h t, d, hd => by
    rcases List.mem_cons.mp (hd) with rfl | hd
    · exact h
    · exact AllB.of t d hd
section
variable {l : LW} {K : PySem.W.Frag}
theorem says_fa {fa : List He.Fa} {fn : List He.DefD} (c : He.SaysD fa fn K) {f : He.Fa} (h : f ∈ fa) : f.ok K = true := by
  obtain ⟨i, hi⟩ := List.mem_iff_getElem?.mp h
  exact c.fact i hi
theorem oexB_ok {C : Addr} (h : oexB K C = true) (xf : XfK K C) (ty : PySem.W.typeIn K (.ref C) = some (.type "type")) (kp : PySem.W.keepIn K (.ref C) = true) : OexC K C := by
  unfold oexB at h
  obtain ⟨h1, h2⟩ := Bool.and_eq_true_iff.mp h
  refine ⟨?_, of_decide_eq_true h2, xf.su, ty, kp⟩
  split at h1
  · rename_i dd cd sl ho
    split at h1
    · rename_i C' bm k0 k1 k2 k3 n k5 hm hs
      simp only [(Bool.and_eq_true), (beq_iff_eq), (Bool.not_eq_true')] at h1
      obtain ⟨⟨⟨⟨rfl, rfl⟩, e3⟩, e4⟩, e5⟩ := h1
      obtain ⟨nm, bs, mro, ns, qn, hd, sn, sub, ab, col, del⟩ := cd
      dsimp only at hm e3 e4
      subst hm e3 e4
      have hsl : sl = #[k0, k1, k2, k3, some (.builtin "ValueError.__new__"), k5] := by
        obtain ⟨z⟩ := sl
        have hs : z = _ := hs
        rw [hs]
      subst hsl
      exact ⟨nm, qn, ns, bs, bm, sn, sub, ab, col, dd, k0, k1, k2, k3, k5, ho, e5⟩
    · cases h1
  · cases h1
theorem says_fn {fa : List He.Fa} {fn : List He.DefD} (c : He.SaysD fa fn K) {d : He.DefD} (h : d ∈ fn) : ∃ fd, FunD K d.name d.qual d.params d.body d.scope (d.dvs K) (d.kws K) (He.fAd K d.at_) fd := by
  obtain ⟨i, hi⟩ := List.mem_iff_getElem?.mp h
  exact c.def_ i hi
theorem meth_of {x y : Str} (c : (He.Fa.meth x y).ok K = true) : Meth K (He.ga K x) y (He.ma K (He.ga K x) y) := He.meth_ok c
theorem says_d (c : He.SaysD l.fa l.ds K) {h : Heap} {mg : Str → Option Value} (X : K.In h) (G : h.Ns mainGlobals mg) (nd : l.fl.Nodup) (hn : ∀ d ∈ l.L, d.c ≠ 0 → l.cls.lookup (d.c - 1) = some d.cn) {d : DE} (hd : d ∈ l.L) :
    ∃ a fd, (d.c = 0 → a = He.ga K d.x ∧ mg d.x = some (.ref a)) ∧ (d.c ≠ 0 → Meth K ((l.T K nd).cl (d.c - 1)) d.x a) ∧ FunD K d.x d.qual d.args d.body d.scope [] [] a fd := by
  obtain ⟨fd, F⟩ := says_fn c (d := ddOf d) (List.mem_append_left _ (List.mem_map_of_mem hd))
  have f := says_fa c (f := if d.c = 0 then .glo d.x else .meth d.cn d.x) (List.mem_append_left _ (List.mem_map_of_mem (f := fun d : DE => if d.c = 0 then He.Fa.glo d.x else He.Fa.meth d.cn d.x) hd))
  by_cases z : d.c = 0
  · rw [if_pos z] at f
    have e : (ddOf d).at_ = (d.x, none) := if_pos z
    rw [e] at F
    exact ⟨_, fd, fun _ => ⟨rfl, He.glo_ok X G f⟩, fun q => absurd z q, F⟩
  · rw [if_neg z] at f
    have e : (ddOf d).at_ = (d.cn, some d.x) := if_neg z
    rw [e] at F
    refine ⟨_, fd, fun q => absurd q z, fun _ => ?_, F⟩
    have q : l.cn (d.c - 1) = d.cn := by
      unfold LW.cn
      rw [hn d hd z]
      rfl
    show Meth K (He.ga K (l.cn (d.c - 1))) d.x _
    rw [q]
    exact meth_of f
theorem strOk_of {x : List Nat} (h : strOk x = true) : okS x := by
  obtain ⟨h1, h2⟩ := Bool.and_eq_true_iff.mp h
  exact okS_of (of_decide_eq_true h1) h2
theorem rws_its {ρ : Nat → Addr} {N : Nat} {H : Hp} : ∀ ds : List (Int ⊕ List Nat), (ds.all fun
    | .inl _ => true
    | .inr x => strOk x) = true → RWs K ρ N H (ds.map itW) ((ds.map itD).map (He.Dv.v K))
  | [], _ => .nil
  | .inl i :: r, h => by
    rw [List.all_cons] at h
    exact .cons (.int i) (rws_its r (Bool.and_eq_true_iff.mp h).2)
  | .inr x :: r, h => by
    rw [List.all_cons] at h
    exact .cons (.str x (strOk_of (Bool.and_eq_true_iff.mp h).1)) (rws_its r (Bool.and_eq_true_iff.mp h).2)
theorem mem_fa2 {f : He.Fa} (h : f ∈ l.gl.map gvFa) : f ∈ l.fa := List.mem_append_right _ (List.mem_append_left _ h)
theorem mem_fa3 {f : He.Fa} (h : f ∈ l.cls.map (fun p => He.Fa.glo p.2) ++ (l.cls.map (fun p => He.Fa.cls p.2) ++ (l.cls.map (fun p => He.Fa.mkr p.2) ++ (l.na.map (fun p => He.Fa.noat (l.cn p.1) (l.fl.getD p.2 default)) ++ (l.na.map (fun p => He.Fa.cls (l.cn p.1)) ++ (bnames.map .free ++ (l.xc.map (fun p => He.Fa.glo p.2.name) ++ l.xi.map (fun d => He.Fa.meth d.cn d.x)))))))) : f ∈ l.fa := List.mem_append_right _ (List.mem_append_right _ h)
theorem memN {α : Type} {c : Nat} {x : α} : ∀ {xs : List (Nat × α)}, xs.lookup c = some x → (c, x) ∈ xs
  | [], e => nomatch e
  | (d, y) :: r, e => by
    rw [List.lookup_cons] at e
    by_cases q : c = d
    · subst q
      rw [beq_self_eq_true] at e
      rw [Option.some.inj e]
      exact List.mem_cons_self
    · have b : (c == d) = false := beq_eq_false_iff_ne.mpr q
      rw [b] at e
      exact List.mem_cons_of_mem _ (memN e)
theorem cn_of (ok : xOk l = true) {c : Nat} {d : XD} (e : l.xc.lookup c = some d) : l.cn c = d.name := by
  unfold xOk at ok
  obtain ⟨ok, _⟩ := and2 ok
  obtain ⟨ok, _⟩ := and2 ok
  have q := List.all_eq_true.mp ok (c, d) (memX e)
  obtain ⟨q, _⟩ := and2 q
  obtain ⟨q, _⟩ := and2 q
  have q : l.cls.lookup c = none := of_decide_eq_true q
  unfold LW.cn
  rw [q, e]
  rfl
theorem pair_fl {fld : List Str} : ∀ fl : List Nat, (fl.all fun f => decide (f < fld.length)) = true → Paired (fun (f : Nat) (y : Str) => fld[f]? = some y) fl (fl.map fun f => fld.getD f default)
  | [], _ => .nil
  | f :: r, h => by
    rw [List.all_cons] at h
    obtain ⟨h1, h2⟩ := and2 h
    have l := of_decide_eq_true h1
    refine .cons ?_ (pair_fl r h2)
    show fld[f]? = some (fld.getD f default)
    rw [List.getD_eq_getElem?_getD, List.getElem?_eq_getElem l]
    rfl
theorem says_x (nd : l.fl.Nodup) (ok : xOk l = true) (hb : AllB l.xi) (c : He.SaysD l.fa l.ds K) (cx : xcB l K = true) {h : Heap} {mg : Str → Option Value} (X : K.In h) (G : h.Ns mainGlobals mg) {c' : Nat} {d : XD} (e : l.xc.lookup c' = some d) (P : Program) (w : World) (base : Heap) :
    XQ (l.T K nd) K mg P w base c' d := by
  have en := cn_of ok e
  have T0 : (l.T K nd).cl c' = He.ga K d.name := by
    show He.ga K (l.cn c') = _
    rw [en]
  have gl : ∀ c d, l.xc.lookup c = some d → mg d.name = some (.ref (He.ga K d.name)) := fun c1 d1 e1 => He.glo_ok X G (says_fa c (f := .glo d1.name) (mem_fa3 (List.mem_append_right _ (List.mem_append_right _ (List.mem_append_right _ (List.mem_append_right _ (List.mem_append_right _ (List.mem_append_right _ (List.mem_append_left _ (List.mem_map_of_mem (f := fun p : Nat × XD => He.Fa.glo p.2.name) (memX e1)))))))))))
  unfold xcB at cx
  obtain ⟨cx, cr⟩ := and2 cx
  have q := List.all_eq_true.mp cx (c', d) (memX e)
  dsimp only at q
  rw [en] at q
  obtain ⟨q, q7⟩ := and2 q
  obtain ⟨q, q6⟩ := and2 q
  obtain ⟨q, q5⟩ := and2 q
  obtain ⟨q, q4⟩ := and2 q
  obtain ⟨q, q3⟩ := and2 q
  obtain ⟨q1, q2⟩ := and2 q
  have xf := xfkB_ok q2
  refine ⟨by rw [T0]; exact gl _ _ e, by rw [T0]; exact q1, by rw [T0]; exact xf, by rw [T0]; exact of_decide_eq_true q3, fun c2 d2 e2 => ?_, by rw [T0]; exact of_decide_eq_true q5, fun hi => ?_, fun fl hi => ?_⟩
  · have z := List.all_eq_true.mp q4 (c2, d2) (memX e2)
    obtain ⟨z1, z2⟩ := and2 z
    rw [T0]
    exact ⟨of_decide_eq_true z1, of_decide_eq_true z2⟩
  · rw [hi] at q7
    rw [T0]
    exact q7
  · rw [hi] at q7
    obtain ⟨o1, o2⟩ := and2 q7
    have ok' := ok
    unfold xOk at ok'
    obtain ⟨ok', k3⟩ := and2 ok'
    obtain ⟨k1, k2⟩ := and2 ok'
    have z := List.all_eq_true.mp k1 (c', d) (memX e)
    obtain ⟨_, z⟩ := and2 z
    dsimp only at z
    rw [hi] at z
    obtain ⟨de, hde, z⟩ := List.any_eq_true.mp z
    have z : de.c = c' + 1 := of_decide_eq_true z
    have y := List.all_eq_true.mp k2 de hde
    unfold xiOk at y
    have ec : de.c - 1 = c' := by omega
    rw [ec, e] at y
    obtain ⟨y1, y⟩ := and2 y
    have y1 : d.name = de.cn := of_decide_eq_true y1
    rw [hi] at y
    obtain ⟨y, y8⟩ := and2 y
    obtain ⟨y, y7⟩ := and2 y
    obtain ⟨y, y6⟩ := and2 y
    obtain ⟨y, y5⟩ := and2 y
    obtain ⟨y, y4⟩ := and2 y
    obtain ⟨y2, y3⟩ := and2 y
    have y2 : de.c ≠ 0 := of_decide_eq_true y2
    have y3 : de.x = "__init__" := of_decide_eq_true y3
    have y7 : de.ps.length = fl.length + 2 := of_decide_eq_true y7
    obtain ⟨fd, F⟩ := says_fn c (d := ddOf de) (List.mem_append_right _ (List.mem_map_of_mem hde))
    have ea : (ddOf de).at_ = (de.cn, some de.x) := if_neg y2
    rw [ea] at F
    have M : Meth K (He.ga K de.cn) de.x (He.fAd K (de.cn, some de.x)) := meth_of (says_fa c (f := .meth de.cn de.x) (mem_fa3 (List.mem_append_right _ (List.mem_append_right _ (List.mem_append_right _ (List.mem_append_right _ (List.mem_append_right _ (List.mem_append_right _ (List.mem_append_right _ (List.mem_map_of_mem (f := fun d : DE => He.Fa.meth d.cn d.x) hde))))))))))
    have F : FunD K de.x de.qual de.args de.body de.scope [] [] (He.fAd K (de.cn, some de.x)) fd := F
    have B := F.bindsN (hb.of de hde)
    rw [y3, ← y1] at F M
    rw [T0]
    have hne : l.xi.isEmpty = false := by
      cases hx : l.xi with
      | nil =>
        rw [hx] at hde
        cases hde
      | cons _ _ => rfl
    rw [hne, Bool.false_or] at cr k3
    obtain ⟨⟨cR, dR⟩, hR, kR⟩ := List.any_eq_true.mp k3
    have kR : dR.name = "RoadError" := of_decide_eq_true kR
    have eR : l.xc.lookup cR = some dR := by
      have := List.all_eq_true.mp k1 _ hR
      obtain ⟨this, _⟩ := and2 this
      obtain ⟨_, this⟩ := and2 this
      exact of_decide_eq_true this
    have gR := gl cR dR eR
    rw [kR] at gR
    obtain ⟨r, r3⟩ := and2 cr
    obtain ⟨r1, r2⟩ := and2 r
    have O := oexB_ok o1 xf (of_decide_eq_true q3) q1
    refine ⟨of_decide_eq_true y4, O, _, _, fd, de.ps, pair_fl fl y5, M.at_, beq_iff_eq.mp M.fn, ?_, B⟩
    refine ini_fn (N := de.N) F (scOk_of y6) (by rw [List.length_map]; exact y7) y8 O (fun y hy => ?_) gR r1 ?_ (of_decide_eq_true r3)
    · obtain ⟨f, hf, rfl⟩ := List.mem_map.mp hy
      exact of_decide_eq_true (List.all_eq_true.mp o2 f hf)
    · split at r2
      · rename_i v ev
        rw [ev, of_decide_eq_true r2]
      · cases r2
theorem says_m (nd : l.fl.Nodup) (gok : (l.gl.all fun p => gvOk p.2) = true) (c : He.SaysD l.fa l.ds K) (ce : exL l K = true) (okx : xOk l = true) (hbx : AllB l.xi) {h : Heap} {mg : Str → Option Value} (X : K.In h) (G : h.Ns mainGlobals mg) : MW (l.T K nd) l.lf K mg := by
  obtain ⟨ce, cx⟩ := and2 (show (exB l.gl K && xcB l K) = true from ce)
  refine ⟨rfl, fun x hx => ?_, fun x w e => ?_, rfl, fun c' x e => ?_, fun c' f y hm hy => ?_, rfl, fun c' d e P w base => says_x nd okx hbx c cx X G e P w base, fun c' d f y e hf hy => ?_⟩
  · exact He.free_ok X G (says_fa c (f := .free x) (mem_fa3 (List.mem_append_right _ (List.mem_append_right _ (List.mem_append_right _ (List.mem_append_right _ (List.mem_append_right _ (List.mem_append_left _ (List.mem_map_of_mem hx)))))))))
  · have e : (glW l.gl).lookup x = some w := e
    have hm := PySem.mem_of_lookup e
    obtain ⟨p, hp, ep⟩ := List.mem_map.mp hm
    have fa := says_fa c (mem_fa2 (List.mem_map_of_mem (f := gvFa) hp))
    have go := List.all_eq_true.mp gok p hp
    have ge := List.all_eq_true.mp ce p hp
    obtain ⟨px, pg⟩ := p
    cases ep
    cases pg with
    | int i =>
      obtain ⟨t, q⟩ := He.int_ok X G fa
      exact ⟨_, .int i, q, ⟨t, rfl⟩, fun ρ N H => .int _⟩
    | str z =>
      obtain ⟨t, q⟩ := He.str_ok X G fa
      exact ⟨_, .str ⟨z.toArray⟩, q, ⟨t, rfl⟩, fun ρ N H => .str _ (strOk_of go)⟩
    | tup ds =>
      exact ⟨_, .ref (He.ga K px), He.glo_ok X G fa, rfl, fun ρ N H => .tup (He.tupB_ok ge H) (rws_its ds go)⟩
  · have e : l.cls.lookup c' = some x := e
    have hm := memN e
    have en : l.cn c' = x := by
      unfold LW.cn
      rw [e]
      rfl
    have f1 := says_fa c (f := .glo x) (mem_fa3 (List.mem_append_left _ (List.mem_map_of_mem (f := fun p : Nat × Str => He.Fa.glo p.2) hm)))
    have f2 := says_fa c (f := .cls x) (mem_fa3 (List.mem_append_right _ (List.mem_append_left _ (List.mem_map_of_mem (f := fun p : Nat × Str => He.Fa.cls p.2) hm))))
    have f3 := says_fa c (f := .mkr x) (mem_fa3 (List.mem_append_right _ (List.mem_append_right _ (List.mem_append_left _ (List.mem_map_of_mem (f := fun p : Nat × Str => He.Fa.mkr p.2) hm)))))
    show Cls K (He.ga K (l.cn c')) ∧ mg x = some (.ref (He.ga K (l.cn c'))) ∧ PySem.W.makesIn K (He.ga K (l.cn c')) = true ∧ PySem.W.keepIn K (.ref (He.ga K (l.cn c'))) = true
    rw [en]
    have M := He.mkr_ok f3
    exact ⟨He.cls_ok f2, He.glo_ok X G f1, M.makes, M.kp⟩
  · have hm : (c', f) ∈ l.na := hm
    have hy : l.fl[f]? = some y := hy
    have f1 := says_fa c (f := .noat (l.cn c') (l.fl.getD f default)) (mem_fa3 (List.mem_append_right _ (List.mem_append_right _ (List.mem_append_right _ (List.mem_append_left _ (List.mem_map_of_mem (f := fun p : Nat × Nat => He.Fa.noat (l.cn p.1) (l.fl.getD p.2 default)) hm))))))
    have f2 := says_fa c (f := .cls (l.cn c')) (mem_fa3 (List.mem_append_right _ (List.mem_append_right _ (List.mem_append_right _ (List.mem_append_right _ (List.mem_append_left _ (List.mem_map_of_mem (f := fun p : Nat × Nat => He.Fa.cls (l.cn p.1)) hm)))))))
    have ey : l.fl.getD f default = y := by
      rw [List.getD_eq_getElem?_getD, hy]
      rfl
    rw [ey] at f1
    exact ⟨He.cls_ok f2, He.noat_ok f1⟩
  · have e : l.xc.lookup c' = some d := e
    have hy : l.fl[f]? = some y := hy
    show PySem.W.findIn K (.ref (He.ga K (l.cn c'))) y = some none
    unfold xcB at cx
    obtain ⟨cx, _⟩ := and2 cx
    have q := List.all_eq_true.mp cx (c', d) (memX e)
    obtain ⟨q, _⟩ := and2 q
    obtain ⟨_, q6⟩ := and2 q
    have z := List.all_eq_true.mp q6 y (List.mem_of_getElem? hy)
    rcases Bool.or_eq_true_iff.mp z with z | z
    · exact of_decide_eq_true z
    · have a : (l.xf.any fun f => decide (l.fl[f]? = some y)) = true := List.any_eq_true.mpr ⟨f, hf, decide_eq_true hy⟩
      rw [a] at z
      cases z
theorem con_of {H : Hp} {a : Addr} {vs : List V} (hO : L2.Only H) (h : SqL K H a vs) : SqC K H a vs := by
  rcases h with (h | h) | h
  · rcases hO a with e | ⟨o, xs, e⟩ <;> rw [h] at e <;> cases e
  · exact .inl h
  · exact .inr (.inr h)
/-- what the end of a law asks -/
structure EndK (P : Program) (w : World) (n k : Nat) (x : Str) (mg : Str → Option Value) (fa : Addr) (h : Heap) (K : PySem.W.Frag) (fd : FuncData) (sp : Sp) : Prop where
  kin : K.In h
  bnd : ∀ (s : Shared) (u : Value), BindsTo s fd ⟨[u], []⟩ [(x, u)]
  say : ∀ (H : Hp) (a : Addr) (ns : List Int), ns.length ≤ n → L2.Only H → SqL K H a (ns.map V.int) → sp [.ref a] H (fun v _ => v = .bl true) fun _ _ _ => False
  fun_ : ∀ base : Heap, K.In base → base.Ns mainGlobals mg → FnOk P w K mg base (L2.CX P w) k fa fd [x] sp
theorem cx_false {P : Program} {w : World} (H : Hp) (s : Shared) (e : Value) (s' : Shared) (h : L2.CX P w [] H s (fun _ _ _ => False) e s') : False := by
  obtain ⟨_, _, _, _, _, h⟩ := h
  obtain ⟨_, _, _, _, _, _, _, h⟩ := h
  exact h
theorem law_end {l : PySem.W.OpenLaw} {n k : Nat} {q : Program} {loose : List Str} {XP : (Str → Option Value) → Heap → Prop} {YP : World → Heap → Prop} {d : DefRec} {x : Str} (hn : l.most = some n) (hn2 : n ≤ sizeLine) (hdf : d.params.defaults = []) (hr : Room k callerA)
    (F : ∀ (w : World) (mg : Str → Option Value) (fa : Addr) (h : Heap), YP w h → h.Ns mainGlobals mg → mg d.name = some (.ref fa) → ∃ K fd sp, EndK l.prog w n k x mg fa h K fd sp) : PySem.W.WalkO q loose XP YP l.row.toRowW d [] (fun f vs => PySem.call f vs) := by
  refine Att.attach_call hn hdf fun w _ s₁ mg _ fa _ _ _ _ a _ ns G Y _ _ _ hmg hobj hints hlen hg => ?_
  obtain ⟨K, fd, sp, z⟩ := F w mg fa _ Y G.T.g hmg
  refine law_call z.kin G.T.g G.T.b G.T.builtins G.T.nolimit hg hobj hints (Nat.le_trans hlen hn2) hr z.fun_ z.bnd (fun H hO hS => ?_) fun H e s' hc => ?_
  · exact z.say H a ns hlen hO hS
  · exact cx_false H s₁ e s' hc
theorem law_F {P : Program} {n : Nat} {dl : DE} {r : List DE} {x : Str} (hL : l.L = dl :: r) (h0 : dl.c = 0) (hp : dl.ps = [x]) (hb : AllB l.L) (hbx : AllB l.xi) (okx : xOk l = true) (nd : l.fl.Nodup) (gok : (l.gl.all fun p => gvOk p.2) = true) (hn : (l.L.all fun d => decide (d.c = 0) || decide (l.cls.lookup (d.c - 1) = some d.cn)) = true) (hc : chkL l.lf l.L = true)
    (plain : ∀ ns : List Int, ns.length ≤ n → ∃ h', run dl.df (tabOf r) [.con (ns.map .int)] [] = .ok (.bl true) h') (w : World) (mg : Str → Option Value) (fa : Addr) (h : Heap)
    (Y : ∃ K : PySem.W.Frag, K.In h ∧ (He.SaysD l.fa l.ds K ∧ exL l K = true)) (G : h.Ns mainGlobals mg) (hmg : mg dl.x = some (.ref fa)) : ∃ K fd sp, EndK P w n (2 * r.length + 3) x mg fa h K fd sp := by
  obtain ⟨K, KX, c, ce⟩ := Y
  have m : MW (l.T K nd) l.lf K mg := says_m nd gok c ce okx hbx KX G
  have hn' : ∀ d ∈ l.L, d.c ≠ 0 → l.cls.lookup (d.c - 1) = some d.cn := fun d hd hz => by
    rcases Bool.or_eq_true_iff.mp (List.all_eq_true.mp hn d hd) with q | q
    · exact absurd (of_decide_eq_true q) hz
    · exact of_decide_eq_true q
  have hA : ∀ d ∈ l.L, DA K mg (l.T K nd) d := fun d hd => by
    obtain ⟨a, fd, q1, q2, F⟩ := says_d c KX G nd hn' hd
    exact ⟨a, fd, [], [], fun z => (q1 z).2, q2, F, F.bindsN (hb.of d hd)⟩
  have hd : dl ∈ l.L := by
    rw [hL]
    exact List.mem_cons_self
  obtain ⟨a, fd, q1, _, F⟩ := says_d c KX G nd hn' hd
  obtain ⟨qa, q1⟩ := q1 h0
  rw [hmg] at q1
  obtain rfl : fa = a := by
    injection q1 with q1
    injection q1
  rw [hL] at hc hA
  unfold chkL at hc
  obtain ⟨c1, c2⟩ := and2 hc
  refine ⟨K, fd, spOf (l.T K nd) 1 (run dl.df (tabOf r)), KX, fun s u => ?_, fun H a ns hl hO hS => ?_, fun base _ _ => ?_⟩
  · have q := F.bindsA (hb.of dl hd) s [u] (by rw [hp]; rfl)
    rw [hp] at q
    exact q
  · obtain ⟨h', e⟩ := plain ns hl
    refine ⟨rfl, fun _ => 0, [], [.con (ns.map .int)], ⟨fun i j hi => absurd hi (Nat.not_lt_zero _), fun i o q => by cases q⟩, .cons (.con (con_of hO hS) (.ints ns)) .nil, ?_⟩
    rw [e]
    intro ρ' H' b _ _ rb
    have rb : RW K ρ' h'.length H' (.bl true) b := rb
    cases rb
    rfl
  · have := def_fn (P := P) (w := w) (base := base) (T := l.T K nd) (lvl := 2 * r.length) m F c1 (tab_ok m (fun d hd => hA d (List.mem_cons_of_mem _ hd)) c2)
    rw [hp] at this
    exact this
end
end DM

/-! Plain laws over the machine. -/
namespace DM
open PySem
/-- so that a step is not looked at by unfolding -/
theorem nr {α : Sort _} {a b : α} (h : a = b) : a = b := by
  cases h
  exact Eq.trans (Eq.symm (Eq.refl _)) (Eq.refl _)
section
variable {h : Mem} {i j : Int} {b c : Bool}
theorem p_add : op2 .add (.int i) (.int j) h = .ok (.int (i + j)) h := nr rfl
theorem p_sub : op2 .sub (.int i) (.int j) h = .ok (.int (i - j)) h := nr rfl
theorem p_mul (c : mulOk i j = true) : op2 .mul (.int i) (.int j) h = .ok (.int (i * j)) h := if_pos c
theorem p_mod (c : 0 < j) : op2 .mod (.int i) (.int j) h = .ok (.int (i % j)) h := if_pos c
theorem p_fdiv (c : 0 < j) (d : j < 115792089237316195423570985008687907853269984665640564039457584007913129639936) : op2 .fdiv (.int i) (.int j) h = .ok (.int (i / j)) h := if_pos ⟨c, by
  have h1 : j.natAbs < 2 ^ 256 := by omega
  have h2 : j.natAbs ≠ 0 := by omega
  have := (Nat.log2_lt h2).mpr h1
  omega⟩
theorem p_pow (c : 0 ≤ j) (d : j ≤ 1000000) (e : i.natAbs < 18446744073709551616) : op2 .pow (.int i) (.int j) h = .ok (.int (i ^ j.toNat)) h := if_pos ⟨c, d, e⟩
theorem p_eq : op2 .eq (.int i) (.int j) h = .ok (.bl (decide (i = j))) h := by
  have : PyData.eqv (.int i) (.int j) = decide (i = j) := by
    show (i == j) = _
    rfl
  show R.ok (W.bl _) h = _
  rw [this]
theorem p_ne : op2 .ne (.int i) (.int j) h = .ok (.bl (!decide (i = j))) h := by
  have : PyData.eqv (.int i) (.int j) = decide (i = j) := rfl
  show R.ok (W.bl (!_)) h = _
  rw [this]
theorem p_lt : op2 .lt (.int i) (.int j) h = .ok (.bl (decide (i < j))) h := nr rfl
theorem p_le : op2 .le (.int i) (.int j) h = .ok (.bl (decide (i ≤ j))) h := nr rfl
theorem p_gt : op2 .gt (.int i) (.int j) h = .ok (.bl (decide (j < i))) h := nr rfl
theorem p_ge : op2 .ge (.int i) (.int j) h = .ok (.bl (decide (j ≤ i))) h := nr rfl
theorem p_isInt : biS .isInt [.int i] h = .ok (.bl true) h := nr rfl
theorem p_isBool : biS .isBool [.int i] h = .ok (.bl false) h := nr rfl
theorem p_min : biS .min [.int i, .int j] h = .ok (.int (min j i)) h := by
  show R.ok (W.int (if j < i then j else i)) h = _
  congr 2
  omega
theorem p_max : biS .max [.int i, .int j] h = .ok (.int (max j i)) h := by
  show R.ok (W.int (if j > i then j else i)) h = _
  congr 2
  omega
theorem p_lenC {ws : List W} : biS .len [.con ws] h = .ok (.int ws.length) h := nr rfl
theorem p_lenT {ws : List W} : biS .len [.tup ws] h = .ok (.int ws.length) h := nr rfl
theorem p_tru_bl : tru (.bl b) h = .ok b h := nr rfl
theorem p_isB {f : Bool → R W} : isB (.bl b) h f = f b := nr rfl
end
theorem p_asg_nm {i : Nat} {v : W} {env : Env} : asg (.nm i) v env = some (env.set i (some v)) := by
  cases v <;> rfl
theorem p_asg_tp {ts : List Tg} {xs : List W} {env : Env} : asg (.tp ts) (.tup xs) env = asgs ts xs env := by
  cases xs <;> rfl
theorem p_asgM_nm {h : Mem} {i : Nat} {v : W} {env : Env} : asgM h (.nm i) v env = some (env.set i (some v)) := asgM_nm
theorem p_asgM_tp {h : Mem} {ts : List Tg} {xs : List W} {env : Env} : asgM h (.tp ts) (.tup xs) env = asgs ts xs env := asgM_tp
theorem p_asgM_l {h : Mem} {a : Nat} {ws : List W} (e : h[a]? = some (.lst ws)) {ts : List Tg} {env : Env} : asgM h (.tp ts) (.ref a) env = asgs ts ws env := by
  unfold asgM
  simp only [e]
theorem p_asgs_nil {env : Env} : asgs [] [] env = some env := by
  cases env <;> rfl
theorem p_asgs_cons {t : Tg} {ts : List Tg} {x : W} {xs : List W} {env e1 : Env} (h : asg t x env = some e1) : asgs (t :: ts) (x :: xs) env = asgs ts xs e1 := by
  show (match asg t x env with
    | some env' => asgs ts xs env'
    | none => none) = _
  rw [h]
theorem p_asgs_nm {i : Nat} {ts : List Tg} {x : W} {xs : List W} {env : Env} : asgs (.nm i :: ts) (x :: xs) env = asgs ts xs (env.set i (some x)) := p_asgs_cons p_asg_nm
/-- a loop that reaches its end -/
theorem p_isX {h : Mem} {a c : Nat} {fs : List (Nat × W)} (e : h[a]? = some (.exc c fs)) (ms : List Nat) : isX ms (.ref a) h = .ok (.bl (ms.contains c)) h := by
  unfold isX
  simp only [e]
theorem p_getX {h : Mem} {a c f : Nat} {fs : List (Nat × W)} {v : W} (e : h[a]? = some (.exc c fs)) (q : fs.lookup f = some v) : getX f (.ref a) h = .ok v h := by
  unfold getX
  simp only [e, q]
theorem forL_inv {t : Tg} {f : Env → Mem → RS} {w : Walk} (I : Env → Mem → Prop) : ∀ (xs : List W) {env : Env} {h : Mem},
    (∀ x ∈ xs, ∀ env h, I env h → ∃ env1, asg t x env = some env1 ∧ ∃ env2 h2, f env1 h = .nx env2 h2 ∧ I env2 h2) → (∀ env h, I env h → stays h w = true) → I env h → ∃ env' h', forL t f w xs env h = .nx env' h' ∧ I env' h'
  | [], env, h, _, hs, i => ⟨env, h, by
      unfold forL
      rw [if_pos (hs env h i)], i⟩
  | x :: r, env, h, st, hs, i => by
    obtain ⟨env1, e1, env2, h2, e2, i2⟩ := st x List.mem_cons_self env h i
    obtain ⟨env3, h3, e3, i3⟩ := forL_inv I r (fun y hy => st y (List.mem_cons_of_mem _ hy)) hs i2
    refine ⟨env3, h3, ?_, i3⟩
    unfold forL
    rw [if_pos (hs env h i), e1]
    dsimp only
    rw [e2]
    exact e3
end DM

/-! The memory: what stood stands yet; loops with a count; data compared. -/
namespace DM
open PySem
/-- all that stood stands yet -/
def Sub (h h' : Mem) : Prop := ∀ (a : Nat) (o : Ob), h[a]? = some o → h'[a]? = some o
theorem Sub.rfl {h : Mem} : Sub h h := fun _ _ e => e
theorem Sub.trans {a b c : Mem} (p : Sub a b) (q : Sub b c) : Sub a c := fun x o e => q x o (p x o e)
theorem Sub.len {h h' : Mem} (p : Sub h h') : h.length ≤ h'.length := by
  refine Nat.le_of_not_lt fun c => ?_
  have e : h[h'.length]? = some h[h'.length] := List.getElem?_eq_getElem c
  have := p _ _ e
  rw [List.getElem?_eq_none (Nat.le_refl _)] at this
  exact nomatch this
theorem at_lt {h : Mem} {a : Nat} {o : Ob} (e : h[a]? = some o) : a < h.length := by
  obtain ⟨c, _⟩ := List.getElem?_eq_some_iff.mp e
  exact c
theorem at_app {h : Mem} {a : Nat} {o p : Ob} (e : h[a]? = some o) : (h ++ [p])[a]? = some o := by
  rw [List.getElem?_append_left (at_lt e)]
  exact e
theorem at_new {h : Mem} {o : Ob} : (h ++ [o])[h.length]? = some o := by simp
theorem sub_app {h : Mem} {o : Ob} : Sub h (h ++ [o]) := fun _ _ e => at_app e
theorem at_set {h : Mem} {a : Nat} {o p : Ob} (e : h[a]? = some o) : (h.set a p)[a]? = some p := by
  rw [List.getElem?_set_self (at_lt e)]
theorem at_set_ne {h : Mem} {a b : Nat} {o p : Ob} (n : b ≠ a) (e : h[a]? = some o) : (h.set b p)[a]? = some o := by
  rw [List.getElem?_set_ne n]
  exact e
theorem sub_set {h h' : Mem} {a : Nat} {p : Ob} (s : Sub h h') (l : h.length ≤ a) : Sub h (h'.set a p) := fun x o e => at_set_ne (by have := at_lt e; omega) (s x o e)
theorem p_newL {ws : List W} {h : Mem} (l : ws.length ≤ LIM) : newL ws h = .ok (.ref h.length) (h ++ [.lst ws]) := by
  unfold newL
  rw [if_pos l]
  rfl
theorem p_alloc {o : Ob} {h : Mem} : alloc o h = .ok (.ref h.length) (h ++ [o]) := rfl
section
variable {h : Mem} {a : Nat} {ws : List W}
theorem p_getL (e : h[a]? = some (.lst ws)) : getL h (.ref a) = some ws := by
  unfold getL
  simp [e]
theorem p_app (e : h[a]? = some (.lst ws)) (l : ws.length < LIM) (y : W) : bmS .append (.ref a) [y] h = .ok .non (h.set a (.lst (ws ++ [y]))) := by
  unfold bmS
  simp [e, l]
theorem p_recv (e : h[a]? = some (.lst ws)) (f : BM) : recv f (.ref a) h = true := by
  unfold recv isL
  simp [e]
theorem p_lenR (e : h[a]? = some (.lst ws)) : biS .len [.ref a] h = .ok (.int ws.length) h := by
  unfold biS
  simp [e]
theorem p_isListR (e : h[a]? = some (.lst ws)) : biS .isList [.ref a] h = .ok (.bl true) h := by
  unfold biS kindOf
  simp [e]
theorem p_walk (e : h[a]? = some (.lst ws)) : walkOf h (.ref a) = some ⟨ws, some a, []⟩ := by
  unfold walkOf
  simp [p_getL e]
theorem p_stays (e : h[a]? = some (.lst ws)) : stays h ⟨ws, some a, []⟩ = true := by
  unfold stays
  simp [p_getL e]
theorem p_list (e : h[a]? = some (.lst ws)) : biS .list [.ref a] h = .ok (.ref h.length) (h ++ [.lst ws]) := by
  unfold biS seqOf
  simp [p_getL e, p_alloc]
theorem p_cut (e : h[a]? = some (.lst ws)) (lo hi : Option Int) : slice (.ref a) lo hi h = .ok (.ref h.length) (h ++ [.lst (cutW ws lo hi)]) := by
  unfold slice
  simp [p_getL e, p_alloc]
theorem p_cat {b : Nat} {vs : List W} (e : h[a]? = some (.lst ws)) (f : h[b]? = some (.lst vs)) (l : ws.length + vs.length ≤ LIM) : op2 .add (.ref a) (.ref b) h = .ok (.ref h.length) (h ++ [.lst (ws ++ vs)]) := by
  unfold op2
  simp only [e, f]
  exact p_newL (by simpa using l)
theorem at_nat {i : Nat} {v : W} (e : ws[i]? = some v) : atW ws (i : Int) = some v := by
  obtain ⟨c, d⟩ := List.getElem?_eq_some_iff.mp e
  unfold atW ixW L2.ixN
  have h1 : (0 : Int) ≤ (i : Int) := by omega
  have h2 : (i : Int) < (ws.length : Int) := by omega
  simp [c, d]
theorem p_idxR {i : Nat} {v : W} (e : h[a]? = some (.lst ws)) (f : ws[i]? = some v) : index (.ref a) (.int (i : Int)) h = .ok v h := by
  unfold index
  simp [e, at_nat f]
end
/-! ### loops with a count -/
theorem forL_ix {t : Tg} {f : Env → Mem → RS} {w : Walk} (I : Nat → Env → Mem → Prop) : ∀ (xs : List W) (k : Nat) {env : Env} {h : Mem},
    (∀ i x env h, xs[i]? = some x → I (k + i) env h → ∃ env1, asg t x env = some env1 ∧ ∃ env2 h2, f env1 h = .nx env2 h2 ∧ I (k + i + 1) env2 h2) → (∀ i env h, I i env h → stays h w = true) → I k env h → ∃ env' h', forL t f w xs env h = .nx env' h' ∧ I (k + xs.length) env' h'
  | [], k, env, h, _, hs, i => ⟨env, h, by
      unfold forL
      rw [if_pos (hs k env h i)], i⟩
  | x :: r, k, env, h, st, hs, i => by
    obtain ⟨env1, e1, env2, h2, e2, i2⟩ := st 0 x env h rfl i
    obtain ⟨env3, h3, e3, i3⟩ := forL_ix I r (k + 1) (fun j y env h hy hi => by
      have := st (j + 1) y env h hy (by rw [show k + (j + 1) = k + 1 + j by omega]; exact hi)
      rw [show k + (j + 1) = k + 1 + j by omega] at this
      exact this) hs i2
    refine ⟨env3, h3, ?_, by rw [List.length_cons, show k + (r.length + 1) = k + 1 + r.length by omega]; exact i3⟩
    unfold forL
    rw [if_pos (hs k env h i), e1]
    dsimp only
    rw [e2]
    exact e3
/-- a loop that may return -/
theorem forL_ret {t : Tg} {f : Env → Mem → RS} {w : Walk} (I : Nat → Env → Mem → Prop) (J : Nat → W → Mem → Prop) : ∀ (xs : List W) (k : Nat) {env : Env} {h : Mem},
    (∀ i x env h, xs[i]? = some x → I (k + i) env h → ∃ env1, asg t x env = some env1 ∧ ((∃ env2 h2, f env1 h = .nx env2 h2 ∧ I (k + i + 1) env2 h2) ∨ ∃ v h2, f env1 h = .rt v h2 ∧ J (k + i) v h2)) → (∀ i env h, I i env h → stays h w = true) → I k env h →
    (∃ env' h', forL t f w xs env h = .nx env' h' ∧ I (k + xs.length) env' h') ∨ ∃ i v h', i < xs.length ∧ forL t f w xs env h = .rt v h' ∧ J (k + i) v h'
  | [], k, env, h, _, hs, i => .inl ⟨env, h, by
      unfold forL
      rw [if_pos (hs k env h i)], i⟩
  | x :: r, k, env, h, st, hs, i => by
    obtain ⟨env1, e1, o⟩ := st 0 x env h rfl i
    rcases o with ⟨env2, h2, e2, i2⟩ | ⟨v, h2, e2, j2⟩
    · have := forL_ret I J r (k + 1) (fun j y env h hy hi => by
        have := st (j + 1) y env h hy (by rw [show k + (j + 1) = k + 1 + j by omega]; exact hi)
        rw [show k + (j + 1) = k + 1 + j by omega] at this
        exact this) hs i2
      have eq : forL t f w (x :: r) env h = forL t f w r env2 h2 := by
        conv => lhs; unfold forL
        rw [if_pos (hs k env h i), e1]
        dsimp only
        rw [e2]
        rfl
      rw [eq]
      rcases this with ⟨env3, h3, e3, i3⟩ | ⟨n, v, h3, l, e3, j3⟩
      · exact .inl ⟨env3, h3, e3, by rw [List.length_cons, show k + (r.length + 1) = k + 1 + r.length by omega]; exact i3⟩
      · exact .inr ⟨n + 1, v, h3, by simp; omega, e3, by rw [show k + (n + 1) = k + 1 + n by omega]; exact j3⟩
    · refine .inr ⟨0, v, h2, by simp, ?_, j2⟩
      unfold forL
      rw [if_pos (hs k env h i), e1]
      dsimp only
      rw [e2]
      rfl
/-! ### comprehensions -/
theorem compL_ix {t : Tg} {own : List Nat} {f : Env → Mem → R (Option W)} {env : Env} {w : Walk} (I : Nat → List W → Mem → Prop) : ∀ (xs : List W) (k : Nat) {acc : List W} {h : Mem},
    (∀ i x acc h, xs[i]? = some x → I (k + i) acc h → ∃ env1, asg t x (wipe env own) = some env1 ∧ ∃ o h2, f env1 h = .ok o h2 ∧ I (k + i + 1) (acc ++ o.toList) h2) → (∀ i acc h, I i acc h → stays h w = true) → acc.length + xs.length ≤ LIM → I k acc h → ∃ ys h', compL t own f env w xs acc h = .ok ys h' ∧ I (k + xs.length) ys h'
  | [], k, acc, h, _, hs, _, i => ⟨acc, h, by
      unfold compL
      rw [if_pos (hs k acc h i)], i⟩
  | x :: r, k, acc, h, st, hs, l, i => by
    obtain ⟨env1, e1, o, h2, e2, i2⟩ := st 0 x acc h rfl i
    have st' := fun j y acc h (hy : r[j]? = some y) (hi : I (k + 1 + j) acc h) => by
      have := st (j + 1) y acc h hy (by rw [show k + (j + 1) = k + 1 + j by omega]; exact hi)
      rw [show k + (j + 1) = k + 1 + j by omega] at this
      exact this
    cases o with
    | none =>
      obtain ⟨ys, h3, e3, i3⟩ := compL_ix (acc := acc) I r (k + 1) st' hs (by simp at l; omega) (by simpa using i2)
      refine ⟨ys, h3, ?_, by rw [List.length_cons, show k + (r.length + 1) = k + 1 + r.length by omega]; exact i3⟩
      unfold compL
      rw [if_pos (hs k acc h i), e1]
      dsimp only
      rw [e2]
      exact e3
    | some y =>
      obtain ⟨ys, h3, e3, i3⟩ := compL_ix (w := w) (acc := acc ++ [y]) (h := h2) I r (k + 1) st' hs (by rw [List.length_append]; simp at l ⊢; omega) i2
      refine ⟨ys, h3, ?_, by rw [List.length_cons, show k + (r.length + 1) = k + 1 + r.length by omega]; exact i3⟩
      unfold compL
      rw [if_pos (hs k acc h i), e1]
      dsimp only
      rw [e2, R.bind_ok]
      dsimp only
      rw [if_pos (by simp at l; omega)]
      exact e3
/-- one item -/
def cf (cs : Tab) (c : Eo) (e : E) (env : Env) (h : Mem) : R (Option W) := (evo cs c env h).bind fun o h => match o with
  | none => (ev cs e env h).bind fun y h => .ok (some y) h
  | some v => (tru v h).bind fun b h => if b then (ev cs e env h).bind fun y h => .ok (some y) h else .ok none h
theorem ev_comp {cs : Tab} {t : Tg} {it : It} {own : List Nat} {c : Eo} {e : E} {env : Env} {h : Mem} : ev cs (.comp t it own c e) env h = (evi cs it env h).bind fun w h => (compL t own (cf cs c e) env w w.xs [] h).calm.bind fun ys h => alloc (.lst ys) h := by
  conv => lhs; unfold ev
  rfl
/-- a comprehension without a condition -/
theorem comp_no {cs : Tab} {t : Tg} {it : It} {own : List Nat} {e : E} {env : Env} {h h1 : Mem} {w : Walk} (I : Nat → List W → Mem → Prop) (hw : evi cs it env h = .ok w h1)
    (st : ∀ i x acc h, w.xs[i]? = some x → I i acc h → ∃ env1, asg t x (wipe env own) = some env1 ∧ ∃ y h2, ev cs e env1 h = .ok y h2 ∧ I (i + 1) (acc ++ [y]) h2)
    (hs : ∀ i acc h, I i acc h → stays h w = true) (hl : w.xs.length ≤ LIM) (h0 : I 0 [] h1) :
    ∃ ys h2, ev cs (.comp t it own .no e) env h = .ok (.ref h2.length) (h2 ++ [.lst ys]) ∧ I w.xs.length ys h2 := by
  obtain ⟨ys, h2, e2, i2⟩ := compL_ix (env := env) (own := own) (t := t) (w := w) (f := cf cs .no e) I w.xs 0 (acc := []) (h := h1)
    (by
      intro i x acc h hx hi
      obtain ⟨env1, e1, y, h2, e2, i2⟩ := st i x acc h hx (by simpa using hi)
      refine ⟨env1, e1, some y, h2, ?_, by simpa using i2⟩
      simp [cf, evo, e2]) hs (by simpa using hl) h0
  refine ⟨ys, h2, ?_, by simpa using i2⟩
  rw [ev_comp, hw, R.bind_ok, e2, R.calm_ok, R.bind_ok]
  rfl
theorem comp_so {cs : Tab} {t : Tg} {it : It} {own : List Nat} {c e : E} {env : Env} {h h1 : Mem} {w : Walk} (I : Nat → List W → Mem → Prop) (hw : evi cs it env h = .ok w h1)
    (st : ∀ i x acc h, w.xs[i]? = some x → I i acc h → ∃ env1, asg t x (wipe env own) = some env1 ∧ ∃ b h1, (ev cs c env1 h).bind tru = .ok b h1 ∧ ((b = true ∧ ∃ y h2, ev cs e env1 h1 = .ok y h2 ∧ I (i + 1) (acc ++ [y]) h2) ∨ (b = false ∧ I (i + 1) acc h1)))
    (hs : ∀ i acc h, I i acc h → stays h w = true) (hl : w.xs.length ≤ LIM) (h0 : I 0 [] h1) :
    ∃ ys h2, ev cs (.comp t it own (.so c) e) env h = .ok (.ref h2.length) (h2 ++ [.lst ys]) ∧ I w.xs.length ys h2 := by
  obtain ⟨ys, h2, e2, i2⟩ := compL_ix (env := env) (own := own) (t := t) (w := w) (f := cf cs (.so c) e) I w.xs 0 (acc := []) (h := h1)
    (by
      intro i x acc h hx hi
      obtain ⟨env1, e1, b, h3, e3, o⟩ := st i x acc h hx (by simpa using hi)
      refine ⟨env1, e1, ?_⟩
      cases he : ev cs c env1 h with
      | ok v h4 =>
        rw [he, R.bind_ok] at e3
        rcases o with ⟨rfl, y, h2, e2, i2⟩ | ⟨rfl, i2⟩
        · refine ⟨some y, h2, ?_, by simpa using i2⟩
          simp [cf, evo, he, e3, e2]
        · refine ⟨none, h3, ?_, by simpa using i2⟩
          simp [cf, evo, he, e3]
      | ex x h4 => rw [he] at e3; exact nomatch e3
      | bad => rw [he] at e3; exact nomatch e3) hs (by simpa using hl) h0
  refine ⟨ys, h2, ?_, by simpa using i2⟩
  rw [ev_comp, hw, R.bind_ok, e2, R.calm_ok, R.bind_ok]
  rfl
/-! ### data compared -/
mutual
def clean : PyData → Bool
  | .none => true
  | .int _ => true
  | .str _ => true
  | .list xs => cleans xs
  | .tuple xs => cleans xs
  | _ => false
def cleans : List PyData → Bool
  | [] => true
  | x :: r => clean x && cleans r
end
mutual
theorem eqv_iff : ∀ d e : PyData, clean d = true → clean e = true → (PyData.eqv d e = true ↔ d = e)
  | .none, e, _, k => by cases e <;> simp [PyData.eqv]
  | .int i, e, c, k => by cases e <;> simp_all [PyData.eqv, clean]
  | .str i, e, _, k => by cases e <;> simp [PyData.eqv]
  | .list xs, e, c, k => by
    cases e <;> simp [PyData.eqv]
    exact eqvs_iff xs _ (by simpa [clean] using c) (by simpa [clean] using k)
  | .tuple xs, e, c, k => by
    cases e <;> simp [PyData.eqv]
    exact eqvs_iff xs _ (by simpa [clean] using c) (by simpa [clean] using k)
  | .bool _, _, c, _ => by simp [clean] at c
  | .dict _, _, c, _ => by simp [clean] at c
theorem eqvs_iff : ∀ d e : List PyData, cleans d = true → cleans e = true → (PyData.eqvAll d e = true ↔ d = e)
  | [], e, _, _ => by cases e <;> simp [PyData.eqvAll]
  | x :: r, [], _, _ => by simp [PyData.eqvAll]
  | x :: r, y :: s, c, k => by
    have c1 : clean x = true ∧ cleans r = true := by simpa [cleans] using c
    have c2 : clean y = true ∧ cleans s = true := by simpa [cleans] using k
    simp [PyData.eqvAll, eqv_iff x y c1.1 c2.1, eqvs_iff r s c1.2 c2.2]
end
/-- w is d, in the memory h -/
def Rd (h : Mem) (w : W) (d : PyData) : Prop := toD h 30 w = some d
theorem eqW_rd {h : Mem} {x y : W} {d e : PyData} (p : Rd h x d) (q : Rd h y e) (c : clean d = true) (k : clean e = true) [Decidable (d = e)] : eqW x y h = .ok (decide (d = e)) h := by
  unfold eqW
  rw [p, q]
  dsimp only
  congr 1
  have := eqv_iff d e c k
  by_cases z : d = e
  · rw [this.mpr z]
    simp [z]
  · have : PyData.eqv d e = false := by
      cases hh : PyData.eqv d e with
      | true => exact absurd (this.mp hh) z
      | false => rfl
    rw [this]
    simp [z]
theorem p_eqR {h : Mem} {x y : W} {d e : PyData} (p : Rd h x d) (q : Rd h y e) (c : clean d = true) (k : clean e = true) [Decidable (d = e)] : op2 .eq x y h = .ok (.bl (decide (d = e))) h := by
  show bR (eqW x y h) = _
  rw [eqW_rd p q c k]
  rfl
theorem p_neR {h : Mem} {x y : W} {d e : PyData} (p : Rd h x d) (q : Rd h y e) (c : clean d = true) (k : clean e = true) [Decidable (d = e)] : op2 .ne x y h = .ok (.bl (!decide (d = e))) h := by
  show bR ((eqW x y h).bind _) = _
  rw [eqW_rd p q c k]
  rfl
mutual
/-- no dict -/
def noDic : PyData → Bool
  | .dict _ => false
  | .list xs => noDics xs
  | .tuple xs => noDics xs
  | _ => true
def noDics : List PyData → Bool
  | [] => true
  | x :: r => noDic x && noDics r
end
mutual
theorem eqv_self : ∀ d : PyData, noDic d = true → PyData.eqv d d = true
  | .none, _ => rfl
  | .int i, _ => by simp [PyData.eqv]
  | .str _, _ => by simp [PyData.eqv]
  | .bool _, _ => by simp [PyData.eqv]
  | .list xs, c => by
    simp [PyData.eqv]
    exact eqvs_self xs (by simpa [noDic] using c)
  | .tuple xs, c => by
    simp [PyData.eqv]
    exact eqvs_self xs (by simpa [noDic] using c)
  | .dict _, c => by simp [noDic] at c
theorem eqvs_self : ∀ d : List PyData, noDics d = true → PyData.eqvAll d d = true
  | [], _ => by simp [PyData.eqvAll]
  | x :: r, c => by
    have c1 : noDic x = true ∧ noDics r = true := by simpa [noDics] using c
    simp [PyData.eqvAll, eqv_self x c1.1, eqvs_self r c1.2]
end
/-- a value and itself -/
theorem p_eq_self {h : Mem} {x : W} {d : PyData} (p : toD h 30 x = some d) (c : noDic d = true) : op2 .eq x x h = .ok (.bl true) h := by
  show bR (eqW x x h) = _
  unfold eqW
  rw [p]
  dsimp only
  rw [eqv_self d c]
  rfl
/-! ### rows of intsW, of tuples of intsW -/
theorem mapM_some {α β : Type} {f : α → Option β} {g : α → β} : ∀ {xs : List α}, (∀ x ∈ xs, f x = some (g x)) → xs.mapM f = some (xs.map g)
  | [], _ => rfl
  | x :: r, k => by
    rw [List.mapM_cons, k x List.mem_cons_self, mapM_some fun y hy => k y (List.mem_cons_of_mem _ hy)]
    rfl
/-- plain data as a value (lists are not in it) -/
def intsW (xs : List Int) : List W := xs.map .int
theorem rd_ints {h : Mem} {a : Nat} {xs : List Int} (e : h[a]? = some (.lst (intsW xs))) : Rd h (.ref a) (.list (xs.map .int)) := by
  unfold Rd toD
  rw [p_getL e]
  dsimp only
  unfold intsW
  rw [mapM_some (g := fun w => match w with | .int i => PyData.int i | _ => .none)]
  · simp
  · intro x hx
    obtain ⟨i, _, rfl⟩ := List.mem_map.mp hx
    simp [toD]
theorem clean_ints : ∀ xs : List Int, clean (.list (xs.map .int)) = true
  | [] => rfl
  | x :: r => by
    have := clean_ints r
    simp [clean, cleans] at this ⊢
    exact this
theorem ints_inj {xs ys : List Int} : (PyData.list (xs.map .int) = .list (ys.map .int)) ↔ xs = ys := by
  constructor
  · intro e
    have e := PyData.list.inj e
    exact (List.map_inj_right (fun _ _ e => PyData.int.inj e)).mp e
  · rintro rfl
    rfl
theorem p_eq_ints {h : Mem} {a b : Nat} {xs ys : List Int} (e : h[a]? = some (.lst (intsW xs))) (f : h[b]? = some (.lst (intsW ys))) : op2 .eq (.ref a) (.ref b) h = .ok (.bl (decide (xs = ys))) h := by
  have : Decidable (PyData.list (xs.map .int) = .list (ys.map .int)) := decidable_of_iff _ ints_inj.symm
  rw [p_eqR (rd_ints e) (rd_ints f) (clean_ints _) (clean_ints _)]
  by_cases z : xs = ys
  · simp [z]
  · rw [decide_eq_false (fun q => z (ints_inj.mp q)), decide_eq_false z]
theorem p_ne_ints {h : Mem} {a b : Nat} {xs ys : List Int} (e : h[a]? = some (.lst (intsW xs))) (f : h[b]? = some (.lst (intsW ys))) : op2 .ne (.ref a) (.ref b) h = .ok (.bl (!decide (xs = ys))) h := by
  have : Decidable (PyData.list (xs.map .int) = .list (ys.map .int)) := decidable_of_iff _ ints_inj.symm
  rw [p_neR (rd_ints e) (rd_ints f) (clean_ints _) (clean_ints _)]
  by_cases z : xs = ys
  · simp [z]
  · rw [decide_eq_false (fun q => z (ints_inj.mp q)), decide_eq_false z]
theorem ints_app (xs ys : List Int) : intsW xs ++ intsW ys = intsW (xs ++ ys) := (List.map_append ..).symm
theorem ints_snoc (xs : List Int) (y : Int) : intsW xs ++ [.int y] = intsW (xs ++ [y]) := by simp [intsW]
theorem ints_len (xs : List Int) : (intsW xs).length = xs.length := by simp [intsW]
theorem ints_get {xs : List Int} {i : Nat} {v : W} (e : (intsW xs)[i]? = some v) : ∃ z, xs[i]? = some z ∧ v = .int z := by
  unfold intsW at e
  rw [List.getElem?_map] at e
  cases h : xs[i]? with
  | none => rw [h] at e; exact nomatch e
  | some z =>
    rw [h] at e
    exact ⟨z, rfl, (Option.some.inj e).symm⟩
theorem ints_at {xs : List Int} {i : Nat} {z : Int} (e : xs[i]? = some z) : (intsW xs)[i]? = some (.int z) := by
  unfold intsW
  rw [List.getElem?_map, e]
  rfl
theorem cut_map {α β : Type} (g : α → β) (xs : List α) (lo hi : Option Int) : cutW (xs.map g) lo hi = (cutW xs lo hi).map g := by
  unfold cutW
  rw [List.length_map, List.map_take, List.map_drop]
theorem ints_cut (xs : List Int) (lo hi : Option Int) : cutW (intsW xs) lo hi = intsW (cutW xs lo hi) := cut_map _ _ _ _
/-- all of them -/
theorem p_all {h : Mem} {a : Nat} {bs : List Bool} (e : h[a]? = some (.lst (bs.map .bl))) : biS .all [.ref a] h = .ok (.bl (bs.all id)) h := by
  have b : ∀ bs : List Bool, blsOf (bs.map .bl) = some bs := fun bs => by
    induction bs with
    | nil => rfl
    | cons x r ih => simp [blsOf, ih]
  unfold biS
  simp [p_getL e, b]
theorem p_any {h : Mem} {a : Nat} {bs : List Bool} (e : h[a]? = some (.lst (bs.map .bl))) : biS .any [.ref a] h = .ok (.bl (bs.any id)) h := by
  have b : ∀ bs : List Bool, blsOf (bs.map .bl) = some bs := fun bs => by
    induction bs with
    | nil => rfl
    | cons x r ih => simp [blsOf, ih]
  unfold biS
  simp [p_getL e, b]
/-! ### new lists, under names -/
section
variable {h : Mem} {a : Nat} {ws : List W}
theorem new_ex (l : ws.length ≤ LIM) : ∃ b h', newL ws h = .ok (.ref b) h' ∧ Sub h h' ∧ h'[b]? = some (.lst ws) ∧ h.length ≤ b := ⟨_, _, p_newL l, sub_app, at_new, Nat.le_refl _⟩
theorem list_ex (e : h[a]? = some (.lst ws)) : ∃ b h', biS .list [.ref a] h = .ok (.ref b) h' ∧ Sub h h' ∧ h'[b]? = some (.lst ws) ∧ h.length ≤ b := ⟨_, _, p_list e, sub_app, at_new, Nat.le_refl _⟩
theorem cut_ex (e : h[a]? = some (.lst ws)) (lo hi : Option Int) : ∃ b h', slice (.ref a) lo hi h = .ok (.ref b) h' ∧ Sub h h' ∧ h'[b]? = some (.lst (cutW ws lo hi)) ∧ h.length ≤ b := ⟨_, _, p_cut e lo hi, sub_app, at_new, Nat.le_refl _⟩
theorem cutc_ex (lo hi : Option Int) : ∃ b h', slice (.con ws) lo hi h = .ok (.ref b) h' ∧ Sub h h' ∧ h'[b]? = some (.lst (cutW ws lo hi)) ∧ h.length ≤ b := ⟨_, _, rfl, sub_app, at_new, Nat.le_refl _⟩
theorem cat_ex {b : Nat} {vs : List W} (e : h[a]? = some (.lst ws)) (f : h[b]? = some (.lst vs)) (l : ws.length + vs.length ≤ LIM) : ∃ c h', op2 .add (.ref a) (.ref b) h = .ok (.ref c) h' ∧ Sub h h' ∧ h'[c]? = some (.lst (ws ++ vs)) ∧ h.length ≤ c := ⟨_, _, p_cat e f l, sub_app, at_new, Nat.le_refl _⟩
theorem app_ex (e : h[a]? = some (.lst ws)) (l : ws.length < LIM) (y : W) : ∃ h', bmS .append (.ref a) [y] h = .ok .non h' ∧ h'[a]? = some (.lst (ws ++ [y])) ∧ (∀ b o, b ≠ a → h[b]? = some o → h'[b]? = some o) ∧ h'.length = h.length ∧ (∀ h0, Sub h0 h → h0.length ≤ a → Sub h0 h') :=
  ⟨_, p_app e l y, at_set e, fun b o n f => at_set_ne (Ne.symm n) f, List.length_set, fun _ s l => sub_set s l⟩
end
theorem cut_from {α : Type} (xs : List α) (k : Nat) : cutW xs (some (k : Int)) none = xs.drop k := by
  unfold cutW
  rw [HT.sIx_nat, HT.sIx_none]
  by_cases c : k ≤ xs.length
  · rw [Nat.min_eq_left c, List.take_of_length_le (by rw [List.length_drop]; omega)]
  · rw [Nat.min_eq_right (by omega), List.drop_eq_nil_of_le (Nat.le_refl _), List.drop_eq_nil_of_le (by omega), List.take_nil]
theorem cut_len {α : Type} (xs : List α) (lo hi : Option Int) : (cutW xs lo hi).length ≤ xs.length := by
  unfold cutW
  rw [List.length_take, List.length_drop]
  omega
theorem p_rng0 {n : Int} (l : n ≤ 1000000000000) (g : -1000000000000 ≤ n) : rngOf 0 n 1 = some ⟨upL 0 n.toNat, none, []⟩ := by
  unfold rngOf far
  rw [if_neg (by simp; omega), if_pos rfl, Int.sub_zero]
theorem p_rng {m n : Int} (l : n ≤ 1000000000000) (g : -1000000000000 ≤ n) (l2 : m ≤ 1000000000000) (g2 : -1000000000000 ≤ m) : rngOf m n 1 = some ⟨upL m (n - m).toNat, none, []⟩ := by
  unfold rngOf far
  rw [if_neg (by simp; omega), if_pos rfl]
theorem up_get {lo : Int} {n i : Nat} {x : W} (e : (upL lo n)[i]? = some x) : i < n ∧ x = .int (lo + (i : Nat)) := by
  unfold upL at e
  rw [List.getElem?_map] at e
  by_cases c : i < n
  · rw [List.getElem?_range c] at e
    exact ⟨c, (Option.some.inj e).symm⟩
  · rw [List.getElem?_eq_none (by simp; omega)] at e
    exact nomatch e
theorem up_len {lo : Int} {n : Nat} : (upL lo n).length = n := by simp [upL]
theorem none_stays {h : Mem} {ws : List W} : stays h ⟨ws, none, []⟩ = true := rfl
/-! ### instances -/
/-- all but what stands at a is as it was -/
structure Oth (a : Nat) (h h' : Mem) : Prop where
  at_ : ∀ (b : Nat) (o : Ob), b ≠ a → h[b]? = some o → h'[b]? = some o
  len : h'.length = h.length
theorem Oth.rfl {a : Nat} {h : Mem} : Oth a h h := ⟨fun _ _ _ e => e, Eq.refl _⟩
theorem Oth.trans {a : Nat} {h h1 h2 : Mem} (p : Oth a h h1) (q : Oth a h1 h2) : Oth a h h2 := ⟨fun b o n e => q.at_ b o n (p.at_ b o n e), q.len.trans p.len⟩
theorem Oth.sub {a : Nat} {h0 h h' : Mem} (p : Oth a h h') (s : Sub h0 h) (l : h0.length ≤ a) : Sub h0 h' := fun b o e => p.at_ b o (by have := at_lt e; omega) (s b o e)
theorem oth_set {a : Nat} {h : Mem} {o : Ob} : Oth a h (h.set a o) := ⟨fun b p n e => at_set_ne (Ne.symm n) e, List.length_set⟩
section
variable {h : Mem} {a c f : Nat} {fs : List (Nat × W)} {v : W} {cl : List Nat}
theorem st_ex (e : h[a]? = some (.ins c fs)) (hc : cl.contains c = true) (l : fs.length < 1000) (f : Nat) (v : W) : ∃ h', storeF cl (.ref a) f v h = some h' ∧ h'[a]? = some (.ins c (putF fs f v)) ∧ Oth a h h' := by
  refine ⟨h.set a (.ins c (putF fs f v)), ?_, at_set e, oth_set⟩
  unfold storeF
  simp only [e, hc, l, decide_true, Bool.and_self, if_true]
theorem gt_of (e : h[a]? = some (.ins c fs)) (hc : cl.contains c = true) (q : fs.lookup f = some v) : getF cl f (.ref a) h = .ok v h := by
  unfold getF
  simp only [e, hc, q, if_true]
theorem isI_of (e : h[a]? = some (.ins c fs)) : isI c (.ref a) h = true := by
  unfold isI
  simp [e]
end
theorem ad_ex {h : Mem} {a c f : Nat} {fs : List (Nat × W)} {u : Int} {cl : List Nat} (e : h[a]? = some (.ins c fs)) (hc : cl.contains c = true) (l : fs.length < 1000) (q : fs.lookup f = some (.int u)) (d : Int) : ∃ h', addF cl (.ref a) f d h = some h' ∧ h'[a]? = some (.ins c (putF fs f (.int (u + d)))) ∧ Oth a h h' := by
  refine ⟨h.set a (.ins c (putF fs f (.int (u + d)))), ?_, at_set e, oth_set⟩
  unfold addF
  simp only [e, hc, l, q, decide_true, Bool.and_self, if_true]
theorem si_ex {h : Mem} {r i : Nat} {ws : List W} (e : h[r]? = some (.lst ws)) (l : i < ws.length) (v : W) : ∃ h', storeAt (.ref r) (.int (i : Int)) v h = some h' ∧ h'[r]? = some (.lst (ws.set i v)) ∧ Oth r h h' := by
  refine ⟨h.set r (.lst (ws.set i v)), ?_, at_set e, oth_set⟩
  have : ixW ws.length (i : Int) = some i := by
    unfold ixW L2.ixN
    rw [if_pos (by omega), if_pos (by omega), Int.toNat_natCast]
  unfold storeAt
  simp only [e, this]
end DM

/-! What holds behind a step, from the end: posts; memories under names; loops. -/
namespace DM
open PySem
/-! ### posts -/
class Po (α : Type) where
  ok : α → Mem → Prop
  ex : Ex → Mem → Prop
class PoS where
  nx : Env → Mem → Prop
  rt : W → Mem → Prop
  ex : Ex → Env → Mem → Prop
def R.wp {α : Type} (r : R α) [p : Po α] : Prop := match r with
  | .ok a h => p.ok a h
  | .ex x h => p.ex x h
  | .bad => False
def RS.wp (r : RS) [p : PoS] : Prop := match r with
  | .nx env h => p.nx env h
  | .rt w h => p.rt w h
  | .ex x env h => p.ex x env h
  | .bad => False
section
variable {α β : Type} {Q : α → Mem → Prop} {E : Ex → Mem → Prop} {N : Env → Mem → Prop} {P : W → Mem → Prop} {F : Ex → Env → Mem → Prop}
theorem w_ok {a : α} {h : Mem} : (R.ok a h).wp (p := ⟨Q, E⟩) = Q a h := nr rfl
theorem w_ex {x : Ex} {h : Mem} : (R.ex x h : R α).wp (p := ⟨Q, E⟩) = E x h := nr rfl
theorem w_bad : (R.bad : R α).wp (p := ⟨Q, E⟩) = False := nr rfl
theorem w_bind {r : R β} {f : β → Mem → R α} : (r.bind f).wp (p := ⟨Q, E⟩) = r.wp (p := ⟨(fun a h => (f a h).wp (p := ⟨Q, E⟩)), E⟩) := by
  cases r <;> rfl
theorem w_calm {r : R α} : r.calm.wp (p := ⟨Q, E⟩) = r.wp (p := ⟨Q, (fun _ _ => False)⟩) := by
  cases r <;> rfl
theorem w_st {r : R β} {env : Env} {f : β → Mem → RS} : (r.st env f).wp (p := ⟨N, P, F⟩) = r.wp (p := ⟨(fun a h => (f a h).wp (p := ⟨N, P, F⟩)), (fun x h => F x env h)⟩) := by
  cases r <;> rfl
theorem w_nx {env : Env} {h : Mem} : (RS.nx env h).wp (p := ⟨N, P, F⟩) = N env h := nr rfl
theorem w_rt {w : W} {h : Mem} : (RS.rt w h).wp (p := ⟨N, P, F⟩) = P w h := nr rfl
theorem w_xe {x : Ex} {env : Env} {h : Mem} : (RS.ex x env h).wp (p := ⟨N, P, F⟩) = F x env h := nr rfl
theorem w_bd : RS.bad.wp (p := ⟨N, P, F⟩) = False := nr rfl
theorem w_then {r : RS} {f : Env → Mem → RS} : (r.then f).wp (p := ⟨N, P, F⟩) = r.wp (p := ⟨(fun env h => (f env h).wp (p := ⟨N, P, F⟩)), P, F⟩) := by
  cases r <;> rfl
theorem w_catch {r : RS} {f : Ex → Env → Mem → RS} : (r.catch f).wp (p := ⟨N, P, F⟩) = r.wp (p := ⟨N, P, (fun x env h => (f x env h).wp (p := ⟨N, P, F⟩))⟩) := by
  cases r <;> rfl
theorem w_gone {r : RS} {i : Option Nat} : (r.gone i).wp (p := ⟨N, P, F⟩) = r.wp (p := ⟨(fun env h => N (putE env i none) h), P, (fun _ _ _ => False)⟩) := by
  cases r <;> rfl
theorem w_fn {r : RS} {Q : W → Mem → Prop} : (fnOf r).wp (p := ⟨Q, E⟩) = r.wp (p := ⟨(fun _ h => Q .non h), Q, (fun x _ h => E x h)⟩) := by
  cases r <;> rfl
theorem w_if {c : Prop} [Decidable c] {a b : R α} : (if c then a else b).wp (p := ⟨Q, E⟩) = ((c → a.wp (p := ⟨Q, E⟩)) ∧ (¬ c → b.wp (p := ⟨Q, E⟩))) := by
  by_cases h : c <;> simp [h]
theorem w_ifS {c : Prop} [Decidable c] {a b : RS} : (if c then a else b).wp (p := ⟨N, P, F⟩) = ((c → a.wp (p := ⟨N, P, F⟩)) ∧ (¬ c → b.wp (p := ⟨N, P, F⟩))) := by
  by_cases h : c <;> simp [h]
theorem R.wp.mono {r : R α} {Q' : α → Mem → Prop} {E' : Ex → Mem → Prop} (w : r.wp (p := ⟨Q', E'⟩)) (q : ∀ a h, Q' a h → Q a h) (e : ∀ x h, E' x h → E x h) : r.wp (p := ⟨Q, E⟩) := by
  cases r with
  | ok a h => exact q a h w
  | ex x h => exact e x h w
  | bad => exact w
theorem wp_ext {r : R α} {Q Q' : α → Mem → Prop} (q : ∀ a h, Q a h = Q' a h) : r.wp (p := ⟨Q, E⟩) = r.wp (p := ⟨Q', E⟩) := by
  have : Q = Q' := funext fun a => funext fun h => q a h
  rw [this]
/-- raises nothing -/
def none_ : Ex → Mem → Prop := fun _ _ => False
theorem R.wp.mn {r : R α} {Q' : α → Mem → Prop} (w : r.wp (p := ⟨Q', none_⟩)) (q : ∀ a h, Q' a h → Q a h) : r.wp (p := ⟨Q, E⟩) := w.mono q fun _ _ z => z.elim
theorem RS.wp.mono {r : RS} {N' : Env → Mem → Prop} {P' : W → Mem → Prop} {F' : Ex → Env → Mem → Prop} (w : r.wp (p := ⟨N', P', F'⟩)) (n : ∀ a h, N' a h → N a h) (q : ∀ a h, P' a h → P a h) (e : ∀ x a h, F' x a h → F x a h) : r.wp (p := ⟨N, P, F⟩) := by
  cases r with
  | nx a h => exact n a h w
  | rt a h => exact q a h w
  | ex x a h => exact e x a h w
  | bad => exact w
/-- it returns -/
theorem RS.wp.rt {r : RS} {P' : W → Mem → Prop} (w : r.wp (p := ⟨fun _ _ => False, P', fun _ _ _ => False⟩)) (q : ∀ a h, P' a h → P a h) : r.wp (p := ⟨N, P, F⟩) := w.mono (fun _ _ z => z.elim) q fun _ _ _ z => z.elim
theorem R.wp.get {r : R α} {Q' : α → Mem → Prop} (w : r.wp (p := ⟨Q', none_⟩)) : ∃ a h, r = .ok a h ∧ Q' a h := by
  cases r with
  | ok a h => exact ⟨a, h, rfl, w⟩
  | ex x h => exact w.elim
  | bad => exact w.elim
theorem R.wp_of {r : R α} {a : α} {h : Mem} (e : r = .ok a h) (q : Q a h) : r.wp (p := ⟨Q, E⟩) := by
  rw [e]
  exact q
end
/-! ### memories -/
/-- unlike ones -/
def Dis : List Nat → Prop
  | [] => True
  | a :: r => (∀ b ∈ r, ¬ a = b ∧ ¬ b = a) ∧ Dis r
/-- all but what is named stands as it was -/
structure Kp (A : List Nat) (h h' : Mem) : Prop where
  get : ∀ a : Nat, (h[a]?).isSome = true → a ∉ A → h'[a]? = h[a]?
  so : ∀ a : Nat, (h[a]?).isSome = true → (h'[a]?).isSome = true
theorem Kp.rfl {A : List Nat} {h : Mem} : Kp A h h := ⟨fun _ _ _ => Eq.refl _, fun _ z => z⟩
theorem Kp.len {A : List Nat} {h h' : Mem} (k : Kp A h h') : h.length ≤ h'.length := by
  refine Nat.le_of_not_lt fun c => ?_
  have := k.so h'.length (by rw [List.getElem?_eq_getElem c]; rfl)
  rw [List.getElem?_eq_none (Nat.le_refl _)] at this
  exact nomatch this
theorem Kp.trans {A B : List Nat} {h h1 h2 : Mem} (k : Kp A h h1) (l : Kp B h1 h2) (s : ∀ b ∈ B, b ∈ A ∨ h.length ≤ b) : Kp A h h2 :=
  ⟨fun a q n => by
    rw [l.get a (k.so a q) (fun z => (s a z).elim n fun y => by rw [List.getElem?_eq_none y] at q; exact nomatch q)]
    exact k.get a q n, fun a q => l.so a (k.so a q)⟩
theorem Kp.tr {A B : List Nat} {h h1 h2 : Mem} (l : Kp B h1 h2) (k : Kp A h h1) (s : ∀ b ∈ B, b ∈ A ∨ h.length ≤ b) : Kp A h h2 := k.trans l s
theorem Kp.sub {A B : List Nat} {h h1 : Mem} (k : Kp A h h1) (s : ∀ b ∈ A, b ∈ B) : Kp B h h1 := ⟨fun a q n => k.get a q fun z => n (s a z), k.so⟩
theorem Kp.at {A : List Nat} {h h' : Mem} (k : Kp A h h') {a : Nat} {o : Ob} (e : h[a]? = some o) (n : a ∉ A) : h'[a]? = some o := by
  rw [k.get a (by rw [e]; rfl) n, e]
theorem get_set {h : Mem} {a b : Nat} {o : Ob} : (h.set a o)[b]? = if a = b then (h[b]?).map (fun _ => o) else h[b]? := by
  rw [List.getElem?_set]
  split
  · rename_i e
    subst e
    by_cases l : a < h.length
    · simp [l]
    · simp [l]
  · rfl
theorem get_app {h : Mem} {b : Nat} {o : Ob} : (h ++ [o])[b]? = if b = h.length then some o else h[b]? := by
  by_cases c : b = h.length
  · subst c
    simp
  · rw [if_neg c]
    by_cases l : b < h.length
    · exact List.getElem?_append_left l
    · rw [List.getElem?_eq_none (by simp; omega), List.getElem?_eq_none (by omega)]
theorem ne_len {h : Mem} {b k : Nat} (q : (h[b]?).isSome = true) : (b = h.length + k) = False := by
  refine eq_false fun e => ?_
  rw [List.getElem?_eq_none (by omega)] at q
  exact nomatch q
theorem ne_len0 {h : Mem} {b : Nat} (q : (h[b]?).isSome = true) : (b = h.length) = False := ne_len (k := 0) q
theorem len_ne {h : Mem} {b k : Nat} (q : (h[b]?).isSome = true) : (h.length + k = b) = False := by
  rw [← ne_len (k := k) q]
  exact propext eq_comm
theorem len_ne0 {h : Mem} {b : Nat} (q : (h[b]?).isSome = true) : (h.length = b) = False := len_ne (k := 0) q
theorem ne_len2 {h : Mem} {b k l : Nat} (q : (h[b]?).isSome = true) : (b = h.length + k + l) = False := by
  rw [Nat.add_assoc]
  exact ne_len q
theorem ne_len3 {h : Mem} {b k l m : Nat} (q : (h[b]?).isSome = true) : (b = h.length + k + l + m) = False := by
  rw [Nat.add_assoc]
  exact ne_len2 q
theorem len_ne2 {h : Mem} {b k l : Nat} (q : (h[b]?).isSome = true) : (h.length + k + l = b) = False := by
  rw [Nat.add_assoc]
  exact len_ne q
theorem len_ne3 {h : Mem} {b k l m : Nat} (q : (h[b]?).isSome = true) : (h.length + k + l + m = b) = False := by
  rw [Nat.add_assoc]
  exact len_ne2 q
theorem se_1 {n a : Nat} : (n = n + (a + 1)) = False := eq_false (by omega)
theorem se_2 {n a b : Nat} : (n = n + (a + 1) + (b + 1)) = False := eq_false (by omega)
theorem se_3 {n a b c : Nat} : (n = n + (a + 1) + (b + 1) + (c + 1)) = False := eq_false (by omega)
theorem se_4 {n a b c d : Nat} : (n = n + (a + 1) + (b + 1) + (c + 1) + (d + 1)) = False := eq_false (by omega)
theorem es_2 {n a b : Nat} : (n + (a + 1) + (b + 1) = n) = False := eq_false (by omega)
theorem es_3 {n a b c : Nat} : (n + (a + 1) + (b + 1) + (c + 1) = n) = False := eq_false (by omega)
theorem es_4 {n a b c d : Nat} : (n + (a + 1) + (b + 1) + (c + 1) + (d + 1) = n) = False := eq_false (by omega)
theorem keeps_set {A : List Nat} {h m : Mem} {a : Nat} {o : Ob} (k : Kp A h m) (s : a ∈ A ∨ h.length ≤ a) : Kp A h (m.set a o) :=
  k.trans (B := [a]) ⟨fun b q n => by
    rw [get_set, if_neg (fun z => n (by rw [z]; exact .head _))], fun b q => by
    rw [get_set]
    split <;> simp [q]⟩ (by simpa using s)
theorem keeps_app {A : List Nat} {h m : Mem} {o : Ob} (k : Kp A h m) : Kp A h (m ++ [o]) :=
  k.trans (B := []) ⟨fun b q n => by
    rw [get_app, if_neg (fun z => by rw [z, List.getElem?_eq_none (Nat.le_refl _)] at q; exact nomatch q)], fun b q => by
    rw [get_app]
    split <;> simp [q]⟩ (by simp)
theorem no_ne {h : Mem} {a b : Nat} (n : h.length ≤ b) (q : (h[a]?).isSome = true) : (a = b) = False := eq_false fun e => by
  rw [e, List.getElem?_eq_none n] at q
  exact nomatch q
theorem no_en {h : Mem} {a b : Nat} (n : h.length ≤ b) (q : (h[a]?).isSome = true) : (b = a) = False := eq_false fun e => by
  rw [← e, List.getElem?_eq_none n] at q
  exact nomatch q
/-! ### what the memory gives -/
def gF (cl : List Nat) (f : Nat) (o : Option Ob) (h : Mem) : R W := match o with
  | some (.ins c fs) => if cl.contains c then (match fs.lookup f with
    | some v => .ok v h
    | none => .bad) else .bad
  | _ => .bad
theorem m_fld {cl : List Nat} {f a : Nat} {h : Mem} : getF cl f (.ref a) h = gF cl f (h[a]?) h := by
  unfold getF gF
  rfl
theorem m_gF {cl : List Nat} {f c : Nat} {fs : List (Nat × W)} {h : Mem} : gF cl f (some (.ins c fs)) h = if cl.contains c then (match fs.lookup f with
    | some v => .ok v h
    | none => .bad) else .bad := nr rfl
def sF (cl : List Nat) (a f : Nat) (v : W) (o : Option Ob) (h : Mem) : Option Mem := match o with
  | some (.ins c fs) => if cl.contains c && decide (fs.length < 1000) then some (h.set a (.ins c (putF fs f v))) else none
  | _ => none
theorem m_store {cl : List Nat} {f a : Nat} {v : W} {h : Mem} : storeF cl (.ref a) f v h = sF cl a f v (h[a]?) h := by
  unfold storeF sF
  rfl
theorem m_sF {cl : List Nat} {f a c : Nat} {v : W} {fs : List (Nat × W)} {h : Mem} : sF cl a f v (some (.ins c fs)) h = if cl.contains c && decide (fs.length < 1000) then some (h.set a (.ins c (putF fs f v))) else none := nr rfl
def dF (cl : List Nat) (a f : Nat) (d : Int) (o : Option Ob) (h : Mem) : Option Mem := match o with
  | some (.ins c fs) => if cl.contains c && decide (fs.length < 1000) then (match fs.lookup f with
      | some (.int u) => some (h.set a (.ins c (putF fs f (.int (u + d)))))
      | _ => none) else none
  | _ => none
theorem m_addF {cl : List Nat} {f a : Nat} {d : Int} {h : Mem} : addF cl (.ref a) f d h = dF cl a f d (h[a]?) h := by
  unfold addF dF
  rfl
theorem m_dF {cl : List Nat} {f a c : Nat} {d : Int} {fs : List (Nat × W)} {h : Mem} : dF cl a f d (some (.ins c fs)) h = if cl.contains c && decide (fs.length < 1000) then (match fs.lookup f with
      | some (.int u) => some (h.set a (.ins c (putF fs f (.int (u + d)))))
      | _ => none) else none := nr rfl
def iI (c : Nat) (o : Option Ob) : Bool := match o with
  | some (.ins d _) => decide (d = c)
  | _ => false
theorem m_isI {c a : Nat} {h : Mem} : isI c (.ref a) h = iI c (h[a]?) := by
  unfold isI iI
  rfl
theorem m_iI {c d : Nat} {fs : List (Nat × W)} : iI c (some (.ins d fs)) = decide (d = c) := nr rfl
def oL (o : Option Ob) : Option (List W) := match o with
  | some (.lst xs) => some xs
  | _ => none
theorem m_getL {a : Nat} {h : Mem} : getL h (.ref a) = oL (h[a]?) := by
  unfold getL oL
  rfl
theorem m_oL {xs : List W} : oL (some (.lst xs)) = some xs := nr rfl
theorem m_isL {a : Nat} {h : Mem} : isL h (.ref a) = (oL (h[a]?)).isSome := by
  unfold isL oL
  dsimp only
  cases h[a]? with
  | none => rfl
  | some o => cases o <;> rfl
theorem m_recv {f : BM} {x : W} {h : Mem} : recv f x h = isL h x := nr rfl
theorem m_walk {a : Nat} {h : Mem} : walkOf h (.ref a) = match oL (h[a]?) with
    | some xs => some ⟨xs, some a, []⟩
    | none => none := by
  unfold walkOf
  dsimp only
  simp only [m_getL]
  all_goals (cases oL (h[a]?) <;> rfl)
theorem m_stays {a : Nat} {h : Mem} {ws : List W} : stays h ⟨ws, some a, []⟩ = decide (oL (h[a]?) = some ws) := by
  unfold stays
  rw [← m_getL]
  exact Bool.and_true _
def tO (o : Option Ob) : Option Bool := match o with
  | some (.lst xs) => some (!xs.isEmpty)
  | some (.dic kvs) => some (!kvs.isEmpty)
  | _ => none
theorem m_truR {a : Nat} {h : Mem} : truW h (.ref a) = tO (h[a]?) := by
  unfold truW tO
  rfl
theorem m_tOl {xs : List W} : tO (some (.lst xs)) = some (!xs.isEmpty) := nr rfl
theorem m_newL {ws : List W} {h : Mem} : newL ws h = if ws.length ≤ LIM then .ok (.ref h.length) (h ++ [.lst ws]) else .bad := by
  unfold newL alloc
  rfl
theorem m_alloc {o : Ob} {h : Mem} : alloc o h = .ok (.ref h.length) (h ++ [o]) := nr rfl
def lO (o : Option Ob) : Option Nat := match o with
  | some (.lst xs) => some xs.length
  | some (.dic kvs) => some kvs.length
  | _ => none
theorem m_len {a : Nat} {h : Mem} : biS .len [.ref a] h = match lO (h[a]?) with
    | some n => .ok (.int n) h
    | none => .bad := by
  unfold biS lO
  cases e : h[a]? with
  | none => simp [e]
  | some o => cases o <;> simp [e]
theorem m_lOl {xs : List W} : lO (some (.lst xs)) = some xs.length := nr rfl
theorem m_lOd {xs : List (W × W)} : lO (some (.dic xs)) = some xs.length := nr rfl
theorem m_app {a : Nat} {y : W} {h : Mem} : bmS .append (.ref a) [y] h = match oL (h[a]?) with
    | some xs => if xs.length < LIM then .ok .non (h.set a (.lst (xs ++ [y]))) else .bad
    | none => .bad := by
  unfold bmS oL
  cases e : h[a]? with
  | none => simp [e]
  | some o => cases o <;> simp [e]
theorem m_ext {a b : Nat} {h : Mem} : bmS .extend (.ref a) [.ref b] h = match oL (h[a]?), oL (h[b]?) with
    | some xs, some ys => if xs.length + ys.length ≤ LIM then .ok .non (h.set a (.lst (xs ++ ys))) else .bad
    | _, _ => .bad := by
  unfold bmS oL
  dsimp only
  cases h[a]? with
  | none => rfl
  | some o => cases o with
    | lst xs => cases h[b]? with
      | none => rfl
      | some o => cases o <;> rfl
    | _ => rfl
theorem m_getC {xs : List W} {h : Mem} : getL h (.con xs) = some xs := nr rfl
theorem m_ins {a : Nat} {y : W} {i : Int} {h : Mem} : bmS .insert (.ref a) [.int i, y] h = match oL (h[a]?) with
    | some xs => if xs.length < LIM ∧ 0 ≤ i ∧ i < 1000000000000 then .ok .non (h.set a (.lst (xs.take i.toNat ++ [y] ++ xs.drop i.toNat))) else .bad
    | none => .bad := by
  unfold bmS oL
  cases e : h[a]? with
  | none => simp [e]
  | some o => cases o <;> simp [e]
def xO (k : W) (h : Mem) (o : Option Ob) : R W := match o with
  | some (.lst xs) => (match k with
      | .int i => (match atW xs i with
        | some v => .ok v h
        | none => .bad)
      | _ => .bad)
  | some (.dic kvs) => if isKey k then (match findK kvs k with
        | some v => .ok v h
        | none => .bad)
      else .bad
  | _ => .bad
theorem m_idx {a : Nat} {k : W} {h : Mem} : index (.ref a) k h = xO k h (h[a]?) := by
  unfold index xO
  rfl
theorem m_xOl {xs : List W} {i : Int} {h : Mem} : xO (.int i) h (some (.lst xs)) = match atW xs i with
    | some v => .ok v h
    | none => .bad := nr rfl
theorem m_xOd {kvs : List (W × W)} {k : W} {h : Mem} : xO k h (some (.dic kvs)) = if isKey k then (match findK kvs k with
        | some v => .ok v h
        | none => .bad)
      else .bad := nr rfl
theorem m_idxT {xs : List W} {i : Int} {h : Mem} : index (.tup xs) (.int i) h = match atW xs i with
    | some v => .ok v h
    | none => .bad := nr rfl
theorem m_idxC {xs : List W} {i : Int} {h : Mem} : index (.con xs) (.int i) h = match atW xs i with
    | some v => .ok v h
    | none => .bad := nr rfl
/-- an item, told -/
theorem m_at {xs : List W} {i : Int} (l : 0 ≤ i) : atW xs i = xs[i.toNat]? := by
  unfold atW ixW L2.ixN
  by_cases c : i < (xs.length : Int)
  · rw [if_pos l, if_pos c]
    rfl
  · rw [if_pos l, if_neg c, List.getElem?_eq_none (by omega)]
    rfl
theorem m_at0 {x : W} {xs : List W} : atW (x :: xs) 0 = some x := by
  rw [m_at (by omega)]
  rfl
theorem m_atNeg {xs : List W} {k : Nat} (l : k < xs.length) : atW xs (-(k : Int) - 1) = xs[xs.length - 1 - k]? := by
  unfold atW ixW L2.ixN
  rw [if_neg (by omega), if_pos (by omega)]
  show xs[_]? = _
  congr 1
  omega
def sO (a : Nat) (y v : W) (h : Mem) (o : Option Ob) : Option Mem := match o with
    | some (.lst xs) => (match y with
      | .int i => (match ixW xs.length i with
        | some j => some (h.set a (.lst (xs.set j v)))
        | none => none)
      | _ => none)
    | some (.dic kvs) => if isKey y && decide (kvs.length < LIM) then some (h.set a (.dic (putKW kvs y v))) else none
    | _ => none
theorem m_storeAt {a : Nat} {y v : W} {h : Mem} : storeAt (.ref a) y v h = sO a y v h (h[a]?) := by
  unfold storeAt sO
  rfl
theorem m_sOd {a : Nat} {y v : W} {h : Mem} {kvs : List (W × W)} : sO a y v h (some (.dic kvs)) = if isKey y && decide (kvs.length < LIM) then some (h.set a (.dic (putKW kvs y v))) else none := nr rfl
theorem m_sOl {a : Nat} {i : Int} {v : W} {h : Mem} {xs : List W} : sO a (.int i) v h (some (.lst xs)) = match ixW xs.length i with
        | some j => some (h.set a (.lst (xs.set j v)))
        | none => none := nr rfl
theorem m_key {i : Int} : isKey (.int i) = true := by simp [isKey]
theorem m_keyS {x : List Nat} : isKey (.str x) = true := by simp [isKey]
/-- whether a key is in a dict -/
theorem m_in {a : Nat} {kvs : List (W × W)} {x : W} {h : Mem} (e : h[a]? = some (.dic kvs)) (k : isKey x = true) : op2 .isin x (.ref a) h = .ok (.bl (findK kvs x).isSome) h := by
  have d1 : toD h 30 (.ref a) = none := by
    unfold toD
    have : getL h (.ref a) = none := by
      unfold getL
      simp [e]
    rw [this]
  have i : inW x (.ref a) h = .ok (findK kvs x).isSome h := by
    cases x with
    | int z =>
      have d0 : toD h 30 (.int z) = some (.int z) := nr rfl
      unfold inW
      simp only [d0, d1, e]
      rfl
    | str z =>
      have d0 : toD h 30 (.str z) = some (.str ⟨z.toArray⟩) := rfl
      unfold inW
      simp only [d0, d1, e]
      rfl
    | _ => cases k
  show bR (inW x (.ref a) h) = _
  rw [i]
  rfl
theorem m_notin {a : Nat} {kvs : List (W × W)} {x : W} {h : Mem} (e : h[a]? = some (.dic kvs)) (k : isKey x = true) : op2 .notin x (.ref a) h = .ok (.bl (!(findK kvs x).isSome)) h := by
  have := m_in e k
  show bR ((inW x (.ref a) h).bind _) = _
  have : bR (inW x (.ref a) h) = _ := this
  cases q : inW x (.ref a) h with
  | ok b h' =>
    rw [q] at this
    cases this
    rfl
  | ex x h' => rw [q] at this; cases this
  | bad => rw [q] at this; cases this
def isNon : W → Bool
  | .non => true
  | _ => false
theorem isNon_non : isNon .non = true := nr rfl
theorem isNon_int {i : Int} : isNon (.int i) = false := nr rfl
theorem isNon_str {i : List Nat} : isNon (.str i) = false := nr rfl
theorem isNon_tup {i : List W} : isNon (.tup i) = false := nr rfl
theorem isNon_ref {i : Nat} : isNon (.ref i) = false := nr rfl
theorem m_non {x : W} {h : Mem} : op2 .isn x .non h = .ok (.bl (isNon x)) h := by
  cases x <;> rfl
theorem m_nnon {x : W} {h : Mem} : op2 .notn x .non h = .ok (.bl (!isNon x)) h := by
  cases x <;> rfl
theorem m_slc {lo hi : Option Int} {h : Mem} {a : Nat} : slice (.ref a) lo hi h = match oL (h[a]?) with
    | some xs => .ok (.ref h.length) (h ++ [.lst (cutW xs lo hi)])
    | none => .bad := by
  unfold slice
  dsimp only
  simp only [m_getL]
  all_goals (cases oL (h[a]?) <;> rfl)
theorem m_slcC {lo hi : Option Int} {h : Mem} {xs : List W} : slice (.con xs) lo hi h = .ok (.ref h.length) (h ++ [.lst (cutW xs lo hi)]) := nr rfl
theorem m_slcT {lo hi : Option Int} {h : Mem} {xs : List W} : slice (.tup xs) lo hi h = .ok (.tup (cutW xs lo hi)) h := nr rfl
theorem m_slcS {lo hi : Option Int} {h : Mem} {z : List Nat} : slice (.str z) lo hi h = .ok (.str (cutW z lo hi)) h := nr rfl
theorem m_cat {h : Mem} {a b : Nat} : op2 .add (.ref a) (.ref b) h = match oL (h[a]?), oL (h[b]?) with
    | some xs, some ys => newL (xs ++ ys) h
    | _, _ => .bad := by
  unfold op2 oL
  dsimp only
  cases h[a]? with
  | none => rfl
  | some o => cases o with
    | lst xs => cases h[b]? with
      | none => rfl
      | some o => cases o <;> rfl
    | _ => rfl
/-- a list so many times -/
def repL (k : Nat) (xs : List W) : List W := (List.replicate k xs).flatten
theorem repL_mem {k : Nat} {xs : List W} {x : W} (h : x ∈ repL k xs) : x ∈ xs := by
  unfold repL at h
  obtain ⟨l, h1, h2⟩ := List.mem_flatten.mp h
  rw [List.eq_of_mem_replicate h1] at h2
  exact h2
theorem repL_len {k : Nat} {xs : List W} : (repL k xs).length = k * xs.length := by
  unfold repL
  rw [List.length_flatten, List.map_replicate, List.sum_replicate_nat]
theorem repL_ints {k : Nat} {xs : List Int} : repL k (intsW xs) = intsW (List.replicate k xs).flatten := by
  unfold repL intsW
  rw [List.map_flatten, List.map_replicate]
theorem m_rep {h : Mem} {a : Nat} {k : Int} : op2 .mul (.ref a) (.int k) h = match oL (h[a]?) with
    | some xs => if xs.length * k.toNat ≤ LIM ∧ -9223372036854775808 ≤ k ∧ k < 9223372036854775808 then .ok (.ref h.length) (h ++ [.lst (repL k.toNat xs)]) else .bad
    | none => .bad := by
  unfold op2 oL
  dsimp only
  cases h[a]? with
  | none => rfl
  | some o => cases o <;> rfl
theorem m_isList {h : Mem} {a : Nat} : biS .isList [.ref a] h = match oL (h[a]?) with
    | some xs => .ok (.bl true) h
    | none => .bad := by
  unfold biS kindOf oL
  dsimp only
  cases h[a]? with
  | none => rfl
  | some o => cases o <;> rfl
def gX (f : Nat) (o : Option Ob) (h : Mem) : R W := match o with
  | some (.exc _ fs) => (match fs.lookup f with
      | some v => .ok v h
      | none => .bad)
  | _ => .bad
theorem m_getX {f a : Nat} {h : Mem} : getX f (.ref a) h = gX f (h[a]?) h := by
  unfold getX gX
  rfl
theorem m_gXe {f c : Nat} {fs : List (Nat × W)} {h : Mem} : gX f (some (.exc c fs)) h = match fs.lookup f with
      | some v => .ok v h
      | none => .bad := nr rfl
def iX (ms : List Nat) (o : Option Ob) (h : Mem) : R W := match o with
  | some (.exc c _) => .ok (.bl (ms.contains c)) h
  | _ => .bad
theorem m_isX {ms : List Nat} {a : Nat} {h : Mem} : isX ms (.ref a) h = iX ms (h[a]?) h := by
  unfold isX iX
  rfl
theorem m_iXe {ms : List Nat} {c : Nat} {fs : List (Nat × W)} {h : Mem} : iX ms (some (.exc c fs)) h = .ok (.bl (ms.contains c)) h := nr rfl
theorem p_eq_same {h : Mem} {x y : W} {d : PyData} (p : Rd h x d) (q : Rd h y d) (c : noDic d = true) : op2 .eq x y h = .ok (.bl true) h := by
  show bR (eqW x y h) = _
  unfold eqW
  rw [p, q]
  dsimp only
  rw [eqv_self d c]
  rfl
theorem p_ne_same {h : Mem} {x y : W} {d : PyData} (p : Rd h x d) (q : Rd h y d) (c : noDic d = true) : op2 .ne x y h = .ok (.bl false) h := by
  show bR ((eqW x y h).bind _) = _
  unfold eqW
  rw [p, q]
  dsimp only
  rw [eqv_self d c]
  rfl
theorem rd_lst {h : Mem} {a : Nat} {ws : List W} {ds : List PyData} (e : h[a]? = some (.lst ws)) (m : ws.mapM (toD h 29) = some ds) : Rd h (.ref a) (.list ds) := by
  unfold Rd toD
  rw [p_getL e]
  dsimp only
  rw [m]
  rfl
theorem rd_tup {h : Mem} {ws : List W} {ds : List PyData} (m : ws.mapM (toD h 29) = some ds) : Rd h (.tup ws) (.tuple ds) := by
  unfold Rd toD
  rw [m]
  rfl
theorem rd_intsN {h : Mem} {a n : Nat} {xs : List Int} (e : h[a]? = some (.lst (intsW xs))) : toD h (n + 1) (.ref a) = some (.list (xs.map .int)) := by
  unfold toD
  rw [p_getL e]
  dsimp only
  unfold intsW
  rw [mapM_some (g := fun w => match w with | .int i => PyData.int i | _ => .none)]
  · simp
  · intro x hx
    obtain ⟨i, _, rfl⟩ := List.mem_map.mp hx
    cases n <;> simp [toD]
theorem noDics_ints : ∀ xs : List Int, noDics (xs.map .int) = true
  | [] => by simp [noDics]
  | x :: r => by
    have := noDics_ints r
    simp [noDics, noDic] at this ⊢
    exact this
theorem rd_int {h : Mem} {i : Int} : Rd h (.int i) (.int i) := rfl
theorem rd_str {h : Mem} {x : List Nat} : Rd h (.str x) (.str ⟨x.toArray⟩) := rfl
theorem rd_bl {h : Mem} {b : Bool} : Rd h (.bl b) (.bool b) := rfl
theorem rd_non {h : Mem} : Rd h .non .none := rfl
theorem m_shr {i j : Int} {h : Mem} (l : 0 ≤ j) : op2 .shr (.int i) (.int j) h = .ok (.int (i / 2 ^ j.toNat)) h := if_pos l
theorem m_shl1 {j : Int} {h : Mem} (l : 0 ≤ j) (u : j ≤ 100000) : op2 .shl (.int 1) (.int j) h = .ok (.int (2 ^ j.toNat)) h := by
  have q : L2.CShl (1 : Int) ((j.toNat : Nat) : Int) := L2.shl_ok (n := 1) (by decide) (by omega)
  have e : (2 : Int) ^ 27 = 134217728 := by decide
  obtain ⟨q1, q2⟩ := q
  rw [e] at q2
  rw [Int.toNat_of_nonneg l] at q2
  show (if 0 ≤ j ∧ (Builtin.Int.intBits 1 : Int) + j ≤ 134217728 then R.ok (W.int (1 * 2 ^ j.toNat)) h else .bad) = _
  rw [if_pos ⟨l, q2⟩, Int.one_mul]
theorem m_int {i : Int} {h : Mem} : biS .int [.int i] h = .ok (.int i) h := nr rfl
theorem m_intB {b : Bool} {h : Mem} : biS .int [.bl b] h = .ok (.int (if b then 1 else 0)) h := nr rfl
/-- products: one factor is small -/
theorem mul_l {i j : Int} (a : -18446744073709551616 < i) (b : i < 18446744073709551616) : mulOk i j = true := by
  unfold mulOk
  simp only [Bool.or_eq_true, decide_eq_true_eq]
  omega
theorem mul_r {i j : Int} (a : -18446744073709551616 < j) (b : j < 18446744073709551616) : mulOk i j = true := by
  unfold mulOk
  simp only [Bool.or_eq_true, decide_eq_true_eq]
  omega
theorem m_list {a : Nat} {h : Mem} : biS .list [.ref a] h = match oL (h[a]?) with
    | some xs => .ok (.ref h.length) (h ++ [.lst xs])
    | none => .bad := by
  unfold biS seqOf
  simp only [m_getL]
  all_goals (cases oL (h[a]?) <;> rfl)
theorem m_listT {xs : List W} {h : Mem} : biS .list [.tup xs] h = .ok (.ref h.length) (h ++ [.lst xs]) := nr rfl
theorem m_listC {xs : List W} {h : Mem} : biS .list [.con xs] h = .ok (.ref h.length) (h ++ [.lst xs]) := nr rfl
theorem m_tupR {a : Nat} {h : Mem} : biS .tuple [.ref a] h = match oL (h[a]?) with
    | some xs => .ok (.tup xs) h
    | none => .bad := by
  unfold biS
  simp only [m_getL]
  all_goals (cases oL (h[a]?) <;> rfl)
theorem m_tupT {xs : List W} {h : Mem} : biS .tuple [.tup xs] h = .ok (.tup xs) h := nr rfl
/-! ### data compared, told in full -/
def eqO (b : Bool) (x y : Option PyData) (h : Mem) : R W := match x, y with
  | some d, some e => .ok (.bl (PyData.eqv d e == b)) h
  | _, _ => .bad
theorem q_eq {x y : W} {h : Mem} : op2 .eq x y h = eqO true (toD h 30 x) (toD h 30 y) h := by
  show bR (eqW x y h) = _
  unfold eqW eqO
  cases toD h 30 x with
  | none => rfl
  | some d => cases toD h 30 y with
    | none => rfl
    | some e =>
      show R.ok (W.bl _) h = R.ok (W.bl _) h
      simp
theorem q_ne {x y : W} {h : Mem} : op2 .ne x y h = eqO false (toD h 30 x) (toD h 30 y) h := by
  show bR ((eqW x y h).bind _) = _
  unfold eqW eqO
  cases toD h 30 x with
  | none => rfl
  | some d => cases toD h 30 y with
    | none => rfl
    | some e =>
      show R.ok (W.bl _) h = R.ok (W.bl _) h
      simp
theorem q_eqO {b : Bool} {d e : PyData} {h : Mem} : eqO b (some d) (some e) h = .ok (.bl (PyData.eqv d e == b)) h := nr rfl
theorem q_ref {a n : Nat} {h : Mem} : toD h (n + 1) (.ref a) = match oL (h[a]?) with
    | some xs => (xs.mapM (toD h n)).map .list
    | none => none := by
  conv => lhs; unfold toD
  simp only [m_getL]
  all_goals (cases oL (h[a]?) <;> rfl)
theorem q_tup {n : Nat} {ws : List W} {h : Mem} : toD h (n + 1) (.tup ws) = (ws.mapM (toD h n)).map .tuple := nr rfl
theorem q_con {n : Nat} {ws : List W} {h : Mem} : toD h (n + 1) (.con ws) = (ws.mapM (toD h n)).map .list := nr rfl
theorem q_non {n : Nat} {h : Mem} : toD h n .non = some .none := by
  cases n <;> rfl
theorem q_bl {n : Nat} {b : Bool} {h : Mem} : toD h n (.bl b) = some (.bool b) := by
  cases n <;> rfl
theorem q_int {n : Nat} {i : Int} {h : Mem} : toD h n (.int i) = some (.int i) := by
  cases n <;> rfl
theorem q_str {n : Nat} {x : List Nat} {h : Mem} : toD h n (.str x) = some (.str ⟨x.toArray⟩) := by
  cases n <;> rfl
/-! ### loops -/
section
variable {t : Tg} {f : Env → Mem → RS} {w : Walk} {N : Env → Mem → Prop} {Q : W → Mem → Prop} {E : Ex → Env → Mem → Prop}
theorem w_for (I : Nat → Env → Mem → Prop) : ∀ (xs : List W) (k : Nat) {env : Env} {h : Mem}, I k env h → (∀ i env h, I i env h → stays h w = true) →
    (∀ i x env h, xs[i]? = some x → I (k + i) env h → ∃ env1, asg t x env = some env1 ∧ (f env1 h).wp (p := ⟨(I (k + i + 1)), Q, E⟩)) → (∀ env h, I (k + xs.length) env h → N env h) → (forL t f w xs env h).wp (p := ⟨N, Q, E⟩)
  | [], k, env, h, i, hs, _, dn => by
    unfold forL
    rw [if_pos (hs k env h i)]
    exact dn env h i
  | x :: r, k, env, h, i, hs, st, dn => by
    obtain ⟨env1, e1, q⟩ := st 0 x env h rfl i
    unfold forL
    rw [if_pos (hs k env h i), e1]
    dsimp only
    rw [w_then]
    cases e : f env1 h with
    | nx env2 h2 =>
      rw [e] at q
      exact w_for I r (k + 1) q hs (fun j y env h hy hi => by
        have := st (j + 1) y env h hy (by rw [show k + (j + 1) = k + 1 + j by omega]; exact hi)
        rw [show k + (j + 1) = k + 1 + j by omega] at this
        exact this) fun env h z => dn env h (by rw [List.length_cons, show k + (r.length + 1) = k + 1 + r.length by omega]; exact z)
    | rt v h2 => rw [e] at q; exact q
    | ex x env h2 => rw [e] at q; exact q
    | bad => rw [e] at q; exact q
/-- by the items: from the left -/
theorem w_for0 (I : Nat → Env → Mem → Prop) {xs : List W} {env : Env} {h : Mem} (i0 : I 0 env h) (hs : ∀ i env h, I i env h → stays h w = true)
    (st : ∀ i x env h, xs[i]? = some x → I i env h → ∃ env1, asg t x env = some env1 ∧ (f env1 h).wp (p := ⟨(I (i + 1)), Q, E⟩)) (dn : ∀ env h, I xs.length env h → N env h) : (forL t f w xs env h).wp (p := ⟨N, Q, E⟩) :=
  w_for I xs 0 i0 hs (fun i x env h e q => by
    have := st i x env h e (by simpa using q)
    rw [Nat.zero_add]
    exact this) fun env h q => dn env h (by simpa using q)
theorem w_while (c : Env → Mem → R Bool) (I : Env → Mem → Prop) (m : Env → Mem → Nat)
    (st : ∀ env h, I env h → (c env h).wp (p := ⟨(fun b h' => if b then (f env h').wp (p := ⟨(fun env2 h2 => I env2 h2 ∧ m env2 h2 < m env h), Q, E⟩) else N env h'), (fun x h' => E x env h')⟩)) : ∀ (n : Nat) {env : Env} {h : Mem}, I env h → m env h < n → (whileN c f n env h).wp (p := ⟨N, Q, E⟩)
  | 0, _, _, _, l => absurd l (by omega)
  | n + 1, env, h, i, l => by
    have q := st env h i
    unfold whileN
    rw [w_st]
    cases e : c env h with
    | ok b h' =>
      rw [e] at q
      have q : if b then (f env h').wp (p := ⟨(fun env2 h2 => I env2 h2 ∧ m env2 h2 < m env h), Q, E⟩) else N env h' := q
      show (if b then (f env h').then fun env h => whileN c f n env h else .nx env h').wp (p := ⟨N, Q, E⟩)
      cases b with
      | true =>
        rw [if_pos rfl] at q ⊢
        rw [w_then]
        cases e2 : f env h' with
        | nx env2 h2 =>
          rw [e2] at q
          have q : I env2 h2 ∧ m env2 h2 < m env h := q
          exact w_while c I m st n q.1 (by omega)
        | rt v h2 => rw [e2] at q; exact q
        | ex x env h2 => rw [e2] at q; exact q
        | bad => rw [e2] at q; exact q
      | false => exact q
    | ex x h' => rw [e] at q; exact q
    | bad => rw [e] at q; exact q
end
/-- a comprehension -/
theorem w_compL {t : Tg} {own : List Nat} {f : Env → Mem → R (Option W)} {env : Env} {w : Walk} {Q : List W → Mem → Prop} {E : Ex → Mem → Prop} (I : Nat → List W → Mem → Prop) : ∀ (xs : List W) (k : Nat) {acc : List W} {h : Mem}, I k acc h → (∀ i acc h, I i acc h → stays h w = true) →
    (∀ i x acc h, xs[i]? = some x → I (k + i) acc h → ∃ env1, asg t x (wipe env own) = some env1 ∧ (f env1 h).wp (p := ⟨(fun o h2 => I (k + i + 1) (acc ++ o.toList) h2), E⟩)) → acc.length + xs.length ≤ LIM → (∀ acc h, I (k + xs.length) acc h → Q acc h) → (compL t own f env w xs acc h).wp (p := ⟨Q, E⟩)
  | [], k, acc, h, i, hs, _, _, dn => by
    unfold compL
    rw [if_pos (hs k acc h i)]
    exact dn acc h i
  | x :: r, k, acc, h, i, hs, st, l, dn => by
    obtain ⟨env1, e1, q⟩ := st 0 x acc h rfl i
    unfold compL
    rw [if_pos (hs k acc h i), e1]
    dsimp only
    rw [w_bind]
    have st' := fun j y acc h (hy : r[j]? = some y) (hi : I (k + 1 + j) acc h) => by
      have := st (j + 1) y acc h hy (by rw [show k + (j + 1) = k + 1 + j by omega]; exact hi)
      rw [show k + (j + 1) = k + 1 + j by omega] at this
      exact this
    have dn' := fun acc h (z : I (k + 1 + r.length) acc h) => dn acc h (by rw [List.length_cons, show k + (r.length + 1) = k + 1 + r.length by omega]; exact z)
    cases e : f env1 h with
    | ok o h2 =>
      rw [e] at q
      have q : I (k + 1) (acc ++ o.toList) h2 := q
      cases o with
      | none =>
        exact w_compL I r (k + 1) (by simpa using q) hs st' (by simp at l; omega) dn'
      | some y =>
        show (if acc.length < LIM then compL t own f env w r (acc ++ [y]) h2 else .bad).wp (p := ⟨Q, E⟩)
        rw [if_pos (by simp at l; omega)]
        exact w_compL I r (k + 1) (by simpa using q) hs st' (by rw [List.length_append]; simp at l ⊢; omega) dn'
    | ex x h2 => rw [e] at q; exact q
    | bad => rw [e] at q; exact q
/-- [e for .. in ..] -/
theorem w_comp {cs : Tab} {t : Tg} {it : It} {own : List Nat} {c : Eo} {e : E} {env : Env} {h : Mem} {Q : W → Mem → Prop} {E : Ex → Mem → Prop} (I : Nat → List W → Mem → Prop)
    (hi : (evi cs it env h).wp (p := ⟨(fun w h1 => I 0 [] h1 ∧ w.xs.length ≤ LIM ∧ (∀ i acc h, I i acc h → stays h w = true) ∧
      (∀ i x acc h, w.xs[i]? = some x → I i acc h → ∃ env1, asg t x (wipe env own) = some env1 ∧ (cf cs c e env1 h).wp (p := ⟨(fun o h2 => I (i + 1) (acc ++ o.toList) h2), none_⟩)) ∧
      ∀ acc h, I w.xs.length acc h → Q (.ref h.length) (h ++ [.lst acc])), E⟩)) : (ev cs (.comp t it own c e) env h).wp (p := ⟨Q, E⟩) := by
  rw [ev_comp, w_bind]
  refine hi.mono (fun w h1 ⟨i0, l, hs, st, dn⟩ => ?_) fun _ _ z => z
  rw [w_bind, w_calm]
  refine w_compL I w.xs 0 i0 hs (fun i x acc h ex q => ?_) (by simpa using l) fun acc h q => ?_
  · have := st i x acc h ex (by simpa using q)
    rw [Nat.zero_add]
    exact this
  · rw [m_alloc, w_ok]
    exact dn acc h (by simpa using q)
theorem w_cfno {cs : Tab} {e : E} {env : Env} {h : Mem} {Q : Option W → Mem → Prop} {E : Ex → Mem → Prop} : (cf cs .no e env h).wp (p := ⟨Q, E⟩) = (ev cs e env h).wp (p := ⟨(fun y h => Q (some y) h), E⟩) := by
  unfold cf
  rw [w_bind]
  show (R.ok none h).wp (p := ⟨_, E⟩) = _
  rw [w_ok, w_bind]
  rfl
theorem w_cfso {cs : Tab} {c e : E} {env : Env} {h : Mem} {Q : Option W → Mem → Prop} {E : Ex → Mem → Prop} : (cf cs (.so c) e env h).wp (p := ⟨Q, E⟩) = (ev cs c env h).wp (p := ⟨fun v h => (tru v h).wp (p := ⟨fun b h => (if b then (ev cs e env h).wp (p := ⟨fun y h => Q (some y) h, E⟩) else Q none h), E⟩), E⟩) := by
  unfold cf
  rw [w_bind]
  show ((ev cs c env h).bind fun x h => .ok (some x) h).wp (p := ⟨_, E⟩) = _
  rw [w_bind]
  apply wp_ext
  intro v h
  rw [w_ok, w_bind]
  apply wp_ext
  intro b h
  cases b
  · rfl
  · rw [if_pos rfl, if_pos rfl, w_bind]
    rfl
/-- [e for x in ..], where the memory stays -/
theorem w_map {cs : Tab} {t : Tg} {it : It} {own : List Nat} {e : E} {env : Env} {h : Mem} {Q : W → Mem → Prop} {E : Ex → Mem → Prop} (g : W → W)
    (hi : (evi cs it env h).wp (p := ⟨(fun w h1 => w.xs.length ≤ LIM ∧ stays h1 w = true ∧
      (∀ x ∈ w.xs, ∃ env1, asg t x (wipe env own) = some env1 ∧ (ev cs e env1 h1).wp (p := ⟨fun y h2 => y = g x ∧ h2 = h1, none_⟩)) ∧
      Q (.ref h1.length) (h1 ++ [.lst (w.xs.map g)])), E⟩)) : (ev cs (.comp t it own .no e) env h).wp (p := ⟨Q, E⟩) := by
  have key : ∃ w h1, evi cs it env h = .ok w h1 ∨ True := ⟨⟨[], none, []⟩, h, .inr trivial⟩
  cases ee : evi cs it env h with
  | ok w h1 =>
    rw [ee] at hi
    obtain ⟨l, st, el, q⟩ := hi
    refine w_comp (fun k acc h' => h' = h1 ∧ acc = (w.xs.take k).map g) ?_
    rw [ee]
    refine ⟨⟨rfl, rfl⟩, l, ?_, ?_, ?_⟩
    · rintro i acc h' ⟨rfl, -⟩
      exact st
    · rintro i x acc h' hx ⟨rfl, rfl⟩
      obtain ⟨env1, a1, a2⟩ := el x (List.mem_of_getElem? hx)
      refine ⟨env1, a1, ?_⟩
      rw [w_cfno]
      refine a2.mn ?_
      rintro y h2 ⟨rfl, rfl⟩
      refine ⟨rfl, ?_⟩
      rw [List.take_add_one, hx, List.map_append]
      rfl
    · rintro acc h' ⟨rfl, rfl⟩
      rw [List.take_length]
      exact q
  | ex x h1 =>
    rw [ee] at hi
    rw [ev_comp, w_bind, ee]
    exact hi
  | bad =>
    rw [ee] at hi
    exact hi.elim
/-- [e for x in .. if c], where the memory stays -/
theorem w_fil {cs : Tab} {t : Tg} {it : It} {own : List Nat} {c e : E} {env : Env} {h : Mem} {Q : W → Mem → Prop} {E : Ex → Mem → Prop} (b : W → Bool) (g : W → W)
    (hi : (evi cs it env h).wp (p := ⟨(fun w h1 => w.xs.length ≤ LIM ∧ stays h1 w = true ∧
      (∀ x ∈ w.xs, ∃ env1, asg t x (wipe env own) = some env1 ∧ (ev cs c env1 h1).wp (p := ⟨fun y h2 => truW h1 y = some (b x) ∧ h2 = h1, none_⟩) ∧ (b x = true → (ev cs e env1 h1).wp (p := ⟨fun y h2 => y = g x ∧ h2 = h1, none_⟩))) ∧
      Q (.ref h1.length) (h1 ++ [.lst ((w.xs.filter b).map g)])), E⟩)) : (ev cs (.comp t it own (.so c) e) env h).wp (p := ⟨Q, E⟩) := by
  cases ee : evi cs it env h with
  | ok w h1 =>
    rw [ee] at hi
    obtain ⟨l, st, el, q⟩ := hi
    refine w_comp (fun k acc h' => h' = h1 ∧ acc = ((w.xs.take k).filter b).map g) ?_
    rw [ee]
    refine ⟨⟨rfl, rfl⟩, l, ?_, ?_, ?_⟩
    · rintro i acc h' ⟨rfl, -⟩
      exact st
    · rintro i x acc h' hx ⟨rfl, rfl⟩
      obtain ⟨env1, a1, a2, a3⟩ := el x (List.mem_of_getElem? hx)
      refine ⟨env1, a1, ?_⟩
      rw [w_cfso]
      refine a2.mn ?_
      rintro y h2 ⟨ty, rfl⟩
      unfold tru
      rw [ty]
      show if b x = true then _ else _
      rw [List.take_add_one, hx, show (some x).toList = [x] from rfl, List.filter_append, List.map_append]
      cases hb : b x with
      | true =>
        rw [if_pos rfl]
        refine (a3 hb).mn ?_
        rintro y h2 ⟨rfl, rfl⟩
        refine ⟨rfl, ?_⟩
        simp [hb]
      | false =>
        simp [hb]
    · rintro acc h' ⟨rfl, rfl⟩
      rw [List.take_length]
      exact q
  | ex x h1 =>
    rw [ee] at hi
    rw [ev_comp, w_bind, ee]
    exact hi
  | bad =>
    rw [ee] at hi
    exact hi.elim
/-- a comprehension that is read only, as one value: all(..), len(..), .. -/
theorem iso_of {h : Mem} {a : Nat} {o : Ob} (e : h[a]? = some o) : (h[a]?).isSome = true := by
  rw [e]
  rfl
/-! ### one construct at a time -/
section
variable {cs : Tab} {env : Env} {h : Mem} {Q : W → Mem → Prop} {E : Ex → Mem → Prop}
theorem v_var {i : Nat} : (ev cs (.var i) env h).wp (p := ⟨Q, E⟩) = (getVar env i h).wp (p := ⟨Q, E⟩) := nr rfl
theorem v_lit {w : W} : (ev cs (.lit w) env h).wp (p := ⟨Q, E⟩) = Q w h := nr rfl
theorem v_glo {x : List Nat} {w : W} : (ev cs (.glo x w) env h).wp (p := ⟨Q, E⟩) = Q w h := nr rfl
theorem v_op {o : Op} {a b : DM.E} : (ev cs (.op o a b) env h).wp (p := ⟨Q, E⟩) = (ev cs a env h).wp (p := ⟨(fun x h => (ev cs b env h).wp (p := ⟨(fun y h => (op2 o x y h).wp (p := ⟨Q, E⟩)), E⟩)), E⟩) := by
  conv => lhs; unfold ev
  repeat' first | rfl | exact w_bind | (rw [w_bind]; apply wp_ext; intro _ _)
def negR (x : W) (h : Mem) : R W := match x with
    | .int i => .ok (.int (-i)) h
    | _ => .bad
theorem v_neg {a : DM.E} : (ev cs (.neg a) env h).wp (p := ⟨Q, E⟩) = (ev cs a env h).wp (p := ⟨(fun x h => (negR x h).wp (p := ⟨Q, E⟩)), E⟩) := by
  conv => lhs; unfold ev
  repeat' first | rfl | exact w_bind | (rw [w_bind]; apply wp_ext; intro _ _)
theorem v_negI {i : Int} : negR (.int i) h = .ok (.int (-i)) h := nr rfl
theorem v_not {a : DM.E} : (ev cs (.not a) env h).wp (p := ⟨Q, E⟩) = (ev cs a env h).wp (p := ⟨(fun x h => (isB x h fun b => .ok (.bl (!b)) h).wp (p := ⟨Q, E⟩)), E⟩) := by
  conv => lhs; unfold ev
  repeat' first | rfl | exact w_bind | (rw [w_bind]; apply wp_ext; intro _ _)
theorem v_and {a b : DM.E} : (ev cs (.and a b) env h).wp (p := ⟨Q, E⟩) = (ev cs a env h).wp (p := ⟨(fun x h => (isB x h fun c => if c then ev cs b env h else .ok (.bl false) h).wp (p := ⟨Q, E⟩)), E⟩) := by
  conv => lhs; unfold ev
  repeat' first | rfl | exact w_bind | (rw [w_bind]; apply wp_ext; intro _ _)
theorem v_or {a b : DM.E} : (ev cs (.or a b) env h).wp (p := ⟨Q, E⟩) = (ev cs a env h).wp (p := ⟨(fun x h => (isB x h fun c => if c then .ok (.bl true) h else ev cs b env h).wp (p := ⟨Q, E⟩)), E⟩) := by
  conv => lhs; unfold ev
  repeat' first | rfl | exact w_bind | (rw [w_bind]; apply wp_ext; intro _ _)
theorem v_isB {b : Bool} {f : Bool → R W} : (isB (.bl b) h f).wp (p := ⟨Q, E⟩) = (f b).wp (p := ⟨Q, E⟩) := nr rfl
theorem v_ch {a : DM.E} {c : Ch} : (ev cs (.ch a c) env h).wp (p := ⟨Q, E⟩) = (ev cs a env h).wp (p := ⟨(fun x h => (evc cs c x env h).wp (p := ⟨Q, E⟩)), E⟩) := by
  conv => lhs; unfold ev
  repeat' first | rfl | exact w_bind | (rw [w_bind]; apply wp_ext; intro _ _)
theorem v_one {o : Op} {e : DM.E} {x : W} : (evc cs (.one o e) x env h).wp (p := ⟨Q, E⟩) = (ev cs e env h).wp (p := ⟨(fun y h => (op2 o x y h).wp (p := ⟨Q, E⟩)), E⟩) := by
  conv => lhs; unfold evc
  repeat' first | rfl | exact w_bind | (rw [w_bind]; apply wp_ext; intro _ _)
theorem v_more {o : Op} {e : DM.E} {c : Ch} {x : W} : (evc cs (.more o e c) x env h).wp (p := ⟨Q, E⟩) = (ev cs e env h).wp (p := ⟨(fun y h => (op2 o x y h).wp (p := ⟨(fun z h => (isB z h fun k => if k then evc cs c y env h else .ok (.bl false) h).wp (p := ⟨Q, E⟩)), E⟩)), E⟩) := by
  conv => lhs; unfold evc
  repeat' first | rfl | exact w_bind | (rw [w_bind]; apply wp_ext; intro _ _)
theorem v_call {k : Nat} {es : Es} : (ev cs (.call k es) env h).wp (p := ⟨Q, E⟩) = (evs cs es env h).wp (p := ⟨(fun vs h => (cs.get (0, k) vs h).wp (p := ⟨Q, E⟩)), E⟩) := by
  conv => lhs; unfold ev
  repeat' first | rfl | exact w_bind | (rw [w_bind]; apply wp_ext; intro _ _)
theorem v_fld {cl : List Nat} {o : DM.E} {f : Nat} : (ev cs (.fld cl o f) env h).wp (p := ⟨Q, E⟩) = (ev cs o env h).wp (p := ⟨(fun x h => (getF cl f x h).wp (p := ⟨Q, E⟩)), E⟩) := by
  conv => lhs; unfold ev
  repeat' first | rfl | exact w_bind | (rw [w_bind]; apply wp_ext; intro _ _)
theorem v_meth {c m : Nat} {o : DM.E} {es : Es} : (ev cs (.meth c m o es) env h).wp (p := ⟨Q, E⟩) = (ev cs o env h).wp (p := ⟨(fun x h => (if isI c x h then (evs cs es env h).bind fun vs h => cs.get (c + 1, m) (x :: vs) h else .bad).wp (p := ⟨Q, E⟩)), E⟩) := by
  conv => lhs; unfold ev
  repeat' first | rfl | exact w_bind | (rw [w_bind]; apply wp_ext; intro _ _)
theorem v_make {c : Nat} {es : Es} : (ev cs (.make c es) env h).wp (p := ⟨Q, E⟩) = (evs cs es env h).wp (p := ⟨(fun vs h => (cs.get (c + 1, 0) (.ref h.length :: vs) (h ++ [.ins c []])).wp (p := ⟨(fun v h' => (if v = .non then R.ok (W.ref h.length) h' else .bad).wp (p := ⟨Q, E⟩)), E⟩)), E⟩) := by
  conv => lhs; unfold ev
  repeat' first | rfl | exact w_bind | (rw [w_bind]; apply wp_ext; intro _ _)
theorem v_bi {f : BI} {es : Es} : (ev cs (.bi f es) env h).wp (p := ⟨Q, E⟩) = (evs cs es env h).wp (p := ⟨(fun vs h => (biS f vs h).wp (p := ⟨Q, E⟩)), E⟩) := by
  conv => lhs; unfold ev
  repeat' first | rfl | exact w_bind | (rw [w_bind]; apply wp_ext; intro _ _)
theorem v_bm {f : BM} {o : DM.E} {es : Es} : (ev cs (.bm f o es) env h).wp (p := ⟨Q, E⟩) = (ev cs o env h).wp (p := ⟨(fun x h => (if recv f x h then (evs cs es env h).bind fun vs h => bmS f x vs h else .bad).wp (p := ⟨Q, E⟩)), E⟩) := by
  conv => lhs; unfold ev
  repeat' first | rfl | exact w_bind | (rw [w_bind]; apply wp_ext; intro _ _)
theorem v_idx {o i : DM.E} : (ev cs (.idx o i) env h).wp (p := ⟨Q, E⟩) = (ev cs o env h).wp (p := ⟨(fun x h => (ev cs i env h).wp (p := ⟨(fun y h => (index x y h).wp (p := ⟨Q, E⟩)), E⟩)), E⟩) := by
  conv => lhs; unfold ev
  repeat' first | rfl | exact w_bind | (rw [w_bind]; apply wp_ext; intro _ _)
theorem v_slc {o : DM.E} {lo hi : Eo} : (ev cs (.slc o lo hi) env h).wp (p := ⟨Q, E⟩) = (ev cs o env h).wp (p := ⟨(fun x h => (evo cs lo env h).wp (p := ⟨(fun a h => (oneOf a h fun i => (evo cs hi env h).bind fun b h => oneOf b h fun j => slice x i j h).wp (p := ⟨Q, E⟩)), E⟩)), E⟩) := by
  conv => lhs; unfold ev
  repeat' first | rfl | exact w_bind | (rw [w_bind]; apply wp_ext; intro _ _)
theorem v_lst {es : Es} : (ev cs (.lst es) env h).wp (p := ⟨Q, E⟩) = (evs cs es env h).wp (p := ⟨(fun vs h => (newL vs h).wp (p := ⟨Q, E⟩)), E⟩) := by
  conv => lhs; unfold ev
  repeat' first | rfl | exact w_bind | (rw [w_bind]; apply wp_ext; intro _ _)
theorem v_tup {es : Es} : (ev cs (.tup es) env h).wp (p := ⟨Q, E⟩) = (evs cs es env h).wp (p := ⟨(fun vs h => (if vs.length ≤ LIM then R.ok (.tup vs) h else .bad).wp (p := ⟨Q, E⟩)), E⟩) := by
  conv => lhs; unfold ev
  repeat' first | rfl | exact w_bind | (rw [w_bind]; apply wp_ext; intro _ _)
theorem v_dic0 : (ev cs .dic0 env h).wp (p := ⟨Q, E⟩) = Q (.ref h.length) (h ++ [.dic []]) := nr rfl
theorem v_xfl {o : DM.E} {f : Nat} : (ev cs (.xfl o f) env h).wp (p := ⟨Q, E⟩) = (ev cs o env h).wp (p := ⟨(fun x h => (getX f x h).wp (p := ⟨Q, E⟩)), E⟩) := by
  conv => lhs; unfold ev
  repeat' first | rfl | exact w_bind | (rw [w_bind]; apply wp_ext; intro _ _)
theorem v_xis {ms : List Nat} {o : DM.E} : (ev cs (.xis ms o) env h).wp (p := ⟨Q, E⟩) = (ev cs o env h).wp (p := ⟨(fun x h => (isX ms x h).wp (p := ⟨Q, E⟩)), E⟩) := by
  conv => lhs; unfold ev
  repeat' first | rfl | exact w_bind | (rw [w_bind]; apply wp_ext; intro _ _)
theorem v_nil {Q : List W → Mem → Prop} : (evs cs .nil env h).wp (p := ⟨Q, E⟩) = Q [] h := nr rfl
theorem v_cons {Q : List W → Mem → Prop} {e : DM.E} {es : Es} : (evs cs (.cons e es) env h).wp (p := ⟨Q, E⟩) = (ev cs e env h).wp (p := ⟨(fun x h => (evs cs es env h).wp (p := ⟨(fun xs h => Q (x :: xs) h), E⟩)), E⟩) := by
  conv => lhs; unfold evs
  repeat' first | rfl | exact w_bind | (rw [w_bind]; apply wp_ext; intro _ _)
theorem v_no {Q : Option W → Mem → Prop} : (evo cs .no env h).wp (p := ⟨Q, E⟩) = Q none h := nr rfl
theorem v_so {Q : Option W → Mem → Prop} {e : DM.E} : (evo cs (.so e) env h).wp (p := ⟨Q, E⟩) = (ev cs e env h).wp (p := ⟨(fun x h => Q (some x) h), E⟩) := by
  conv => lhs; unfold evo
  repeat' first | rfl | exact w_bind | (rw [w_bind]; apply wp_ext; intro _ _)
theorem v_oneN {f : Option Int → R W} : (oneOf none h f).wp (p := ⟨Q, E⟩) = (f none).wp (p := ⟨Q, E⟩) := nr rfl
theorem v_oneI {f : Option Int → R W} {i : Int} : (oneOf (some (.int i)) h f).wp (p := ⟨Q, E⟩) = (f (some i)).wp (p := ⟨Q, E⟩) := nr rfl
def walkR (x : W) (h : Mem) : R Walk := match walkOf h x with
    | some w => .ok w h
    | none => .bad
theorem v_of {Q : Walk → Mem → Prop} {e : DM.E} : (evi cs (.of e) env h).wp (p := ⟨Q, E⟩) = (ev cs e env h).wp (p := ⟨(fun x h => (walkR x h).wp (p := ⟨Q, E⟩)), E⟩) := by
  conv => lhs; unfold evi
  repeat' first | rfl | exact w_bind | (rw [w_bind]; apply wp_ext; intro _ _)
def rngR (i j k : W) (h : Mem) : R Walk := match i, j, k with
    | .int i, .int j, .int k => (match rngOf i j k with
      | some w => .ok w h
      | none => .bad)
    | _, _, _ => .bad
theorem v_rng1 {Q : Walk → Mem → Prop} {a : DM.E} : (evi cs (.rng1 a) env h).wp (p := ⟨Q, E⟩) = (ev cs a env h).wp (p := ⟨(fun x h => (rngR (.int 0) x (.int 1) h).wp (p := ⟨Q, E⟩)), E⟩) := by
  conv => lhs; unfold evi
  rw [w_bind]
  apply wp_ext
  intro x h
  cases x <;> rfl
theorem v_rng2 {Q : Walk → Mem → Prop} {a b : DM.E} : (evi cs (.rng2 a b) env h).wp (p := ⟨Q, E⟩) = (ev cs a env h).wp (p := ⟨(fun x h => (ev cs b env h).wp (p := ⟨(fun y h => (rngR x y (.int 1) h).wp (p := ⟨Q, E⟩)), E⟩)), E⟩) := by
  conv => lhs; unfold evi
  rw [w_bind]
  apply wp_ext
  intro x h
  rw [w_bind]
  apply wp_ext
  intro y h
  cases x <;> cases y <;> rfl
theorem v_rng3 {Q : Walk → Mem → Prop} {a b c : DM.E} : (evi cs (.rng3 a b c) env h).wp (p := ⟨Q, E⟩) = (ev cs a env h).wp (p := ⟨(fun x h => (ev cs b env h).wp (p := ⟨(fun y h => (ev cs c env h).wp (p := ⟨(fun z h => (rngR x y z h).wp (p := ⟨Q, E⟩)), E⟩)), E⟩)), E⟩) := by
  conv => lhs; unfold evi
  repeat' first | rfl | exact w_bind | (rw [w_bind]; apply wp_ext; intro _ _)
theorem v_walkT {Q : Walk → Mem → Prop} {xs : List W} : (walkR (.tup xs) h).wp (p := ⟨Q, E⟩) = Q ⟨xs, none, []⟩ h := nr rfl
theorem v_walkC {Q : Walk → Mem → Prop} {xs : List W} : (walkR (.con xs) h).wp (p := ⟨Q, E⟩) = Q ⟨xs, none, []⟩ h := nr rfl
theorem v_walkS {Q : Walk → Mem → Prop} {x : List Nat} : (walkR (.str x) h).wp (p := ⟨Q, E⟩) = Q ⟨x.map fun c => .str [c], none, []⟩ h := nr rfl
theorem v_walkR {Q : Walk → Mem → Prop} {a : Nat} {xs : List W} (e : h[a]? = some (.lst xs)) : (walkR (.ref a) h).wp (p := ⟨Q, E⟩) = Q ⟨xs, some a, []⟩ h := by
  unfold walkR
  rw [p_walk e]
  rfl
theorem v_rngI {Q : Walk → Mem → Prop} {i j : Int} (a : -1000000000000 ≤ i) (b : i ≤ 1000000000000) (c : -1000000000000 ≤ j) (d : j ≤ 1000000000000) : (rngR (.int i) (.int j) (.int 1) h).wp (p := ⟨Q, E⟩) = Q ⟨upL i (j - i).toNat, none, []⟩ h := by
  unfold rngR
  dsimp only
  rw [p_rng d c b a]
  rfl
theorem v_enum {Q : Walk → Mem → Prop} {e : DM.E} : (evi cs (.enum e) env h).wp (p := ⟨Q, E⟩) = (ev cs e env h).wp (p := ⟨fun x h => (match enumOf h x with
    | some w => R.ok w h
    | none => .bad).wp (p := ⟨Q, E⟩), E⟩) := by
  conv => lhs; unfold evi
  repeat' first | rfl | exact w_bind | (rw [w_bind]; apply wp_ext; intro _ _)
theorem v_zip {Q : Walk → Mem → Prop} {a b : DM.E} : (evi cs (.zip a b) env h).wp (p := ⟨Q, E⟩) = (ev cs a env h).wp (p := ⟨fun x h => (ev cs b env h).wp (p := ⟨fun y h => (match zipOf h x y with
    | some w => R.ok w h
    | none => .bad).wp (p := ⟨Q, E⟩), E⟩), E⟩) := by
  conv => lhs; unfold evi
  repeat' first | rfl | exact w_bind | (rw [w_bind]; apply wp_ext; intro _ _)
theorem v_rev {o : DM.E} : (ev cs (.rev o) env h).wp (p := ⟨Q, E⟩) = (ev cs o env h).wp (p := ⟨fun x h => (match getL h x with
    | some xs => alloc (.lst xs.reverse) h
    | none => .bad).wp (p := ⟨Q, E⟩), E⟩) := by
  conv => lhs; unfold ev
  repeat' first | rfl | exact w_bind | (rw [w_bind]; apply wp_ext; intro _ _)
theorem v_lof {it : It} : (ev cs (.lof it) env h).wp (p := ⟨Q, E⟩) = (evi cs it env h).wp (p := ⟨fun w h => (newL w.xs h).wp (p := ⟨Q, E⟩), E⟩) := by
  conv => lhs; unfold ev
  repeat' first | rfl | exact w_bind | (rw [w_bind]; apply wp_ext; intro _ _)
theorem v_tst {Q : Bool → Mem → Prop} {e : DM.E} : (tst cs e env h).wp (p := ⟨Q, E⟩) = (ev cs e env h).wp (p := ⟨(fun x h => (tru x h).wp (p := ⟨Q, E⟩)), E⟩) := by
  unfold tst
  rw [w_bind]
theorem v_truB {Q : Bool → Mem → Prop} {b : Bool} : (tru (.bl b) h).wp (p := ⟨Q, E⟩) = Q b h := nr rfl
theorem v_run {d : Df} {vs : List W} : (run d cs vs h).wp (p := ⟨Q, E⟩) = if vs.length = d.np then (xss cs d.body (vs.map some ++ List.replicate (d.n - d.np) none) h).wp (p := ⟨(fun _ h => Q .non h), Q, (fun x _ h => E x h)⟩) else False := by
  unfold run
  split
  · rw [w_fn]
  · rfl
end
section
variable {cs : Tab} {env : Env} {h : Mem} {N : Env → Mem → Prop} {Q : W → Mem → Prop} {E : Ex → Env → Mem → Prop}
def setR (t : Tg) (v : W) (env : Env) (h : Mem) : RS := match asgM h t v env with
    | some env' => .nx env' h
    | none => .bad
def memR (o : Option Mem) (env : Env) : RS := match o with
    | some h' => .nx env h'
    | none => .bad
theorem s_set {t : Tg} {e : DM.E} : (xs cs (.set t e) env h).wp (p := ⟨N, Q, E⟩) = (ev cs e env h).wp (p := ⟨(fun v h => (setR t v env h).wp (p := ⟨N, Q, E⟩)), (fun x h => E x env h)⟩) := by
  conv => lhs; unfold xs
  rw [w_st]
  rfl
theorem s_setI {o i e : DM.E} : (xs cs (.setI o i e) env h).wp (p := ⟨N, Q, E⟩) = (ev cs e env h).wp (p := ⟨(fun v h => (ev cs o env h).wp (p := ⟨(fun x h => (ev cs i env h).wp (p := ⟨(fun y h => (memR (storeAt x y v h) env).wp (p := ⟨N, Q, E⟩)), (fun x h => E x env h)⟩)), (fun x h => E x env h)⟩)), (fun x h => E x env h)⟩) := by
  conv => lhs; unfold xs
  repeat' first | rfl | exact w_st | (rw [w_st]; apply wp_ext; intro _ _)
theorem s_setF {cl : List Nat} {o : DM.E} {f : Nat} {e : DM.E} : (xs cs (.setF cl o f e) env h).wp (p := ⟨N, Q, E⟩) = (ev cs e env h).wp (p := ⟨(fun v h => (ev cs o env h).wp (p := ⟨(fun x h => (memR (storeF cl x f v h) env).wp (p := ⟨N, Q, E⟩)), (fun x h => E x env h)⟩)), (fun x h => E x env h)⟩) := by
  conv => lhs; unfold xs
  repeat' first | rfl | exact w_st | (rw [w_st]; apply wp_ext; intro _ _)
theorem s_incF {cl : List Nat} {o : DM.E} {f : Nat} {d : Int} : (xs cs (.incF cl o f d) env h).wp (p := ⟨N, Q, E⟩) = (ev cs o env h).wp (p := ⟨(fun x h => (memR (addF cl x f d h) env).wp (p := ⟨N, Q, E⟩)), (fun x h => E x env h)⟩) := by
  conv => lhs; unfold xs
  repeat' first | rfl | exact w_st | (rw [w_st]; apply wp_ext; intro _ _)
theorem s_ret {e : DM.E} : (xs cs (.ret e) env h).wp (p := ⟨N, Q, E⟩) = (ev cs e env h).wp (p := ⟨Q, (fun x h => E x env h)⟩) := by
  conv => lhs; unfold xs
  repeat' first | rfl | exact w_st | (rw [w_st]; apply wp_ext; intro _ _)
theorem s_retN : (xs cs .retN env h).wp (p := ⟨N, Q, E⟩) = Q .non h := nr rfl
theorem s_expr {e : DM.E} : (xs cs (.expr e) env h).wp (p := ⟨N, Q, E⟩) = (ev cs e env h).wp (p := ⟨(fun _ h => N env h), (fun x h => E x env h)⟩) := by
  conv => lhs; unfold xs
  repeat' first | rfl | exact w_st | (rw [w_st]; apply wp_ext; intro _ _)
theorem s_pass : (xs cs .pass env h).wp (p := ⟨N, Q, E⟩) = N env h := nr rfl
theorem s_bad : (xs cs .bad env h).wp (p := ⟨N, Q, E⟩) = False := nr rfl
theorem s_ite {c : DM.E} {a b : Ss} : (xs cs (.ite c a b) env h).wp (p := ⟨N, Q, E⟩) = (tst cs c env h).wp (p := ⟨(fun k h => (if k then xss cs a env h else xss cs b env h).wp (p := ⟨N, Q, E⟩)), (fun x h => E x env h)⟩) := by
  conv => lhs; unfold xs
  repeat' first | rfl | exact w_st | (rw [w_st]; apply wp_ext; intro _ _)
theorem s_for {t : Tg} {it : It} {b : Ss} : (xs cs (.for t it b) env h).wp (p := ⟨N, Q, E⟩) = (evi cs it env h).wp (p := ⟨(fun w h => (forL t (fun env h => xss cs b env h) w w.xs env h).wp (p := ⟨N, Q, E⟩)), (fun x h => E x env h)⟩) := by
  conv => lhs; unfold xs
  repeat' first | rfl | exact w_st | (rw [w_st]; apply wp_ext; intro _ _)
theorem s_while {c : DM.E} {b : Ss} : (xs cs (.while c b) env h).wp (p := ⟨N, Q, E⟩) = (whileN (fun env h => tst cs c env h) (fun env h => xss cs b env h) WL env h).wp (p := ⟨N, Q, E⟩) := by
  conv => lhs; unfold xs
theorem s_rai {c : Nat} {fl : List Nat} {es : Es} : (xs cs (.rai c fl es) env h).wp (p := ⟨N, Q, E⟩) = (evs cs es env h).wp (p := ⟨(fun vs h => (raiX c fl vs env h).wp (p := ⟨N, Q, E⟩)), (fun x h => E x env h)⟩) := by
  conv => lhs; unfold xs
  repeat' first | rfl | exact w_st | (rw [w_st]; apply wp_ext; intro _ _)
theorem s_try {b : Ss} {hs : Hs} : (xs cs (.try b hs) env h).wp (p := ⟨N, Q, E⟩) = (xss cs b env h).wp (p := ⟨N, Q, (fun x env h => (xhs cs hs x env h).wp (p := ⟨N, Q, E⟩))⟩) := by
  conv => lhs; unfold xs
  rw [w_catch]
theorem s_nil : (xss cs .nil env h).wp (p := ⟨N, Q, E⟩) = N env h := nr rfl
theorem s_cons {s : S} {ss : Ss} : (xss cs (.cons s ss) env h).wp (p := ⟨N, Q, E⟩) = (xs cs s env h).wp (p := ⟨(fun env h => (xss cs ss env h).wp (p := ⟨N, Q, E⟩)), Q, E⟩) := by
  conv => lhs; unfold xss
  rw [w_then]
theorem s_hnil {x : Ex} : (xhs cs .nil x env h).wp (p := ⟨N, Q, E⟩) = E x env h := nr rfl
theorem s_hcons {c : Nat} {ms : List Nat} {i : Option Nat} {b : Ss} {r : Hs} {x : Ex} : (xhs cs (.cons c ms i b r) x env h).wp (p := ⟨N, Q, E⟩) = if ms.contains x.c then (xss cs b (putE env i (some (.ref h.length))) (h ++ [.exc x.c x.fs])).wp (p := ⟨(fun env h => N (putE env i none) h), Q, (fun _ _ _ => False)⟩) else (xhs cs r x env h).wp (p := ⟨N, Q, E⟩) := by
  conv => lhs; unfold xhs
  split
  · rw [w_gone]
  · rfl
theorem s_setNm {i : Nat} {v : W} : (setR (.nm i) v env h).wp (p := ⟨N, Q, E⟩) = N (env.set i (some v)) h := by
  unfold setR
  rw [asgM_nm]
  rfl
theorem s_setTp {ts : List Tg} {xs : List W} : (setR (.tp ts) (.tup xs) env h).wp (p := ⟨N, Q, E⟩) = (match asgs ts xs env with
    | some env' => RS.nx env' h
    | none => .bad).wp (p := ⟨N, Q, E⟩) := by
  unfold setR
  rw [asgM_tp]
theorem s_memS {h' : Mem} : (memR (some h') env).wp (p := ⟨N, Q, E⟩) = N env h' := nr rfl
end
end DM

/-! Dicts as rows of pairs: what is found, put, dropped; how far the keys go without a gap. -/
namespace DM
open PySem
theorem find_cons {a : W × W} {r : List (W × W)} {k : W} : findK (a :: r) k = if a.1 = k then some a.2 else findK r k := by
  unfold findK
  rw [List.find?_cons]
  by_cases c : a.1 = k
  · simp [c]
  · simp [c]
theorem find_nil {k : W} : findK [] k = none := rfl
theorem find_app {xs ys : List (W × W)} {k : W} : findK (xs ++ ys) k = match findK xs k with
    | some v => some v
    | none => findK ys k := by
  induction xs with
  | nil => rfl
  | cons a r ih =>
    rw [List.cons_append, find_cons, find_cons, ih]
    split <;> rfl
theorem find_map {kvs : List (W × W)} {k v j : W} : findK (kvs.map fun kv => if kv.1 = k then (kv.1, v) else kv) j = if j = k then (findK kvs j).map (fun _ => v) else findK kvs j := by
  induction kvs with
  | nil =>
    rw [List.map_nil, find_nil]
    split <;> rfl
  | cons a r ih =>
    rw [List.map_cons, find_cons, find_cons, ih]
    by_cases c : a.1 = k
    · rw [if_pos c]
      by_cases d : j = k
      · rw [if_pos d, if_pos d]
        subst d
        rw [if_pos c, if_pos c]
        rfl
      · rw [if_neg d, if_neg d, if_neg (fun z => d (z.symm.trans c)), if_neg (fun z => d (z.symm.trans c))]
    · rw [if_neg c]
      by_cases d : j = k
      · subst d
        rw [if_pos rfl, if_pos rfl, if_neg c, if_neg c]
      · rw [if_neg d, if_neg d]
theorem find_put {kvs : List (W × W)} {k v j : W} : findK (putKW kvs k v) j = if j = k then some v else findK kvs j := by
  unfold putKW
  cases e : findK kvs k with
  | none =>
    show findK (kvs ++ [(k, v)]) j = _
    rw [find_app, find_cons, find_nil]
    by_cases c : j = k
    · subst c
      rw [e, if_pos rfl]
    · rw [if_neg c, if_neg (fun z => c z.symm)]
      cases findK kvs j <;> rfl
  | some w =>
    show findK (kvs.map _) j = _
    rw [find_map]
    by_cases c : j = k
    · subst c
      rw [e, if_pos rfl, if_pos rfl]
      rfl
    · rw [if_neg c, if_neg c]
theorem put_len {kvs : List (W × W)} {k v : W} : (putKW kvs k v).length ≤ kvs.length + 1 := by
  unfold putKW
  split
  · rw [List.length_map]
    omega
  · rw [List.length_append]
    exact Nat.le_refl _
theorem find_drop {kvs : List (W × W)} {k j : W} : findK (dropKW kvs k) j = if j = k then none else findK kvs j := by
  unfold dropKW
  induction kvs with
  | nil =>
    rw [List.filter_nil, find_nil]
    split <;> rfl
  | cons a r ih =>
    rw [List.filter_cons]
    by_cases c : a.1 = k
    · rw [if_neg (by simp [c]), ih, find_cons]
      by_cases d : j = k
      · rw [if_pos d, if_pos d]
      · rw [if_neg d, if_neg d, if_neg (fun z => d (z.symm.trans c))]
    · rw [if_pos (by simp [c]), find_cons, find_cons, ih]
      by_cases d : j = k
      · subst d
        rw [if_pos rfl, if_pos rfl, if_neg c]
      · rw [if_neg d, if_neg d]
theorem drop_len {kvs : List (W × W)} {k : W} : (dropKW kvs k).length ≤ kvs.length := List.length_filter_le _ _
/-- whether a number is a key -/
def hasI (kvs : List (W × W)) (g : Int) : Bool := (findK kvs (.int g)).isSome
theorem has_put {kvs : List (W × W)} {g j : Int} {v : W} : hasI (putKW kvs (.int g) v) j = (decide (j = g) || hasI kvs j) := by
  unfold hasI
  rw [find_put]
  by_cases c : j = g
  · simp [c]
  · simp [c]
theorem has_drop {kvs : List (W × W)} {g j : Int} : hasI (dropKW kvs (.int g)) j = (!decide (j = g) && hasI kvs j) := by
  unfold hasI
  rw [find_drop]
  by_cases c : j = g
  · simp [c]
  · simp [c]
/-- how many keys are no less than a number -/
def cnt (kvs : List (W × W)) (g : Int) : Nat := (kvs.filter fun kv => match kv.1 with
  | .int k => decide (g ≤ k)
  | _ => false).length
theorem cnt_le {kvs : List (W × W)} {g : Int} : cnt kvs g ≤ kvs.length := List.length_filter_le _ _
theorem cnt_step {kvs : List (W × W)} {g : Int} : cnt kvs (g + 1) ≤ cnt kvs g := by
  unfold cnt
  induction kvs with
  | nil => exact Nat.le_refl _
  | cons a r ih =>
    rw [List.filter_cons, List.filter_cons]
    obtain ⟨x, y⟩ := a
    cases x with
    | int k =>
      dsimp only
      by_cases c : g + 1 ≤ k
      · rw [if_pos (decide_eq_true c), if_pos (decide_eq_true (by omega))]
        simp only [List.length_cons]
        omega
      · rw [if_neg (by simp; omega)]
        split
        · simp only [List.length_cons]
          omega
        · exact ih
    | _ => exact ih
theorem cnt_lt {kvs : List (W × W)} {g : Int} (e : hasI kvs g = true) : cnt kvs (g + 1) < cnt kvs g := by
  unfold hasI at e
  induction kvs with
  | nil => exact nomatch e
  | cons a r ih =>
    rw [find_cons] at e
    have st := cnt_step (kvs := r) (g := g)
    unfold cnt at ih st ⊢
    rw [List.filter_cons, List.filter_cons]
    obtain ⟨x, y⟩ := a
    by_cases c : x = .int g
    · subst c
      dsimp only
      rw [if_neg (by simp; omega), if_pos (by simp)]
      simp only [List.length_cons]
      omega
    · dsimp only at e
      rw [if_neg c] at e
      have ih := ih e
      cases x with
      | int k =>
        dsimp only
        by_cases c : g + 1 ≤ k
        · rw [if_pos (decide_eq_true c), if_pos (decide_eq_true (by omega))]
          simp only [List.length_cons]
          omega
        · rw [if_neg (by simp; omega)]
          split
          · simp only [List.length_cons]
            omega
          · exact ih
      | _ => exact ih
/-- from a number on, behind all keys without a gap -/
def advN (kvs : List (W × W)) : Nat → Int → Int
  | 0, g => g
  | n + 1, g => if hasI kvs g then advN kvs n (g + 1) else g
def adv (kvs : List (W × W)) (g : Int) : Int := advN kvs (kvs.length + 1) g
theorem advN_le {kvs : List (W × W)} : ∀ (n : Nat) (g : Int), g ≤ advN kvs n g
  | 0, g => Int.le_refl _
  | n + 1, g => by
    unfold advN
    split
    · have := advN_le (kvs := kvs) n (g + 1)
      omega
    · exact Int.le_refl _
theorem advN_has {kvs : List (W × W)} : ∀ (n : Nat) (g j : Int), g ≤ j → j < advN kvs n g → hasI kvs j = true
  | 0, g, j, a, b => by
    unfold advN at b
    omega
  | n + 1, g, j, a, b => by
    unfold advN at b
    split at b
    · rename_i c
      by_cases d : j = g
      · rw [d]
        exact c
      · exact advN_has n (g + 1) j (by omega) b
    · omega
theorem advN_end {kvs : List (W × W)} : ∀ (n : Nat) (g : Int), cnt kvs g < n → hasI kvs (advN kvs n g) = false
  | 0, g, l => absurd l (by omega)
  | n + 1, g, l => by
    unfold advN
    split
    · rename_i c
      have := cnt_lt c
      exact advN_end n (g + 1) (by omega)
    · rename_i c
      simpa using c
theorem adv_le {kvs : List (W × W)} {g : Int} : g ≤ adv kvs g := advN_le _ _
theorem adv_has {kvs : List (W × W)} {g j : Int} (a : g ≤ j) (b : j < adv kvs g) : hasI kvs j = true := advN_has _ _ _ a b
theorem adv_end {kvs : List (W × W)} {g : Int} : hasI kvs (adv kvs g) = false := advN_end _ _ (by have := cnt_le (kvs := kvs) (g := g); omega)
/-- the only such one -/
theorem adv_eq {kvs : List (W × W)} {g e : Int} (l : g ≤ e) (hs : ∀ j, g ≤ j → j < e → hasI kvs j = true) (n : hasI kvs e = false) : adv kvs g = e := by
  have a := adv_le (kvs := kvs) (g := g)
  have b := adv_end (kvs := kvs) (g := g)
  rcases Int.lt_trichotomy (adv kvs g) e with c | c | c
  · rw [hs _ a c] at b
    exact nomatch b
  · exact c
  · rw [adv_has l c] at n
    exact nomatch n
theorem adv_step {kvs : List (W × W)} {g : Int} (e : hasI kvs g = true) : adv kvs (g + 1) = adv kvs g := by
  refine (adv_eq ?_ (fun j a b => adv_has (by omega) b) adv_end)
  have a := adv_le (kvs := kvs) (g := g)
  have b := adv_end (kvs := kvs) (g := g)
  by_cases c : adv kvs g = g
  · rw [c, e] at b
    exact nomatch b
  · omega
theorem adv_no {kvs : List (W × W)} {g : Int} (e : hasI kvs g = false) : adv kvs g = g := adv_eq (Int.le_refl _) (fun j a b => absurd a (by omega)) e
end DM

namespace DM
section
open PySem
/-- _law_size(_law_cell, _law_small, _law_large): 0 _law_cell, 1 _law_small, 2 _law_large -/
def f__law_size : Df := ⟨3, 3, (.cons (.ite (.op .eq (.op .mod (.op .fdiv (.var 0) (.lit (.int 64))) (.lit (.int 4))) (.lit (.int 1))) (.cons (.ret (.op .add (.lit (.int 1)) (.op .mod (.var 0) (.var 2))))
    .nil) .nil)
    (.cons (.ret (.op .add (.lit (.int 1)) (.op .mod (.var 0) (.var 1))))
    .nil))⟩
/-- check_pair(ring, room, lag): 0 ring, 1 room, 2 lag -/
def f_check_pair : Df := ⟨3, 3, (.cons (.ite (.or (.not (.ch (.lit (.int 1)) (.more .le (.var 1) (.one .le (.glo [] (.int 60)))))) (.not (.ch (.var 1) (.more .lt (.var 0) (.one .le (.glo [] (.int 1000000))))))) (.cons (.rai 2 [] (.cons (.lit (.str [110, 111, 32, 114, 111, 111, 109, 32, 111, 114, 32, 110, 111, 32, 114, 105, 110, 103, 32, 111, 102, 32, 97, 32, 112, 97, 105, 114])) .nil))
    .nil) .nil)
    (.cons (.ite (.not (.ch (.lit (.int 1)) (.more .le (.var 2) (.one .le (.glo [] (.int 60)))))) (.cons (.rai 2 [] (.cons (.lit (.str [110, 111, 32, 108, 97, 103, 32, 111, 102, 32, 97, 32, 112, 97, 105, 114])) .nil))
    .nil) .nil)
    .nil))⟩
/-- Pair.__init__(self, ring, room, lag): 0 self, 1 ring, 2 room, 3 lag -/
def f_Pair___init__ : Df := ⟨4, 4, (.cons (.expr (.call 1 (.cons (.var 1) (.cons (.var 2) (.cons (.var 3) .nil)))))
    (.cons (.setF [0] (.var 0) 0 (.var 1))
    (.cons (.setF [0] (.var 0) 1 (.var 2))
    (.cons (.setF [0] (.var 0) 2 (.var 3))
    (.cons (.setF [0] (.var 0) 3 (.lit (.int 0)))
    (.cons (.setF [0] (.var 0) 4 (.lit (.int 0)))
    (.cons (.setF [0] (.var 0) 5 (.lit (.int 0)))
    (.cons (.setF [0] (.var 0) 6 .dic0)
    (.cons (.setF [0] (.var 0) 7 (.lst .nil))
    (.cons (.setF [0] (.var 0) 8 (.lst .nil))
    .nil))))))))))⟩
/-- _law_cell_at(_law_script, _law_k): 0 _law_script, 1 _law_k -/
def f__law_cell_at : Df := ⟨2, 2, (.cons (.ite (.op .lt (.var 1) (.bi .len (.cons (.var 0) .nil))) (.cons (.ret (.idx (.var 0) (.var 1)))
    .nil) .nil)
    (.cons (.ret (.lit (.int 0)))
    .nil))⟩
/-- _law_ring(_law_cell, _law_room, _law_lag): 0 _law_cell, 1 _law_room, 2 _law_lag, 3 _law_least -/
def f__law_ring : Df := ⟨3, 4, (.cons (.set (.nm 3) (.op .sub (.op .add (.op .mul (.lit (.int 2)) (.var 1)) (.var 2)) (.lit (.int 1))))
    (.cons (.ite (.op .eq (.var 1) (.lit (.int 1))) (.cons (.set (.nm 3) (.op .add (.lit (.int 2)) (.op .fdiv (.var 2) (.lit (.int 2)))))
    .nil) .nil)
    (.cons (.ite (.op .eq (.op .mod (.var 0) (.lit (.int 4))) (.lit (.int 0))) (.cons (.ret (.op .add (.var 3) (.op .mod (.op .fdiv (.var 0) (.lit (.int 4))) (.lit (.int 8)))))
    .nil) .nil)
    (.cons (.ite (.op .eq (.op .mod (.var 0) (.lit (.int 4))) (.lit (.int 1))) (.cons (.ret (.op .add (.var 3) (.op .mod (.op .fdiv (.var 0) (.lit (.int 4))) (.op .sub (.lit (.int 1000001)) (.var 3)))))
    .nil) .nil)
    (.cons (.ret (.var 3))
    .nil)))))⟩
/-- _law_is_row(_law_cell): 0 _law_cell -/
def f__law_is_row : Df := ⟨1, 1, (.cons (.ret (.and (.op .ge (.var 0) (.op .shl (.lit (.int 1)) (.lit (.int 90)))) (.op .eq (.op .mod (.var 0) (.lit (.int 2))) (.lit (.int 1)))))
    .nil)⟩
def l__law_mixed_0 : Ss := (.cons (.set (.nm 2) (.op .mod (.op .add (.op .add (.op .mul (.var 2) (.var 2)) (.op .mul (.lit (.int 48271)) (.var 2))) (.var 1)) (.lit (.int 2147483647))))
    .nil)
/-- _law_mixed(_law_cell, _law_k): 0 _law_cell, 1 _law_k, 2 _law_number, 3 _law_turn -/
def f__law_mixed : Df := ⟨2, 4, (.cons (.set (.nm 2) (.op .add (.op .mod (.var 0) (.lit (.int 2147483647))) (.lit (.int 48271))))
    (.cons (.for (.nm 3) (.rng1 (.lit (.int 2))) l__law_mixed_0)
    (.cons (.ret (.var 2))
    .nil)))⟩
def c__law_births_0 : E := (.op .ge (.var 4) (.lit (.int 0)))
def c__law_births_1 : E := (.var 4)
def k__law_births_2 : E := (.comp (.nm 4) (.of (.var 3)) [4] (.so c__law_births_0) c__law_births_1)
def b__law_births_4 : Ss := (.cons (.ite (.op .eq (.op .mod (.op .fdiv (.var 0) (.lit (.int 32))) (.lit (.int 2))) (.lit (.int 1))) (.cons (.set (.nm 3) (.rev (.var 3)))
    .nil) .nil)
    (.cons (.ret k__law_births_2)
    .nil))
/-- _law_births(_law_number, _law_now, _law_lag): 0 _law_number, 1 _law_now, 2 _law_lag, 3 _law_found, 4 _law_birth -/
def f__law_births : Df := ⟨3, 5, (.cons (.set (.nm 3) (.lst .nil))
    (.cons (.ite (.op .ne (.op .mod (.var 0) (.lit (.int 4))) (.lit (.int 0))) (.cons (.expr (.bm .append (.var 3) (.cons (.op .sub (.var 1) (.lit (.int 1))) .nil)))
    .nil) .nil)
    (.cons (.ite (.op .eq (.op .mod (.op .fdiv (.var 0) (.lit (.int 4))) (.lit (.int 2))) (.lit (.int 1))) (.cons (.expr (.bm .append (.var 3) (.cons (.op .sub (.var 1) (.var 2)) .nil)))
    .nil) .nil)
    (.cons (.ite (.op .eq (.op .mod (.op .fdiv (.var 0) (.lit (.int 8))) (.lit (.int 4))) (.lit (.int 1))) (.cons (.expr (.bm .append (.var 3) (.cons (.op .sub (.op .sub (.var 1) (.lit (.int 1))) (.op .mod (.op .fdiv (.var 0) (.lit (.int 64))) (.var 2))) .nil)))
    .nil) .nil)
    b__law_births_4))))⟩
/-- _law_digit(_law_cell, _law_k): 0 _law_cell, 1 _law_k, 2 _law_number -/
def f__law_digit : Df := ⟨2, 3, (.cons (.ite (.op .gt (.op .shr (.var 0) (.op .add (.lit (.int 1)) (.op .mul (.lit (.int 31)) (.var 1)))) (.lit (.int 0))) (.cons (.ret (.op .mod (.op .shr (.var 0) (.op .add (.lit (.int 1)) (.op .mul (.lit (.int 31)) (.var 1)))) (.lit (.int 2147483648))))
    .nil) .nil)
    (.cons (.set (.nm 2) (.op .mod (.op .mul (.op .add (.op .add (.var 0) (.op .mul (.lit (.int 7919)) (.var 1))) (.lit (.int 1))) (.lit (.int 48271))) (.lit (.int 2147483647))))
    (.cons (.set (.nm 2) (.op .mod (.op .mul (.var 2) (.op .add (.op .fdiv (.var 2) (.lit (.int 1009))) (.lit (.int 69621)))) (.lit (.int 2147483647))))
    (.cons (.ret (.op .mod (.op .mul (.var 2) (.op .add (.op .add (.op .fdiv (.var 2) (.lit (.int 2003))) (.lit (.int 39373))) (.var 1))) (.lit (.int 2147483629))))
    .nil))))⟩
def c__law_picked_0 : E := (.op .ge (.var 6) (.lit (.int 0)))
def c__law_picked_1 : E := (.var 6)
def k__law_picked_2 : E := (.comp (.nm 6) (.of (.var 4)) [6] (.so c__law_picked_0) c__law_picked_1)
def c__law_picked_3 : E := (.op .sub (.op .sub (.var 2) (.lit (.int 1))) (.op .mod (.call 7 (.cons (.var 0) (.cons (.op .add (.op .add (.var 1) (.lit (.int 1))) (.var 5)) .nil))) (.var 3)))
def k__law_picked_4 : E := (.comp (.nm 5) (.rng1 (.op .mod (.call 7 (.cons (.var 0) (.cons (.var 1) .nil))) (.lit (.int 9)))) [5] .no c__law_picked_3)
/-- _law_picked(_law_cell, _law_k, _law_now, _law_lag): 0 _law_cell, 1 _law_k, 2 _law_now, 3 _law_lag, 4 _law_found, 5 _law_j, 6 _law_birth -/
def f__law_picked : Df := ⟨4, 7, (.cons (.set (.nm 4) k__law_picked_4)
    (.cons (.ret k__law_picked_2)
    .nil))⟩
def b__law_drawn_4 : Ss := (.cons (.ret (.tup (.cons (.var 4) (.cons (.call 6 (.cons (.call 5 (.cons (.var 0) (.cons (.op .add (.var 1) (.lit (.int 1009))) .nil))) (.cons (.var 1) (.cons (.var 2) .nil)))) .nil))))
    .nil)
/-- _law_drawn(_law_cell, _law_now, _law_lag): 0 _law_cell, 1 _law_now, 2 _law_lag, 3 _law_number, 4 _law_comings -/
def f__law_drawn : Df := ⟨3, 5, (.cons (.ite (.call 4 (.cons (.var 0) .nil)) (.cons (.ret (.tup (.cons (.call 8 (.cons (.var 0) (.cons (.lit (.int 1)) (.cons (.var 1) (.cons (.var 2) .nil))))) (.cons (.call 8 (.cons (.var 0) (.cons (.lit (.int 11)) (.cons (.var 1) (.cons (.var 2) .nil))))) .nil))))
    .nil) .nil)
    (.cons (.set (.nm 3) (.call 5 (.cons (.var 0) (.cons (.var 1) .nil))))
    (.cons (.set (.nm 4) (.call 6 (.cons (.var 3) (.cons (.var 1) (.cons (.var 2) .nil)))))
    (.cons (.ite (.op .eq (.op .mod (.op .fdiv (.var 3) (.lit (.int 1000003))) (.lit (.int 4))) (.lit (.int 1))) (.cons (.set (.nm 4) (.op .add (.var 4) (.var 4)))
    .nil) .nil)
    b__law_drawn_4))))⟩
/-- _law_item(_law_cell, _law_now, _law_base, _law_top, _law_room): 0 _law_cell, 1 _law_now, 2 _law_base, 3 _law_top, 4 _law_room, 5 _law_number, 6 _law_some -/
def f__law_item : Df := ⟨5, 7, (.cons (.ite (.call 4 (.cons (.var 0) .nil)) (.cons (.set (.nm 6) (.op .add (.lst (.cons (.lit .non) .nil)) (.lof (.rng2 (.var 2) (.op .add (.bi .min (.cons (.var 3) (.cons (.op .sub (.op .add (.var 2) (.var 4)) (.lit (.int 1))) .nil))) (.lit (.int 1)))))))
    (.cons (.ret (.idx (.var 6) (.op .mod (.call 7 (.cons (.var 0) (.cons (.lit (.int 0)) .nil))) (.bi .len (.cons (.var 6) .nil)))))
    .nil)) .nil)
    (.cons (.set (.nm 5) (.call 5 (.cons (.var 0) (.cons (.op .add (.var 1) (.lit (.int 2003))) .nil))))
    (.cons (.ite (.op .eq (.op .mod (.var 5) (.lit (.int 8))) (.lit (.int 0))) (.cons (.ret (.lit .non))
    .nil) .nil)
    (.cons (.ite (.and (.op .lt (.op .mod (.var 5) (.lit (.int 8))) (.lit (.int 6))) (.op .lt (.var 3) (.op .add (.var 2) (.var 4)))) (.cons (.ret (.var 3))
    .nil) .nil)
    (.cons (.ite (.and (.op .eq (.op .mod (.var 5) (.lit (.int 8))) (.lit (.int 7))) (.op .lt (.var 2) (.var 3))) (.cons (.ret (.op .add (.var 2) (.op .mod (.op .fdiv (.var 5) (.lit (.int 8))) (.op .sub (.var 3) (.var 2)))))
    .nil) .nil)
    (.cons (.ret (.var 2))
    .nil))))))⟩
/-- _law_whole(_law_found): 0 _law_found -/
def f__law_whole : Df := ⟨1, 1, (.cons (.ret (.and (.bi .isInt (.cons (.var 0) .nil)) (.not (.bi .isBool (.cons (.var 0) .nil)))))
    .nil)⟩
def l__law_alike_0 : Ss := (.cons (.ite (.and (.op .notn (.var 2) (.lit .non)) (.not (.call 11 (.cons (.var 2) .nil)))) (.cons (.ret (.lit (.bl false)))
    .nil) .nil)
    .nil)
/-- _law_alike(_law_found, _law_due): 0 _law_found, 1 _law_due, 2 _law_place -/
def f__law_alike : Df := ⟨2, 3, (.cons (.ite (.or (.not (.bi .isList (.cons (.var 0) .nil))) (.op .ne (.bi .len (.cons (.var 0) .nil)) (.bi .len (.cons (.var 1) .nil)))) (.cons (.ret (.lit (.bl false)))
    .nil) .nil)
    (.cons (.for (.nm 2) (.of (.var 0)) l__law_alike_0)
    (.cons (.ret (.op .eq (.var 0) (.var 1)))
    .nil)))⟩
/-- Pair.is_near(self, birth): 0 self, 1 birth, 2 now -/
def f_Pair_is_near : Df := ⟨2, 3, (.cons (.set (.nm 2) (.bi .len (.cons (.fld [0] (.var 0) 7) .nil)))
    (.cons (.ret (.and (.ch (.lit (.int 0)) (.more .le (.var 1) (.one .lt (.var 2)))) (.op .le (.op .sub (.var 2) (.var 1)) (.fld [0] (.var 0) 2))))
    .nil))⟩
def l_Pair_check_comings_0 : Ss := (.cons (.ite (.not (.meth 0 1 (.var 0) (.cons (.var 4) .nil))) (.cons (.rai 3 [9] (.cons (.lit (.str [110, 111, 32, 115, 117, 99, 104, 32, 97, 110, 115, 119, 101, 114, 32, 99, 97, 110, 32, 99, 111, 109, 101])) (.cons (.var 3) .nil)))
    .nil) .nil)
    .nil)
def l_Pair_check_comings_1 : Ss := (.cons (.ite (.or (.not (.meth 0 1 (.var 0) (.cons (.var 4) .nil))) (.op .isn (.idx (.fld [0] (.var 0) 7) (.var 4)) (.lit .non))) (.cons (.rai 3 [9] (.cons (.lit (.str [110, 111, 32, 115, 117, 99, 104, 32, 112, 105, 101, 99, 101, 32, 99, 97, 110, 32, 99, 111, 109, 101])) (.cons (.var 3) .nil)))
    .nil) .nil)
    .nil)
/-- Pair.check_comings(self, comings, answers): 0 self, 1 comings, 2 answers, 3 now, 4 birth -/
def f_Pair_check_comings : Df := ⟨3, 5, (.cons (.set (.nm 3) (.bi .len (.cons (.fld [0] (.var 0) 7) .nil)))
    (.cons (.for (.nm 4) (.of (.var 1)) l_Pair_check_comings_1)
    (.cons (.for (.nm 4) (.of (.var 2)) l_Pair_check_comings_0)
    .nil)))⟩
/-- ahead(ring, one, other): 0 ring, 1 one, 2 other -/
def f_ahead : Df := ⟨3, 3, (.cons (.ret (.op .mod (.op .sub (.var 2) (.var 1)) (.var 0)))
    .nil)⟩
def l_Pair_base_behind_0 : Ss := (.cons (.set (.nm 4) (.call 13 (.cons (.fld [0] (.var 0) 0) (.cons (.var 2) (.cons (.idx (.fld [0] (.var 0) 8) (.var 3)) .nil)))))
    (.cons (.ite (.op .le (.var 4) (.op .sub (.fld [0] (.var 0) 4) (.var 2))) (.cons (.set (.nm 2) (.op .add (.var 2) (.var 4)))
    .nil) .nil)
    .nil))
/-- Pair.base_behind(self, answers): 0 self, 1 answers, 2 base, 3 birth, 4 far -/
def f_Pair_base_behind : Df := ⟨2, 5, (.cons (.set (.nm 2) (.fld [0] (.var 0) 3))
    (.cons (.for (.nm 3) (.of (.var 1)) l_Pair_base_behind_0)
    (.cons (.ret (.var 2))
    .nil)))⟩
def c_Pair_file_one_0 : E := (.op .isin (.fld [0] (.var 0) 5) (.fld [0] (.var 0) 6))
def l_Pair_file_one_1 : Ss := (.cons (.setF [0] (.var 0) 5 (.op .add (.fld [0] (.var 0) 5) (.lit (.int 1))))
    .nil)
/-- Pair.file_one(self, birth): 0 self, 1 birth, 2 far, 3 place -/
def f_Pair_file_one : Df := ⟨2, 4, (.cons (.set (.nm 2) (.call 13 (.cons (.fld [0] (.var 0) 0) (.cons (.fld [0] (.var 0) 5) (.cons (.op .mod (.idx (.fld [0] (.var 0) 7) (.var 1)) (.fld [0] (.var 0) 0)) .nil)))))
    (.cons (.ite (.op .ge (.var 2) (.fld [0] (.var 0) 1)) (.cons (.ret (.lit .non))
    .nil) .nil)
    (.cons (.set (.nm 3) (.op .add (.fld [0] (.var 0) 5) (.var 2)))
    (.cons (.setI (.fld [0] (.var 0) 6) (.var 3) (.lit (.bl true)))
    (.cons (.while c_Pair_file_one_0 l_Pair_file_one_1)
    (.cons (.ret (.var 3))
    .nil))))))⟩
def c_Pair_play_0 : E := (.meth 0 4 (.var 0) (.cons (.var 7) .nil))
def k_Pair_play_1 : E := (.comp (.nm 7) (.of (.var 1)) [7] .no c_Pair_play_0)
/-- Pair.play(self, comings, answers, item): 0 self, 1 comings, 2 answers, 3 item, 4 now, 5 base, 6 places, 7 birth -/
def f_Pair_play : Df := ⟨4, 8, (.cons (.set (.nm 4) (.bi .len (.cons (.fld [0] (.var 0) 7) .nil)))
    (.cons (.expr (.meth 0 2 (.var 0) (.cons (.var 1) (.cons (.var 2) .nil))))
    (.cons (.set (.nm 5) (.meth 0 3 (.var 0) (.cons (.var 2) .nil)))
    (.cons (.ite (.op .notn (.var 3) (.lit .non)) (.cons (.ite (.or (.not (.ch (.var 5) (.more .le (.var 3) (.one .lt (.op .add (.var 5) (.fld [0] (.var 0) 1)))))) (.op .gt (.var 3) (.fld [0] (.var 0) 4))) (.cons (.rai 3 [9] (.cons (.lit (.str [110, 111, 32, 115, 117, 99, 104, 32, 112, 108, 97, 99, 101, 32, 109, 97, 121, 32, 98, 101, 32, 115, 101, 110, 116])) (.cons (.var 4) .nil)))
    .nil) .nil)
    .nil) .nil)
    (.cons (.set (.nm 6) k_Pair_play_1)
    (.cons (.setF [0] (.var 0) 3 (.var 5))
    (.cons (.ite (.and (.op .notn (.var 3) (.lit .non)) (.op .eq (.var 3) (.fld [0] (.var 0) 4))) (.cons (.setF [0] (.var 0) 4 (.op .add (.fld [0] (.var 0) 4) (.lit (.int 1))))
    .nil) .nil)
    (.cons (.expr (.bm .append (.fld [0] (.var 0) 7) (.cons (.var 3) .nil)))
    (.cons (.expr (.bm .append (.fld [0] (.var 0) 8) (.cons (.op .mod (.fld [0] (.var 0) 5) (.fld [0] (.var 0) 0)) .nil)))
    (.cons (.ret (.var 6))
    .nil))))))))))⟩
/-- _law_stands(_law_pair, _law_base, _law_top, _law_got): 0 _law_pair, 1 _law_base, 2 _law_top, 3 _law_got -/
def f__law_stands : Df := ⟨4, 4, (.cons (.ite (.or (.not (.call 11 (.cons (.fld [0] (.var 0) 3) .nil))) (.or (.not (.call 11 (.cons (.fld [0] (.var 0) 4) .nil))) (.not (.call 11 (.cons (.fld [0] (.var 0) 5) .nil))))) (.cons (.ret (.lit (.bl false)))
    .nil) .nil)
    (.cons (.ret (.and (.op .eq (.fld [0] (.var 0) 3) (.var 1)) (.and (.op .eq (.fld [0] (.var 0) 4) (.var 2)) (.op .eq (.fld [0] (.var 0) 5) (.var 3)))))
    .nil))⟩
def c_law_0 : E := (.idx (.var 9) (.var 15))
def k_law_1 : E := (.comp (.nm 15) (.of (.var 17)) [15] .no c_law_0)
def c_law_2 : E := (.op .isin (.var 6) (.var 7))
def l_law_3 : Ss := (.cons (.set (.nm 6) (.op .add (.var 6) (.lit (.int 1))))
    .nil)
def b_law_L2_1 : Ss := (.cons (.setI (.var 7) (.idx (.var 8) (.var 15)) (.lit (.bl true)))
    (.cons (.while c_law_2 l_law_3)
    .nil))
def l_law_4 : Ss := (.cons (.ite (.op .lt (.idx (.var 8) (.var 15)) (.var 6)) (.cons (.expr (.bm .append (.var 14) (.cons (.lit .non) .nil)))
    .nil) (.cons (.expr (.bm .append (.var 14) (.cons (.idx (.var 8) (.var 15)) .nil)))
    .nil))
    b_law_L2_1)
def c_law_5 : E := (.op .notn (.idx (.var 8) (.var 15)) (.lit .non))
def c_law_6 : E := (.var 15)
def k_law_7 : E := (.comp (.nm 15) (.of (.var 13)) [15] (.so c_law_5) c_law_6)
def l_law_8 : Ss := (.cons (.set (.nm 12) (.bi .len (.cons (.var 8) .nil)))
    (.cons (.set (.tp [(.nm 13), (.nm 17)]) (.call 9 (.cons (.var 10) (.cons (.var 12) (.cons (.var 2) .nil)))))
    (.cons (.set (.nm 13) k_law_7)
    (.cons (.set (.nm 14) (.lst .nil))
    (.cons (.for (.nm 15) (.of (.var 13)) l_law_4)
    (.cons (.set (.nm 4) (.bi .max (.cons (.op .add (.lst (.cons (.var 4) .nil)) k_law_1) .nil)))
    (.cons (.set (.nm 16) (.call 10 (.cons (.var 10) (.cons (.var 12) (.cons (.var 4) (.cons (.var 5) (.cons (.var 1) .nil)))))))
    (.cons (.ite (.not (.call 12 (.cons (.meth 0 5 (.var 3) (.cons (.var 13) (.cons (.var 17) (.cons (.var 16) .nil)))) (.cons (.var 14) .nil)))) (.cons (.ret (.lit (.bl false)))
    .nil) .nil)
    (.cons (.set (.nm 5) (.op .add (.var 5) (.bi .int (.cons (.op .eq (.var 16) (.var 5)) .nil))))
    (.cons (.expr (.bm .append (.var 8) (.cons (.var 16) .nil)))
    (.cons (.expr (.bm .append (.var 9) (.cons (.var 6) .nil)))
    (.cons (.ite (.or (.not (.call 14 (.cons (.var 3) (.cons (.var 4) (.cons (.var 5) (.cons (.var 6) .nil)))))) (.not (.ch (.var 4) (.more .le (.var 6) (.more .le (.var 5) (.one .le (.op .add (.var 4) (.var 1)))))))) (.cons (.ret (.lit (.bl false)))
    .nil) .nil)
    .nil))))))))))))
def l_law_9 : Ss := (.cons (.for (.nm 11) (.rng1 (.idx (.lst (.cons (.op .add (.lit (.int 1)) (.op .mod (.var 10) (.lit (.int 3)))) (.cons (.lit (.int 1)) .nil))) (.bi .int (.cons (.call 4 (.cons (.var 10) .nil)) .nil)))) l_law_8)
    .nil)
/-- law(_law_script): 0 _law_script, 1 _law_room, 2 _law_lag, 3 _law_pair, 4 _law_base, 5 _law_top, 6 _law_got, 7 _law_come, 8 _law_sent, 9 _law_told, 10 _law_cell, 11 _law_turn, 12 _law_now, 13 _law_comings, 14 _law_due, 15 _law_birth, 16 _law_item_here, 17 _law_answers -/
def f_law : Df := ⟨1, 18, (.cons (.set (.nm 1) (.call 0 (.cons (.call 2 (.cons (.var 0) (.cons (.lit (.int 0)) .nil))) (.cons (.lit (.int 9)) (.cons (.lit (.int 60)) .nil)))))
    (.cons (.set (.nm 2) (.call 0 (.cons (.call 2 (.cons (.var 0) (.cons (.lit (.int 1)) .nil))) (.cons (.lit (.int 8)) (.cons (.lit (.int 60)) .nil)))))
    (.cons (.set (.nm 3) (.make 0 (.cons (.call 3 (.cons (.call 2 (.cons (.var 0) (.cons (.lit (.int 2)) .nil))) (.cons (.var 1) (.cons (.var 2) .nil)))) (.cons (.var 1) (.cons (.var 2) .nil)))))
    (.cons (.set (.nm 4) (.lit (.int 0)))
    (.cons (.set (.nm 5) (.lit (.int 0)))
    (.cons (.set (.nm 6) (.lit (.int 0)))
    (.cons (.set (.nm 7) .dic0)
    (.cons (.set (.nm 8) (.lst .nil))
    (.cons (.set (.nm 9) (.lst .nil))
    (.cons (.for (.nm 10) (.of (.slc (.var 0) (.so (.lit (.int 3))) (.so (.lit (.int 66))))) l_law_9)
    (.cons (.ret (.lit (.bl true)))
    .nil)))))))))))⟩
def t__law_size : Tab := ([] : Tab)
def r__law_size : Fn := run f__law_size t__law_size
def t_check_pair : Tab := (((0, 0), r__law_size) :: t__law_size)
def r_check_pair : Fn := run f_check_pair t_check_pair
def t_Pair___init__ : Tab := (((0, 1), r_check_pair) :: t_check_pair)
def r_Pair___init__ : Fn := run f_Pair___init__ t_Pair___init__
@[simp] theorem G_Pair___init___check_pair : t_Pair___init__.get (0, 1) = r_check_pair := nr rfl
def t__law_cell_at : Tab := (((1, 0), r_Pair___init__) :: t_Pair___init__)
def r__law_cell_at : Fn := run f__law_cell_at t__law_cell_at
def t__law_ring : Tab := (((0, 2), r__law_cell_at) :: t__law_cell_at)
def r__law_ring : Fn := run f__law_ring t__law_ring
def t__law_is_row : Tab := (((0, 3), r__law_ring) :: t__law_ring)
def r__law_is_row : Fn := run f__law_is_row t__law_is_row
def t__law_mixed : Tab := (((0, 4), r__law_is_row) :: t__law_is_row)
def r__law_mixed : Fn := run f__law_mixed t__law_mixed
def t__law_births : Tab := (((0, 5), r__law_mixed) :: t__law_mixed)
def r__law_births : Fn := run f__law_births t__law_births
def t__law_digit : Tab := (((0, 6), r__law_births) :: t__law_births)
def r__law_digit : Fn := run f__law_digit t__law_digit
def t__law_picked : Tab := (((0, 7), r__law_digit) :: t__law_digit)
def r__law_picked : Fn := run f__law_picked t__law_picked
@[simp] theorem G__law_picked__law_digit : t__law_picked.get (0, 7) = r__law_digit := nr rfl
def t__law_drawn : Tab := (((0, 8), r__law_picked) :: t__law_picked)
def r__law_drawn : Fn := run f__law_drawn t__law_drawn
@[simp] theorem G__law_drawn__law_is_row : t__law_drawn.get (0, 4) = r__law_is_row := nr rfl
@[simp] theorem G__law_drawn__law_mixed : t__law_drawn.get (0, 5) = r__law_mixed := nr rfl
@[simp] theorem G__law_drawn__law_births : t__law_drawn.get (0, 6) = r__law_births := nr rfl
@[simp] theorem G__law_drawn__law_picked : t__law_drawn.get (0, 8) = r__law_picked := nr rfl
def t__law_item : Tab := (((0, 9), r__law_drawn) :: t__law_drawn)
def r__law_item : Fn := run f__law_item t__law_item
@[simp] theorem G__law_item__law_is_row : t__law_item.get (0, 4) = r__law_is_row := nr rfl
@[simp] theorem G__law_item__law_mixed : t__law_item.get (0, 5) = r__law_mixed := nr rfl
@[simp] theorem G__law_item__law_digit : t__law_item.get (0, 7) = r__law_digit := nr rfl
def t__law_whole : Tab := (((0, 10), r__law_item) :: t__law_item)
def r__law_whole : Fn := run f__law_whole t__law_whole
def t__law_alike : Tab := (((0, 11), r__law_whole) :: t__law_whole)
def r__law_alike : Fn := run f__law_alike t__law_alike
@[simp] theorem G__law_alike__law_whole : t__law_alike.get (0, 11) = r__law_whole := nr rfl
def t_Pair_is_near : Tab := (((0, 12), r__law_alike) :: t__law_alike)
def r_Pair_is_near : Fn := run f_Pair_is_near t_Pair_is_near
def t_Pair_check_comings : Tab := (((1, 1), r_Pair_is_near) :: t_Pair_is_near)
def r_Pair_check_comings : Fn := run f_Pair_check_comings t_Pair_check_comings
@[simp] theorem G_Pair_check_comings_Pair_is_near : t_Pair_check_comings.get (1, 1) = r_Pair_is_near := nr rfl
def t_ahead : Tab := (((1, 2), r_Pair_check_comings) :: t_Pair_check_comings)
def r_ahead : Fn := run f_ahead t_ahead
def t_Pair_base_behind : Tab := (((0, 13), r_ahead) :: t_ahead)
def r_Pair_base_behind : Fn := run f_Pair_base_behind t_Pair_base_behind
@[simp] theorem G_Pair_base_behind_ahead : t_Pair_base_behind.get (0, 13) = r_ahead := nr rfl
def t_Pair_file_one : Tab := (((1, 3), r_Pair_base_behind) :: t_Pair_base_behind)
def r_Pair_file_one : Fn := run f_Pair_file_one t_Pair_file_one
@[simp] theorem G_Pair_file_one_ahead : t_Pair_file_one.get (0, 13) = r_ahead := nr rfl
def t_Pair_play : Tab := (((1, 4), r_Pair_file_one) :: t_Pair_file_one)
def r_Pair_play : Fn := run f_Pair_play t_Pair_play
@[simp] theorem G_Pair_play_Pair_check_comings : t_Pair_play.get (1, 2) = r_Pair_check_comings := nr rfl
@[simp] theorem G_Pair_play_Pair_base_behind : t_Pair_play.get (1, 3) = r_Pair_base_behind := nr rfl
@[simp] theorem G_Pair_play_Pair_file_one : t_Pair_play.get (1, 4) = r_Pair_file_one := nr rfl
def t__law_stands : Tab := (((1, 5), r_Pair_play) :: t_Pair_play)
def r__law_stands : Fn := run f__law_stands t__law_stands
@[simp] theorem G__law_stands__law_whole : t__law_stands.get (0, 11) = r__law_whole := nr rfl
def t_law : Tab := (((0, 14), r__law_stands) :: t__law_stands)
def r_law : Fn := run f_law t_law
@[simp] theorem G_law__law_size : t_law.get (0, 0) = r__law_size := nr rfl
@[simp] theorem G_law_Pair___init__ : t_law.get (1, 0) = r_Pair___init__ := nr rfl
@[simp] theorem G_law__law_cell_at : t_law.get (0, 2) = r__law_cell_at := nr rfl
@[simp] theorem G_law__law_ring : t_law.get (0, 3) = r__law_ring := nr rfl
@[simp] theorem G_law__law_drawn : t_law.get (0, 9) = r__law_drawn := nr rfl
@[simp] theorem G_law__law_item : t_law.get (0, 10) = r__law_item := nr rfl
@[simp] theorem G_law__law_alike : t_law.get (0, 12) = r__law_alike := nr rfl
@[simp] theorem G_law_Pair_play : t_law.get (1, 5) = r_Pair_play := nr rfl
@[simp] theorem G_law__law_is_row : t_law.get (0, 4) = r__law_is_row := nr rfl
@[simp] theorem G_law__law_stands : t_law.get (0, 14) = r__law_stands := nr rfl
theorem ahead_ok (r a b : Int) (h : Mem) (h0 : 0 < r) : r_ahead [.int r, .int a, .int b] h = .ok (.int ((b - a) % r)) h := by
  simp [r_ahead, f_ahead, run, xss, xs, ev, evs, evc, evo, evi, tst, getVar, fnOf, p_add, p_sub, p_mul, p_mod, p_fdiv, p_pow, p_eq, p_ne, p_lt, p_le, p_gt, p_ge, p_isInt, p_isBool, p_min, p_max, p_lenC, p_lenT, p_tru_bl, p_isB, p_asg_nm, p_asg_tp, p_asgM_nm, p_asgM_tp, p_asgs_nil, p_asgs_nm, xhs, raiX, h0]
/-- a bare pair, as it stands -/
structure PS where
  ring : Int
  room : Int
  lag : Int
  base : Int
  top : Int
  got : Int
  fil : List (W × W)
  sent : List W
  told : List Int
def PF (s : PS) (fd sd tl : Nat) : List (Nat × W) := [(0, .int s.ring), (1, .int s.room), (2, .int s.lag), (3, .int s.base), (4, .int s.top), (5, .int s.got), (6, .ref fd), (7, .ref sd), (8, .ref tl)]
structure PAt (h : Mem) (p fd sd tl : Nat) (s : PS) : Prop where
  f : h[p]? = some (.ins 0 (PF s fd sd tl))
  d : h[fd]? = some (.dic s.fil)
  e : h[sd]? = some (.lst s.sent)
  l : h[tl]? = some (.lst (intsW s.told))
  n : Dis [p, fd, sd, tl]
theorem PAt.kp {h h' : Mem} {p fd sd tl : Nat} {s : PS} {A : List Nat} (x : PAt h p fd sd tl s) (k : Kp A h h') (n1 : p ∉ A) (n2 : fd ∉ A) (n3 : sd ∉ A) (n4 : tl ∉ A) : PAt h' p fd sd tl s :=
  ⟨k.at x.f n1, k.at x.d n2, k.at x.e n3, k.at x.l n4, x.n⟩
def PS.near (s : PS) (k : Int) : Bool := decide (0 ≤ k) && decide (k < s.sent.length) && decide (s.sent.length - k ≤ s.lag)
def PS.canCome (s : PS) (k : Int) : Bool := s.near k && (match s.sent[k.toNat]? with
  | some .non => false
  | _ => true)
def PS.okC (s : PS) (cs as : List Int) : Bool := cs.all s.canCome && as.all s.near
section
variable {h : Mem} {p fd sd tl : Nat} {s : PS}
theorem near_ok (x : PAt h p fd sd tl s) (k : Int) : r_Pair_is_near [.ref p, .int k] h = .ok (.bl (s.near k)) h := by
  have q := R.wp.get (r := r_Pair_is_near [.ref p, .int k] h) (Q' := fun v h' => v = .bl (s.near k) ∧ h' = h) (by
    simp [r_Pair_is_near, f_Pair_is_near, ↓v_var, ↓v_lit, ↓v_glo, ↓v_op, ↓v_neg, v_negI, ↓v_not, ↓v_and, ↓v_or, ↓v_isB, ↓v_ch, ↓v_one, ↓v_more, ↓v_call, ↓v_fld, ↓v_meth, ↓v_make, ↓v_bi, ↓v_bm, ↓v_idx, ↓v_slc, ↓v_lst, ↓v_tup, ↓v_dic0, ↓v_xfl, ↓v_xis, ↓v_nil, ↓v_cons, ↓v_no, ↓v_so, ↓v_oneN, ↓v_oneI, ↓v_of, ↓v_rng1, ↓v_rng2, ↓v_rng3, ↓v_walkT, ↓v_walkC, ↓v_walkS, ↓v_enum, ↓v_zip, ↓v_rev, ↓v_lof, ↓v_tst, ↓v_truB, ↓v_run, ↓s_set, ↓s_setI, ↓s_setF, ↓s_incF, ↓s_ret, ↓s_retN, ↓s_expr, ↓s_pass, ↓s_bad, ↓s_ite, ↓s_for, ↓s_while, ↓s_rai, ↓s_try, ↓s_nil, ↓s_cons, ↓s_hnil, ↓s_hcons, ↓s_setNm, ↓s_setTp, ↓s_memS, w_ok, w_ex, w_bad, w_bind, w_calm, w_st, w_nx, w_rt, w_xe, w_bd, w_then, w_catch, w_gone, w_fn, w_if, w_ifS, -List.append_assoc, getVar, List.getElem?_cons_zero, List.getElem?_cons_succ, List.getElem?_nil, p_add, p_sub, p_mul, p_mod, p_fdiv, p_pow, p_eq, p_ne, p_lt, p_le, p_gt, p_ge, p_isInt, p_isBool, p_min, p_max, p_lenC, p_lenT, p_isB, p_asg_nm, p_asg_tp, p_asgs_nil, p_asgs_nm, raiX, LIM, m_shr, m_shl1, m_int, m_intB, m_list, m_listT, m_listC, m_tupR, m_tupT, m_fld, m_gF, m_store, m_sF, m_addF, m_dF, m_isI, m_iI, m_getL, m_oL, m_isL, m_recv, m_walk, m_stays, m_truR, m_tOl, m_newL, m_alloc, m_len, m_lOl, m_lOd, m_app, m_ext, m_getC, m_ins, m_idx, m_xOl, m_xOd, m_idxT, m_idxC, m_at0, m_storeAt, m_sOd, m_key, m_keyS, m_non, m_nnon, isNon_non, isNon_int, isNon_str, isNon_tup, isNon_ref, m_getX, m_gXe, m_isX, m_iXe, m_at, m_slc, m_slcC, m_slcT, m_slcS, m_cat, m_rep, m_isList, get_set, get_app, ne_len, ne_len0, len_ne, len_ne0, se_2, se_3, se_4, es_2, es_3, es_4, ne_len2, ne_len3, len_ne2, len_ne3, putF, List.lookup, x.f, x.e, PF, PS.near]
    by_cases c1 : 0 ≤ k <;> by_cases c2 : k < s.sent.length <;> simp [c1, c2] <;> omega)
  obtain ⟨a, h', e, rfl, rfl⟩ := q
  exact e
theorem canCome_at {k : Int} (c : s.near k = true) : ∃ z, atW s.sent k = some z ∧ s.canCome k = !isNon z := by
  unfold PS.near at c
  simp at c
  have l : k.toNat < s.sent.length := by omega
  refine ⟨s.sent[k.toNat], ?_, ?_⟩
  · rw [m_at c.1.1]
    exact List.getElem?_eq_getElem l
  · unfold PS.canCome
    rw [List.getElem?_eq_getElem l]
    have : s.near k = true := by unfold PS.near; simp; exact c
    rw [this]
    cases s.sent[k.toNat] <;> rfl
theorem check_ok (x : PAt h p fd sd tl s) (c a : Nat) (cs as : List Int) (hc : h[c]? = some (.lst (intsW cs))) (ha : h[a]? = some (.lst (intsW as))) :
    (r_Pair_check_comings [.ref p, .ref c, .ref a] h).wp (p := ⟨(fun v h' => v = .non ∧ h' = h ∧ s.okC cs as = true), (fun y h' => y = ⟨3, [(9, .int s.sent.length)]⟩ ∧ h' = h ∧ s.okC cs as = false)⟩) := by
  have bad1 : ∀ (i : Nat) (k : Int), cs[i]? = some k → s.canCome k = false → s.okC cs as = false := fun i k e n => by
    unfold PS.okC
    rw [List.all_eq_false.mpr ⟨k, List.mem_of_getElem? e, by simp [n]⟩, Bool.false_and]
  have bad2 : ∀ (i : Nat) (k : Int), as[i]? = some k → s.near k = false → s.okC cs as = false := fun i k e n => by
    unfold PS.okC
    rw [List.all_eq_false.mpr ⟨k, List.mem_of_getElem? e, by simp [n]⟩, Bool.and_false]
  simp [r_Pair_check_comings, f_Pair_check_comings, ↓v_var, ↓v_lit, ↓v_glo, ↓v_op, ↓v_neg, v_negI, ↓v_not, ↓v_and, ↓v_or, ↓v_isB, ↓v_ch, ↓v_one, ↓v_more, ↓v_call, ↓v_fld, ↓v_meth, ↓v_make, ↓v_bi, ↓v_bm, ↓v_idx, ↓v_slc, ↓v_lst, ↓v_tup, ↓v_dic0, ↓v_xfl, ↓v_xis, ↓v_nil, ↓v_cons, ↓v_no, ↓v_so, ↓v_oneN, ↓v_oneI, ↓v_of, ↓v_rng1, ↓v_rng2, ↓v_rng3, ↓v_walkT, ↓v_walkC, ↓v_walkS, ↓v_enum, ↓v_zip, ↓v_rev, ↓v_lof, ↓v_tst, ↓v_truB, ↓v_run, ↓s_set, ↓s_setI, ↓s_setF, ↓s_incF, ↓s_ret, ↓s_retN, ↓s_expr, ↓s_pass, ↓s_bad, ↓s_ite, ↓s_for, ↓s_while, ↓s_rai, ↓s_try, ↓s_nil, ↓s_cons, ↓s_hnil, ↓s_hcons, ↓s_setNm, ↓s_setTp, ↓s_memS, w_ok, w_ex, w_bad, w_bind, w_calm, w_st, w_nx, w_rt, w_xe, w_bd, w_then, w_catch, w_gone, w_fn, w_if, w_ifS, -List.append_assoc, getVar, List.getElem?_cons_zero, List.getElem?_cons_succ, List.getElem?_nil, p_add, p_sub, p_mul, p_mod, p_fdiv, p_pow, p_eq, p_ne, p_lt, p_le, p_gt, p_ge, p_isInt, p_isBool, p_min, p_max, p_lenC, p_lenT, p_isB, p_asg_nm, p_asg_tp, p_asgs_nil, p_asgs_nm, raiX, LIM, m_shr, m_shl1, m_int, m_intB, m_list, m_listT, m_listC, m_tupR, m_tupT, m_fld, m_gF, m_store, m_sF, m_addF, m_dF, m_isI, m_iI, m_getL, m_oL, m_isL, m_recv, m_walk, m_stays, m_truR, m_tOl, m_newL, m_alloc, m_len, m_lOl, m_lOd, m_app, m_ext, m_getC, m_ins, m_idx, m_xOl, m_xOd, m_idxT, m_idxC, m_at0, m_storeAt, m_sOd, m_key, m_keyS, m_non, m_nnon, isNon_non, isNon_int, isNon_str, isNon_tup, isNon_ref, m_getX, m_gXe, m_isX, m_iXe, m_at, m_slc, m_slcC, m_slcT, m_slcS, m_cat, m_rep, m_isList, get_set, get_app, ne_len, ne_len0, len_ne, len_ne0, se_2, se_3, se_4, es_2, es_3, es_4, ne_len2, ne_len3, len_ne2, len_ne3, putF, List.lookup, x.f, x.e, PF, v_walkR hc]
  refine w_for0 (fun k env h' => h' = h ∧ (∃ z, env = [some (.ref p), some (.ref c), some (.ref a), some (.int s.sent.length), z]) ∧ ∀ y ∈ cs.take k, s.canCome y = true) ⟨rfl, ⟨_, rfl⟩, by simp⟩ ?_ ?_ ?_
  · rintro i env h' ⟨rfl, -, -⟩
    exact p_stays hc
  · rintro i y env h' hy ⟨rfl, ⟨z, rfl⟩, hk⟩
    obtain ⟨k, hk1, rfl⟩ := ints_get hy
    refine ⟨_, p_asg_nm, ?_⟩
    simp [l_Pair_check_comings_1, ↓v_var, ↓v_lit, ↓v_glo, ↓v_op, ↓v_neg, v_negI, ↓v_not, ↓v_and, ↓v_or, ↓v_isB, ↓v_ch, ↓v_one, ↓v_more, ↓v_call, ↓v_fld, ↓v_meth, ↓v_make, ↓v_bi, ↓v_bm, ↓v_idx, ↓v_slc, ↓v_lst, ↓v_tup, ↓v_dic0, ↓v_xfl, ↓v_xis, ↓v_nil, ↓v_cons, ↓v_no, ↓v_so, ↓v_oneN, ↓v_oneI, ↓v_of, ↓v_rng1, ↓v_rng2, ↓v_rng3, ↓v_walkT, ↓v_walkC, ↓v_walkS, ↓v_enum, ↓v_zip, ↓v_rev, ↓v_lof, ↓v_tst, ↓v_truB, ↓v_run, ↓s_set, ↓s_setI, ↓s_setF, ↓s_incF, ↓s_ret, ↓s_retN, ↓s_expr, ↓s_pass, ↓s_bad, ↓s_ite, ↓s_for, ↓s_while, ↓s_rai, ↓s_try, ↓s_nil, ↓s_cons, ↓s_hnil, ↓s_hcons, ↓s_setNm, ↓s_setTp, ↓s_memS, w_ok, w_ex, w_bad, w_bind, w_calm, w_st, w_nx, w_rt, w_xe, w_bd, w_then, w_catch, w_gone, w_fn, w_if, w_ifS, -List.append_assoc, getVar, List.getElem?_cons_zero, List.getElem?_cons_succ, List.getElem?_nil, p_add, p_sub, p_mul, p_mod, p_fdiv, p_pow, p_eq, p_ne, p_lt, p_le, p_gt, p_ge, p_isInt, p_isBool, p_min, p_max, p_lenC, p_lenT, p_isB, p_asg_nm, p_asg_tp, p_asgs_nil, p_asgs_nm, raiX, LIM, m_shr, m_shl1, m_int, m_intB, m_list, m_listT, m_listC, m_tupR, m_tupT, m_fld, m_gF, m_store, m_sF, m_addF, m_dF, m_isI, m_iI, m_getL, m_oL, m_isL, m_recv, m_walk, m_stays, m_truR, m_tOl, m_newL, m_alloc, m_len, m_lOl, m_lOd, m_app, m_ext, m_getC, m_ins, m_idx, m_xOl, m_xOd, m_idxT, m_idxC, m_at0, m_storeAt, m_sOd, m_key, m_keyS, m_non, m_nnon, isNon_non, isNon_int, isNon_str, isNon_tup, isNon_ref, m_getX, m_gXe, m_isX, m_iXe, m_at, m_slc, m_slcC, m_slcT, m_slcS, m_cat, m_rep, m_isList, get_set, get_app, ne_len, ne_len0, len_ne, len_ne0, se_2, se_3, se_4, es_2, es_3, es_4, ne_len2, ne_len3, len_ne2, len_ne3, putF, List.lookup, x.f, x.e, PF, near_ok x]
    refine ⟨fun n => bad1 i k hk1 (by unfold PS.canCome; rw [n]; rfl), fun n => ?_⟩
    obtain ⟨z, e1, e2⟩ := canCome_at n
    simp [e1, ↓v_var, ↓v_lit, ↓v_glo, ↓v_op, ↓v_neg, v_negI, ↓v_not, ↓v_and, ↓v_or, ↓v_isB, ↓v_ch, ↓v_one, ↓v_more, ↓v_call, ↓v_fld, ↓v_meth, ↓v_make, ↓v_bi, ↓v_bm, ↓v_idx, ↓v_slc, ↓v_lst, ↓v_tup, ↓v_dic0, ↓v_xfl, ↓v_xis, ↓v_nil, ↓v_cons, ↓v_no, ↓v_so, ↓v_oneN, ↓v_oneI, ↓v_of, ↓v_rng1, ↓v_rng2, ↓v_rng3, ↓v_walkT, ↓v_walkC, ↓v_walkS, ↓v_enum, ↓v_zip, ↓v_rev, ↓v_lof, ↓v_tst, ↓v_truB, ↓v_run, ↓s_set, ↓s_setI, ↓s_setF, ↓s_incF, ↓s_ret, ↓s_retN, ↓s_expr, ↓s_pass, ↓s_bad, ↓s_ite, ↓s_for, ↓s_while, ↓s_rai, ↓s_try, ↓s_nil, ↓s_cons, ↓s_hnil, ↓s_hcons, ↓s_setNm, ↓s_setTp, ↓s_memS, w_ok, w_ex, w_bad, w_bind, w_calm, w_st, w_nx, w_rt, w_xe, w_bd, w_then, w_catch, w_gone, w_fn, w_if, w_ifS, -List.append_assoc, getVar, List.getElem?_cons_zero, List.getElem?_cons_succ, List.getElem?_nil, p_add, p_sub, p_mul, p_mod, p_fdiv, p_pow, p_eq, p_ne, p_lt, p_le, p_gt, p_ge, p_isInt, p_isBool, p_min, p_max, p_lenC, p_lenT, p_isB, p_asg_nm, p_asg_tp, p_asgs_nil, p_asgs_nm, raiX, LIM, m_shr, m_shl1, m_int, m_intB, m_list, m_listT, m_listC, m_tupR, m_tupT, m_fld, m_gF, m_store, m_sF, m_addF, m_dF, m_isI, m_iI, m_getL, m_oL, m_isL, m_recv, m_walk, m_stays, m_truR, m_tOl, m_newL, m_alloc, m_len, m_lOl, m_lOd, m_app, m_ext, m_getC, m_ins, m_idx, m_xOl, m_xOd, m_idxT, m_idxC, m_at0, m_storeAt, m_sOd, m_key, m_keyS, m_non, m_nnon, isNon_non, isNon_int, isNon_str, isNon_tup, isNon_ref, m_getX, m_gXe, m_isX, m_iXe, m_at, m_slc, m_slcC, m_slcT, m_slcS, m_cat, m_rep, m_isList, get_set, get_app, ne_len, ne_len0, len_ne, len_ne0, se_2, se_3, se_4, es_2, es_3, es_4, ne_len2, ne_len3, len_ne2, len_ne3, putF, List.lookup]
    refine ⟨fun q => bad1 i k hk1 (by rw [e2, q]; rfl), fun q y hy => ?_⟩
    rw [List.take_add_one, hk1] at hy
    rcases List.mem_append.mp hy with hy | hy
    · exact hk y hy
    · simp at hy
      rw [hy, e2, q]
      rfl
  · rintro env h' ⟨rfl, ⟨z, rfl⟩, hk⟩
    rw [ints_len, List.take_length] at hk
    simp [↓v_var, ↓v_lit, ↓v_glo, ↓v_op, ↓v_neg, v_negI, ↓v_not, ↓v_and, ↓v_or, ↓v_isB, ↓v_ch, ↓v_one, ↓v_more, ↓v_call, ↓v_fld, ↓v_meth, ↓v_make, ↓v_bi, ↓v_bm, ↓v_idx, ↓v_slc, ↓v_lst, ↓v_tup, ↓v_dic0, ↓v_xfl, ↓v_xis, ↓v_nil, ↓v_cons, ↓v_no, ↓v_so, ↓v_oneN, ↓v_oneI, ↓v_of, ↓v_rng1, ↓v_rng2, ↓v_rng3, ↓v_walkT, ↓v_walkC, ↓v_walkS, ↓v_enum, ↓v_zip, ↓v_rev, ↓v_lof, ↓v_tst, ↓v_truB, ↓v_run, ↓s_set, ↓s_setI, ↓s_setF, ↓s_incF, ↓s_ret, ↓s_retN, ↓s_expr, ↓s_pass, ↓s_bad, ↓s_ite, ↓s_for, ↓s_while, ↓s_rai, ↓s_try, ↓s_nil, ↓s_cons, ↓s_hnil, ↓s_hcons, ↓s_setNm, ↓s_setTp, ↓s_memS, w_ok, w_ex, w_bad, w_bind, w_calm, w_st, w_nx, w_rt, w_xe, w_bd, w_then, w_catch, w_gone, w_fn, w_if, w_ifS, -List.append_assoc, getVar, List.getElem?_cons_zero, List.getElem?_cons_succ, List.getElem?_nil, p_add, p_sub, p_mul, p_mod, p_fdiv, p_pow, p_eq, p_ne, p_lt, p_le, p_gt, p_ge, p_isInt, p_isBool, p_min, p_max, p_lenC, p_lenT, p_isB, p_asg_nm, p_asg_tp, p_asgs_nil, p_asgs_nm, raiX, v_walkR ha]
    refine w_for0 (fun k env h1 => h1 = h' ∧ (∃ z, env = [some (.ref p), some (.ref c), some (.ref a), some (.int s.sent.length), z]) ∧ ∀ y ∈ as.take k, s.near y = true) ⟨rfl, ⟨_, rfl⟩, by simp⟩ ?_ ?_ ?_
    · rintro i env h1 ⟨rfl, -, -⟩
      exact p_stays ha
    · rintro i y env h1 hy ⟨rfl, ⟨z, rfl⟩, hk'⟩
      obtain ⟨k, hk1, rfl⟩ := ints_get hy
      refine ⟨_, p_asg_nm, ?_⟩
      simp [l_Pair_check_comings_0, ↓v_var, ↓v_lit, ↓v_glo, ↓v_op, ↓v_neg, v_negI, ↓v_not, ↓v_and, ↓v_or, ↓v_isB, ↓v_ch, ↓v_one, ↓v_more, ↓v_call, ↓v_fld, ↓v_meth, ↓v_make, ↓v_bi, ↓v_bm, ↓v_idx, ↓v_slc, ↓v_lst, ↓v_tup, ↓v_dic0, ↓v_xfl, ↓v_xis, ↓v_nil, ↓v_cons, ↓v_no, ↓v_so, ↓v_oneN, ↓v_oneI, ↓v_of, ↓v_rng1, ↓v_rng2, ↓v_rng3, ↓v_walkT, ↓v_walkC, ↓v_walkS, ↓v_enum, ↓v_zip, ↓v_rev, ↓v_lof, ↓v_tst, ↓v_truB, ↓v_run, ↓s_set, ↓s_setI, ↓s_setF, ↓s_incF, ↓s_ret, ↓s_retN, ↓s_expr, ↓s_pass, ↓s_bad, ↓s_ite, ↓s_for, ↓s_while, ↓s_rai, ↓s_try, ↓s_nil, ↓s_cons, ↓s_hnil, ↓s_hcons, ↓s_setNm, ↓s_setTp, ↓s_memS, w_ok, w_ex, w_bad, w_bind, w_calm, w_st, w_nx, w_rt, w_xe, w_bd, w_then, w_catch, w_gone, w_fn, w_if, w_ifS, -List.append_assoc, getVar, List.getElem?_cons_zero, List.getElem?_cons_succ, List.getElem?_nil, p_add, p_sub, p_mul, p_mod, p_fdiv, p_pow, p_eq, p_ne, p_lt, p_le, p_gt, p_ge, p_isInt, p_isBool, p_min, p_max, p_lenC, p_lenT, p_isB, p_asg_nm, p_asg_tp, p_asgs_nil, p_asgs_nm, raiX, LIM, m_shr, m_shl1, m_int, m_intB, m_list, m_listT, m_listC, m_tupR, m_tupT, m_fld, m_gF, m_store, m_sF, m_addF, m_dF, m_isI, m_iI, m_getL, m_oL, m_isL, m_recv, m_walk, m_stays, m_truR, m_tOl, m_newL, m_alloc, m_len, m_lOl, m_lOd, m_app, m_ext, m_getC, m_ins, m_idx, m_xOl, m_xOd, m_idxT, m_idxC, m_at0, m_storeAt, m_sOd, m_key, m_keyS, m_non, m_nnon, isNon_non, isNon_int, isNon_str, isNon_tup, isNon_ref, m_getX, m_gXe, m_isX, m_iXe, m_at, m_slc, m_slcC, m_slcT, m_slcS, m_cat, m_rep, m_isList, get_set, get_app, ne_len, ne_len0, len_ne, len_ne0, se_2, se_3, se_4, es_2, es_3, es_4, ne_len2, ne_len3, len_ne2, len_ne3, putF, List.lookup, x.f, x.e, PF, near_ok x]
      refine ⟨fun n => bad2 i k hk1 n, fun q y hy => ?_⟩
      rw [List.take_add_one, hk1] at hy
      rcases List.mem_append.mp hy with hy | hy
      · exact hk' y hy
      · simp at hy
        rw [hy, q]
    · rintro env h1 ⟨rfl, ⟨z, rfl⟩, hk'⟩
      rw [ints_len, List.take_length] at hk'
      refine ⟨rfl, ?_⟩
      unfold PS.okC
      rw [List.all_eq_true.mpr hk, List.all_eq_true.mpr hk']
      exact ⟨rfl, rfl⟩
/-- the base behind some answers -/
def baseB (ring top : Int) (told : List Int) : List Int → Int → Int
  | [], b => b
  | k :: r, b => baseB ring top told r (let far := ((told[k.toNat]?.getD 0) - b) % ring; if far ≤ top - b then b + far else b)
theorem baseB_snoc {ring top : Int} {told : List Int} : ∀ (as : List Int) (k b : Int), baseB ring top told (as ++ [k]) b = baseB ring top told [k] (baseB ring top told as b)
  | [], _, _ => rfl
  | a :: r, k, b => baseB_snoc r k _
theorem baseB_in' {ring top : Int} {told : List Int} (r0 : 0 < ring) : ∀ (as : List Int) (b : Int), b ≤ top → b ≤ baseB ring top told as b ∧ baseB ring top told as b ≤ top
  | [], b, l => ⟨Int.le_refl _, l⟩
  | k :: r, b, l => by
    have p := Int.emod_nonneg (told[k.toNat]?.getD 0 - b) (b := ring) (by omega)
    unfold baseB
    dsimp only
    generalize (told[k.toNat]?.getD 0 - b) % ring = far at *
    split
    · rename_i c
      have l2 : b + far ≤ top := by omega
      have q := baseB_in' (ring := ring) (top := top) (told := told) r0 r (b + far) l2
      exact ⟨by omega, q.2⟩
    · exact baseB_in' (told := told) r0 r b l
theorem base_ok (x : PAt h p fd sd tl s) (a : Nat) (as : List Int) (ha : h[a]? = some (.lst (intsW as))) (r0 : 0 < s.ring) (hl : s.told.length = s.sent.length) (ok : as.all s.near = true) :
    r_Pair_base_behind [.ref p, .ref a] h = .ok (.int (baseB s.ring s.top s.told as s.base)) h := by
  have q := R.wp.get (r := r_Pair_base_behind [.ref p, .ref a] h) (Q' := fun v h' => v = .int (baseB s.ring s.top s.told as s.base) ∧ h' = h) (by
    simp [r_Pair_base_behind, f_Pair_base_behind, ↓v_var, ↓v_lit, ↓v_glo, ↓v_op, ↓v_neg, v_negI, ↓v_not, ↓v_and, ↓v_or, ↓v_isB, ↓v_ch, ↓v_one, ↓v_more, ↓v_call, ↓v_fld, ↓v_meth, ↓v_make, ↓v_bi, ↓v_bm, ↓v_idx, ↓v_slc, ↓v_lst, ↓v_tup, ↓v_dic0, ↓v_xfl, ↓v_xis, ↓v_nil, ↓v_cons, ↓v_no, ↓v_so, ↓v_oneN, ↓v_oneI, ↓v_of, ↓v_rng1, ↓v_rng2, ↓v_rng3, ↓v_walkT, ↓v_walkC, ↓v_walkS, ↓v_enum, ↓v_zip, ↓v_rev, ↓v_lof, ↓v_tst, ↓v_truB, ↓v_run, ↓s_set, ↓s_setI, ↓s_setF, ↓s_incF, ↓s_ret, ↓s_retN, ↓s_expr, ↓s_pass, ↓s_bad, ↓s_ite, ↓s_for, ↓s_while, ↓s_rai, ↓s_try, ↓s_nil, ↓s_cons, ↓s_hnil, ↓s_hcons, ↓s_setNm, ↓s_setTp, ↓s_memS, w_ok, w_ex, w_bad, w_bind, w_calm, w_st, w_nx, w_rt, w_xe, w_bd, w_then, w_catch, w_gone, w_fn, w_if, w_ifS, -List.append_assoc, getVar, List.getElem?_cons_zero, List.getElem?_cons_succ, List.getElem?_nil, p_add, p_sub, p_mul, p_mod, p_fdiv, p_pow, p_eq, p_ne, p_lt, p_le, p_gt, p_ge, p_isInt, p_isBool, p_min, p_max, p_lenC, p_lenT, p_isB, p_asg_nm, p_asg_tp, p_asgs_nil, p_asgs_nm, raiX, LIM, m_shr, m_shl1, m_int, m_intB, m_list, m_listT, m_listC, m_tupR, m_tupT, m_fld, m_gF, m_store, m_sF, m_addF, m_dF, m_isI, m_iI, m_getL, m_oL, m_isL, m_recv, m_walk, m_stays, m_truR, m_tOl, m_newL, m_alloc, m_len, m_lOl, m_lOd, m_app, m_ext, m_getC, m_ins, m_idx, m_xOl, m_xOd, m_idxT, m_idxC, m_at0, m_storeAt, m_sOd, m_key, m_keyS, m_non, m_nnon, isNon_non, isNon_int, isNon_str, isNon_tup, isNon_ref, m_getX, m_gXe, m_isX, m_iXe, m_at, m_slc, m_slcC, m_slcT, m_slcS, m_cat, m_rep, m_isList, get_set, get_app, ne_len, ne_len0, len_ne, len_ne0, se_2, se_3, se_4, es_2, es_3, es_4, ne_len2, ne_len3, len_ne2, len_ne3, putF, List.lookup, x.f, PF, v_walkR ha]
    refine w_for0 (fun k env h' => h' = h ∧ ∃ y z, env = [some (.ref p), some (.ref a), some (.int (baseB s.ring s.top s.told (as.take k) s.base)), y, z]) ⟨rfl, _, _, rfl⟩ ?_ ?_ ?_
    · rintro i env h' ⟨rfl, -, -⟩
      exact p_stays ha
    · rintro i y env h' hy ⟨rfl, z, u, rfl⟩
      obtain ⟨k, hk1, rfl⟩ := ints_get hy
      have nr := List.all_eq_true.mp ok k (List.mem_of_getElem? hk1)
      unfold PS.near at nr
      simp at nr
      have l : k.toNat < s.told.length := by omega
      have e : atW (intsW s.told) k = some (.int s.told[k.toNat]) := by
        rw [m_at nr.1.1]
        exact ints_at (List.getElem?_eq_getElem l)
      refine ⟨_, p_asg_nm, ?_⟩
      rw [List.take_add_one, hk1, show (some k).toList = [k] from rfl, baseB_snoc]
      generalize baseB s.ring s.top s.told (as.take i) s.base = b
      simp [l_Pair_base_behind_0, ↓v_var, ↓v_lit, ↓v_glo, ↓v_op, ↓v_neg, v_negI, ↓v_not, ↓v_and, ↓v_or, ↓v_isB, ↓v_ch, ↓v_one, ↓v_more, ↓v_call, ↓v_fld, ↓v_meth, ↓v_make, ↓v_bi, ↓v_bm, ↓v_idx, ↓v_slc, ↓v_lst, ↓v_tup, ↓v_dic0, ↓v_xfl, ↓v_xis, ↓v_nil, ↓v_cons, ↓v_no, ↓v_so, ↓v_oneN, ↓v_oneI, ↓v_of, ↓v_rng1, ↓v_rng2, ↓v_rng3, ↓v_walkT, ↓v_walkC, ↓v_walkS, ↓v_enum, ↓v_zip, ↓v_rev, ↓v_lof, ↓v_tst, ↓v_truB, ↓v_run, ↓s_set, ↓s_setI, ↓s_setF, ↓s_incF, ↓s_ret, ↓s_retN, ↓s_expr, ↓s_pass, ↓s_bad, ↓s_ite, ↓s_for, ↓s_while, ↓s_rai, ↓s_try, ↓s_nil, ↓s_cons, ↓s_hnil, ↓s_hcons, ↓s_setNm, ↓s_setTp, ↓s_memS, w_ok, w_ex, w_bad, w_bind, w_calm, w_st, w_nx, w_rt, w_xe, w_bd, w_then, w_catch, w_gone, w_fn, w_if, w_ifS, -List.append_assoc, getVar, List.getElem?_cons_zero, List.getElem?_cons_succ, List.getElem?_nil, p_add, p_sub, p_mul, p_mod, p_fdiv, p_pow, p_eq, p_ne, p_lt, p_le, p_gt, p_ge, p_isInt, p_isBool, p_min, p_max, p_lenC, p_lenT, p_isB, p_asg_nm, p_asg_tp, p_asgs_nil, p_asgs_nm, raiX, LIM, m_shr, m_shl1, m_int, m_intB, m_list, m_listT, m_listC, m_tupR, m_tupT, m_fld, m_gF, m_store, m_sF, m_addF, m_dF, m_isI, m_iI, m_getL, m_oL, m_isL, m_recv, m_walk, m_stays, m_truR, m_tOl, m_newL, m_alloc, m_len, m_lOl, m_lOd, m_app, m_ext, m_getC, m_ins, m_idx, m_xOl, m_xOd, m_idxT, m_idxC, m_at0, m_storeAt, m_sOd, m_key, m_keyS, m_non, m_nnon, isNon_non, isNon_int, isNon_str, isNon_tup, isNon_ref, m_getX, m_gXe, m_isX, m_iXe, m_at, m_slc, m_slcC, m_slcT, m_slcS, m_cat, m_rep, m_isList, get_set, get_app, ne_len, ne_len0, len_ne, len_ne0, se_2, se_3, se_4, es_2, es_3, es_4, ne_len2, ne_len3, len_ne2, len_ne3, putF, List.lookup, x.f, x.l, PF, e, ahead_ok, r0, baseB, l]
      refine ⟨fun q => ?_, fun q => ?_⟩
      · omega
      · omega
    · rintro env h' ⟨rfl, y, z, rfl⟩
      rw [ints_len, List.take_length]
      simp [↓v_var, ↓v_lit, ↓v_glo, ↓v_op, ↓v_neg, v_negI, ↓v_not, ↓v_and, ↓v_or, ↓v_isB, ↓v_ch, ↓v_one, ↓v_more, ↓v_call, ↓v_fld, ↓v_meth, ↓v_make, ↓v_bi, ↓v_bm, ↓v_idx, ↓v_slc, ↓v_lst, ↓v_tup, ↓v_dic0, ↓v_xfl, ↓v_xis, ↓v_nil, ↓v_cons, ↓v_no, ↓v_so, ↓v_oneN, ↓v_oneI, ↓v_of, ↓v_rng1, ↓v_rng2, ↓v_rng3, ↓v_walkT, ↓v_walkC, ↓v_walkS, ↓v_enum, ↓v_zip, ↓v_rev, ↓v_lof, ↓v_tst, ↓v_truB, ↓v_run, ↓s_set, ↓s_setI, ↓s_setF, ↓s_incF, ↓s_ret, ↓s_retN, ↓s_expr, ↓s_pass, ↓s_bad, ↓s_ite, ↓s_for, ↓s_while, ↓s_rai, ↓s_try, ↓s_nil, ↓s_cons, ↓s_hnil, ↓s_hcons, ↓s_setNm, ↓s_setTp, ↓s_memS, w_ok, w_ex, w_bad, w_bind, w_calm, w_st, w_nx, w_rt, w_xe, w_bd, w_then, w_catch, w_gone, w_fn, w_if, w_ifS, -List.append_assoc, getVar, List.getElem?_cons_zero, List.getElem?_cons_succ, List.getElem?_nil, p_add, p_sub, p_mul, p_mod, p_fdiv, p_pow, p_eq, p_ne, p_lt, p_le, p_gt, p_ge, p_isInt, p_isBool, p_min, p_max, p_lenC, p_lenT, p_isB, p_asg_nm, p_asg_tp, p_asgs_nil, p_asgs_nm, raiX])
  obtain ⟨a, h', e, rfl, rfl⟩ := q
  exact e
/-- the piece of a turn comes -/
def PS.num (s : PS) (k : Int) : Int := match s.sent[k.toNat]? with
  | some (.int z) => z
  | _ => 0
def PS.far (s : PS) (k : Int) : Int := (s.num k % s.ring - s.got) % s.ring
def PS.file (s : PS) (k : Int) : PS := if s.room ≤ s.far k then s else { s with fil := putKW s.fil (.int (s.got + s.far k)) (.bl true), got := adv (putKW s.fil (.int (s.got + s.far k)) (.bl true)) s.got }
def PS.place (s : PS) (k : Int) : W := if s.room ≤ s.far k then .non else .int (s.got + s.far k)
theorem file_ok (x : PAt h p fd sd tl s) (k z : Int) (k0 : 0 ≤ k) (hk : s.sent[k.toNat]? = some (.int z)) (r0 : 0 < s.ring) (lf : s.fil.length < 90000) :
    (r_Pair_file_one [.ref p, .int k] h).wp (p := ⟨(fun v h' => v = s.place k ∧ PAt h' p fd sd tl (s.file k) ∧ Kp [p, fd] h h'), none_⟩) := by
  have nm : s.num k = z := by
    unfold PS.num
    rw [hk]
  have hf : (z % s.ring - s.got) % s.ring = s.far k := by
    unfold PS.far
    rw [nm]
  have e : atW s.sent k = some (.int z) := by
    rw [m_at k0]
    exact hk
  have n := x.n
  simp [Dis] at n
  simp [r_Pair_file_one, f_Pair_file_one, ↓v_var, ↓v_lit, ↓v_glo, ↓v_op, ↓v_neg, v_negI, ↓v_not, ↓v_and, ↓v_or, ↓v_isB, ↓v_ch, ↓v_one, ↓v_more, ↓v_call, ↓v_fld, ↓v_meth, ↓v_make, ↓v_bi, ↓v_bm, ↓v_idx, ↓v_slc, ↓v_lst, ↓v_tup, ↓v_dic0, ↓v_xfl, ↓v_xis, ↓v_nil, ↓v_cons, ↓v_no, ↓v_so, ↓v_oneN, ↓v_oneI, ↓v_of, ↓v_rng1, ↓v_rng2, ↓v_rng3, ↓v_walkT, ↓v_walkC, ↓v_walkS, ↓v_enum, ↓v_zip, ↓v_rev, ↓v_lof, ↓v_tst, ↓v_truB, ↓v_run, ↓s_set, ↓s_setI, ↓s_setF, ↓s_incF, ↓s_ret, ↓s_retN, ↓s_expr, ↓s_pass, ↓s_bad, ↓s_ite, ↓s_for, ↓s_while, ↓s_rai, ↓s_try, ↓s_nil, ↓s_cons, ↓s_hnil, ↓s_hcons, ↓s_setNm, ↓s_setTp, ↓s_memS, w_ok, w_ex, w_bad, w_bind, w_calm, w_st, w_nx, w_rt, w_xe, w_bd, w_then, w_catch, w_gone, w_fn, w_if, w_ifS, -List.append_assoc, getVar, List.getElem?_cons_zero, List.getElem?_cons_succ, List.getElem?_nil, p_add, p_sub, p_mul, p_mod, p_fdiv, p_pow, p_eq, p_ne, p_lt, p_le, p_gt, p_ge, p_isInt, p_isBool, p_min, p_max, p_lenC, p_lenT, p_isB, p_asg_nm, p_asg_tp, p_asgs_nil, p_asgs_nm, raiX, LIM, m_shr, m_shl1, m_int, m_intB, m_list, m_listT, m_listC, m_tupR, m_tupT, m_fld, m_gF, m_store, m_sF, m_addF, m_dF, m_isI, m_iI, m_getL, m_oL, m_isL, m_recv, m_walk, m_stays, m_truR, m_tOl, m_newL, m_alloc, m_len, m_lOl, m_lOd, m_app, m_ext, m_getC, m_ins, m_idx, m_xOl, m_xOd, m_idxT, m_idxC, m_at0, m_storeAt, m_sOd, m_key, m_keyS, m_non, m_nnon, isNon_non, isNon_int, isNon_str, isNon_tup, isNon_ref, m_getX, m_gXe, m_isX, m_iXe, m_at, m_slc, m_slcC, m_slcT, m_slcS, m_cat, m_rep, m_isList, get_set, get_app, ne_len, ne_len0, len_ne, len_ne0, se_2, se_3, se_4, es_2, es_3, es_4, ne_len2, ne_len3, len_ne2, len_ne3, putF, List.lookup, x.f, x.e, PF, e, ahead_ok, r0, hf]
  refine ⟨fun q => ⟨by unfold PS.place; rw [if_pos q], by unfold PS.file; rw [if_pos q]; exact x, Kp.rfl⟩, fun q => ?_⟩
  simp [↓v_var, ↓v_lit, ↓v_glo, ↓v_op, ↓v_neg, v_negI, ↓v_not, ↓v_and, ↓v_or, ↓v_isB, ↓v_ch, ↓v_one, ↓v_more, ↓v_call, ↓v_fld, ↓v_meth, ↓v_make, ↓v_bi, ↓v_bm, ↓v_idx, ↓v_slc, ↓v_lst, ↓v_tup, ↓v_dic0, ↓v_xfl, ↓v_xis, ↓v_nil, ↓v_cons, ↓v_no, ↓v_so, ↓v_oneN, ↓v_oneI, ↓v_of, ↓v_rng1, ↓v_rng2, ↓v_rng3, ↓v_walkT, ↓v_walkC, ↓v_walkS, ↓v_enum, ↓v_zip, ↓v_rev, ↓v_lof, ↓v_tst, ↓v_truB, ↓v_run, ↓s_set, ↓s_setI, ↓s_setF, ↓s_incF, ↓s_ret, ↓s_retN, ↓s_expr, ↓s_pass, ↓s_bad, ↓s_ite, ↓s_for, ↓s_while, ↓s_rai, ↓s_try, ↓s_nil, ↓s_cons, ↓s_hnil, ↓s_hcons, ↓s_setNm, ↓s_setTp, ↓s_memS, w_ok, w_ex, w_bad, w_bind, w_calm, w_st, w_nx, w_rt, w_xe, w_bd, w_then, w_catch, w_gone, w_fn, w_if, w_ifS, -List.append_assoc, getVar, List.getElem?_cons_zero, List.getElem?_cons_succ, List.getElem?_nil, p_add, p_sub, p_mul, p_mod, p_fdiv, p_pow, p_eq, p_ne, p_lt, p_le, p_gt, p_ge, p_isInt, p_isBool, p_min, p_max, p_lenC, p_lenT, p_isB, p_asg_nm, p_asg_tp, p_asgs_nil, p_asgs_nm, raiX, LIM, m_shr, m_shl1, m_int, m_intB, m_list, m_listT, m_listC, m_tupR, m_tupT, m_fld, m_gF, m_store, m_sF, m_addF, m_dF, m_isI, m_iI, m_getL, m_oL, m_isL, m_recv, m_walk, m_stays, m_truR, m_tOl, m_newL, m_alloc, m_len, m_lOl, m_lOd, m_app, m_ext, m_getC, m_ins, m_idx, m_xOl, m_xOd, m_idxT, m_idxC, m_at0, m_storeAt, m_sOd, m_key, m_keyS, m_non, m_nnon, isNon_non, isNon_int, isNon_str, isNon_tup, isNon_ref, m_getX, m_gXe, m_isX, m_iXe, m_at, m_slc, m_slcC, m_slcT, m_slcS, m_cat, m_rep, m_isList, get_set, get_app, ne_len, ne_len0, len_ne, len_ne0, se_2, se_3, se_4, es_2, es_3, es_4, ne_len2, ne_len3, len_ne2, len_ne3, putF, List.lookup, x.d, show s.fil.length < 100000 by omega]
  have e1 : s.place k = .int (s.got + s.far k) := by unfold PS.place; rw [if_neg (by omega)]
  have e2 : s.file k = { s with fil := putKW s.fil (.int (s.got + s.far k)) (.bl true), got := adv (putKW s.fil (.int (s.got + s.far k)) (.bl true)) s.got } := by unfold PS.file; rw [if_neg (by omega)]
  have lk := put_len (kvs := s.fil) (k := .int (s.got + s.far k)) (v := .bl true)
  rw [e1, e2]
  generalize putKW s.fil (.int (s.got + s.far k)) (.bl true) = kvs at *
  have c0 := cnt_le (kvs := kvs) (g := s.got)
  refine w_while (c := fun env h => tst t_Pair_file_one c_Pair_file_one_0 env h) (I := fun env h' => env = [some (.ref p), some (.int k), some (.int (s.far k)), some (.int (s.got + s.far k))] ∧ ∃ g, adv kvs g = adv kvs s.got ∧ PAt h' p fd sd tl { s with fil := kvs, got := g } ∧ Kp [p, fd] h h') (m := fun env h' => match h'[p]? with
    | some (.ins _ fs) => (match fs.lookup 5 with
      | some (.int g) => cnt kvs g
      | _ => 0)
    | _ => 0) ?_ WL ⟨rfl, s.got, rfl, ⟨?_, ?_, ?_, ?_, x.n⟩, keeps_set Kp.rfl (by simp)⟩ ?_
  · rintro env h' ⟨rfl, g, hg, y, kk⟩
    simp [c_Pair_file_one_0, ↓v_var, ↓v_lit, ↓v_glo, ↓v_op, ↓v_neg, v_negI, ↓v_not, ↓v_and, ↓v_or, ↓v_isB, ↓v_ch, ↓v_one, ↓v_more, ↓v_call, ↓v_fld, ↓v_meth, ↓v_make, ↓v_bi, ↓v_bm, ↓v_idx, ↓v_slc, ↓v_lst, ↓v_tup, ↓v_dic0, ↓v_xfl, ↓v_xis, ↓v_nil, ↓v_cons, ↓v_no, ↓v_so, ↓v_oneN, ↓v_oneI, ↓v_of, ↓v_rng1, ↓v_rng2, ↓v_rng3, ↓v_walkT, ↓v_walkC, ↓v_walkS, ↓v_enum, ↓v_zip, ↓v_rev, ↓v_lof, ↓v_tst, ↓v_truB, ↓v_run, ↓s_set, ↓s_setI, ↓s_setF, ↓s_incF, ↓s_ret, ↓s_retN, ↓s_expr, ↓s_pass, ↓s_bad, ↓s_ite, ↓s_for, ↓s_while, ↓s_rai, ↓s_try, ↓s_nil, ↓s_cons, ↓s_hnil, ↓s_hcons, ↓s_setNm, ↓s_setTp, ↓s_memS, w_ok, w_ex, w_bad, w_bind, w_calm, w_st, w_nx, w_rt, w_xe, w_bd, w_then, w_catch, w_gone, w_fn, w_if, w_ifS, -List.append_assoc, getVar, List.getElem?_cons_zero, List.getElem?_cons_succ, List.getElem?_nil, p_add, p_sub, p_mul, p_mod, p_fdiv, p_pow, p_eq, p_ne, p_lt, p_le, p_gt, p_ge, p_isInt, p_isBool, p_min, p_max, p_lenC, p_lenT, p_isB, p_asg_nm, p_asg_tp, p_asgs_nil, p_asgs_nm, raiX, LIM, m_shr, m_shl1, m_int, m_intB, m_list, m_listT, m_listC, m_tupR, m_tupT, m_fld, m_gF, m_store, m_sF, m_addF, m_dF, m_isI, m_iI, m_getL, m_oL, m_isL, m_recv, m_walk, m_stays, m_truR, m_tOl, m_newL, m_alloc, m_len, m_lOl, m_lOd, m_app, m_ext, m_getC, m_ins, m_idx, m_xOl, m_xOd, m_idxT, m_idxC, m_at0, m_storeAt, m_sOd, m_key, m_keyS, m_non, m_nnon, isNon_non, isNon_int, isNon_str, isNon_tup, isNon_ref, m_getX, m_gXe, m_isX, m_iXe, m_at, m_slc, m_slcC, m_slcT, m_slcS, m_cat, m_rep, m_isList, get_set, get_app, ne_len, ne_len0, len_ne, len_ne0, se_2, se_3, se_4, es_2, es_3, es_4, ne_len2, ne_len3, len_ne2, len_ne3, putF, List.lookup, y.f, PF, m_in y.d]
    cases hh : hasI kvs g with
    | true =>
      have hh' : (findK kvs (.int g)).isSome = true := hh
      simp [hh', l_Pair_file_one_1, ↓v_var, ↓v_lit, ↓v_glo, ↓v_op, ↓v_neg, v_negI, ↓v_not, ↓v_and, ↓v_or, ↓v_isB, ↓v_ch, ↓v_one, ↓v_more, ↓v_call, ↓v_fld, ↓v_meth, ↓v_make, ↓v_bi, ↓v_bm, ↓v_idx, ↓v_slc, ↓v_lst, ↓v_tup, ↓v_dic0, ↓v_xfl, ↓v_xis, ↓v_nil, ↓v_cons, ↓v_no, ↓v_so, ↓v_oneN, ↓v_oneI, ↓v_of, ↓v_rng1, ↓v_rng2, ↓v_rng3, ↓v_walkT, ↓v_walkC, ↓v_walkS, ↓v_enum, ↓v_zip, ↓v_rev, ↓v_lof, ↓v_tst, ↓v_truB, ↓v_run, ↓s_set, ↓s_setI, ↓s_setF, ↓s_incF, ↓s_ret, ↓s_retN, ↓s_expr, ↓s_pass, ↓s_bad, ↓s_ite, ↓s_for, ↓s_while, ↓s_rai, ↓s_try, ↓s_nil, ↓s_cons, ↓s_hnil, ↓s_hcons, ↓s_setNm, ↓s_setTp, ↓s_memS, w_ok, w_ex, w_bad, w_bind, w_calm, w_st, w_nx, w_rt, w_xe, w_bd, w_then, w_catch, w_gone, w_fn, w_if, w_ifS, -List.append_assoc, getVar, List.getElem?_cons_zero, List.getElem?_cons_succ, List.getElem?_nil, p_add, p_sub, p_mul, p_mod, p_fdiv, p_pow, p_eq, p_ne, p_lt, p_le, p_gt, p_ge, p_isInt, p_isBool, p_min, p_max, p_lenC, p_lenT, p_isB, p_asg_nm, p_asg_tp, p_asgs_nil, p_asgs_nm, raiX, LIM, m_shr, m_shl1, m_int, m_intB, m_list, m_listT, m_listC, m_tupR, m_tupT, m_fld, m_gF, m_store, m_sF, m_addF, m_dF, m_isI, m_iI, m_getL, m_oL, m_isL, m_recv, m_walk, m_stays, m_truR, m_tOl, m_newL, m_alloc, m_len, m_lOl, m_lOd, m_app, m_ext, m_getC, m_ins, m_idx, m_xOl, m_xOd, m_idxT, m_idxC, m_at0, m_storeAt, m_sOd, m_key, m_keyS, m_non, m_nnon, isNon_non, isNon_int, isNon_str, isNon_tup, isNon_ref, m_getX, m_gXe, m_isX, m_iXe, m_at, m_slc, m_slcC, m_slcT, m_slcS, m_cat, m_rep, m_isList, get_set, get_app, ne_len, ne_len0, len_ne, len_ne0, se_2, se_3, se_4, es_2, es_3, es_4, ne_len2, ne_len3, len_ne2, len_ne3, putF, List.lookup, y.f, PF]
      refine ⟨⟨g + 1, by rw [adv_step hh, hg], ⟨?_, ?_, ?_, ?_, x.n⟩, keeps_set kk (by simp)⟩, cnt_lt hh⟩
      · simp [get_set, y.f, PF]
      · simp [get_set, n, y.d]
      · simp [get_set, n, y.e]
      · simp [get_set, n, y.l]
    | false =>
      have hh' : (findK kvs (.int g)).isSome = false := hh
      rw [← hg, adv_no hh]
      simp [hh', ↓v_var, ↓v_lit, ↓v_glo, ↓v_op, ↓v_neg, v_negI, ↓v_not, ↓v_and, ↓v_or, ↓v_isB, ↓v_ch, ↓v_one, ↓v_more, ↓v_call, ↓v_fld, ↓v_meth, ↓v_make, ↓v_bi, ↓v_bm, ↓v_idx, ↓v_slc, ↓v_lst, ↓v_tup, ↓v_dic0, ↓v_xfl, ↓v_xis, ↓v_nil, ↓v_cons, ↓v_no, ↓v_so, ↓v_oneN, ↓v_oneI, ↓v_of, ↓v_rng1, ↓v_rng2, ↓v_rng3, ↓v_walkT, ↓v_walkC, ↓v_walkS, ↓v_enum, ↓v_zip, ↓v_rev, ↓v_lof, ↓v_tst, ↓v_truB, ↓v_run, ↓s_set, ↓s_setI, ↓s_setF, ↓s_incF, ↓s_ret, ↓s_retN, ↓s_expr, ↓s_pass, ↓s_bad, ↓s_ite, ↓s_for, ↓s_while, ↓s_rai, ↓s_try, ↓s_nil, ↓s_cons, ↓s_hnil, ↓s_hcons, ↓s_setNm, ↓s_setTp, ↓s_memS, w_ok, w_ex, w_bad, w_bind, w_calm, w_st, w_nx, w_rt, w_xe, w_bd, w_then, w_catch, w_gone, w_fn, w_if, w_ifS, -List.append_assoc, getVar, List.getElem?_cons_zero, List.getElem?_cons_succ, List.getElem?_nil, p_add, p_sub, p_mul, p_mod, p_fdiv, p_pow, p_eq, p_ne, p_lt, p_le, p_gt, p_ge, p_isInt, p_isBool, p_min, p_max, p_lenC, p_lenT, p_isB, p_asg_nm, p_asg_tp, p_asgs_nil, p_asgs_nm, raiX]
      exact ⟨y, kk⟩
  · simp [get_set, n, x.f, Ne.symm, PF]
  · simp [get_set, x.d]
  · simp [get_set, n, x.e]
  · simp [get_set, n, x.l]
  · simp [get_set, n, x.f, PF, WL, List.lookup]
    omega
theorem file_len (s : PS) (k : Int) : (s.file k).fil.length ≤ s.fil.length + 1 := by
  unfold PS.file
  split
  · omega
  · exact put_len
theorem file_same (s : PS) (k : Int) : (s.file k).ring = s.ring ∧ (s.file k).room = s.room ∧ (s.file k).lag = s.lag ∧ (s.file k).base = s.base ∧ (s.file k).top = s.top ∧ (s.file k).sent = s.sent ∧ (s.file k).told = s.told := by
  unfold PS.file
  split <;> simp
def PS.files (s : PS) (cs : List Int) : PS := cs.foldl PS.file s
def PS.places (s : PS) : List Int → List W
  | [] => []
  | k :: r => s.place k :: (s.file k).places r
theorem files_snoc (s : PS) (cs : List Int) (k : Int) : s.files (cs ++ [k]) = (s.files cs).file k := by
  unfold PS.files
  rw [List.foldl_append]
  rfl
theorem places_snoc : ∀ (cs : List Int) (s : PS) (k : Int), s.places (cs ++ [k]) = s.places cs ++ [(s.files cs).place k]
  | [], _, _ => rfl
  | a :: r, s, k => by
    show s.place a :: (s.file a).places (r ++ [k]) = _
    rw [places_snoc r]
    rfl
theorem places_len : ∀ (cs : List Int) (s : PS), (s.places cs).length = cs.length
  | [], _ => rfl
  | a :: r, s => by
    show ((s.file a).places r).length + 1 = r.length + 1
    rw [places_len r]
theorem files_len : ∀ (cs : List Int) (s : PS), (s.files cs).fil.length ≤ s.fil.length + cs.length
  | [], s => Nat.le_refl _
  | a :: r, s => by
    have := files_len r (s.file a)
    have := file_len s a
    show ((s.file a).files r).fil.length ≤ _
    rw [List.length_cons]
    omega
theorem files_same : ∀ (cs : List Int) (s : PS), (s.files cs).ring = s.ring ∧ (s.files cs).room = s.room ∧ (s.files cs).lag = s.lag ∧ (s.files cs).base = s.base ∧ (s.files cs).top = s.top ∧ (s.files cs).sent = s.sent ∧ (s.files cs).told = s.told
  | [], s => ⟨rfl, rfl, rfl, rfl, rfl, rfl, rfl⟩
  | a :: r, s => by
    obtain ⟨a1, a2, a3, a4, a5, a6, a7⟩ := files_same r (s.file a)
    obtain ⟨b1, b2, b3, b4, b5, b6, b7⟩ := file_same s a
    exact ⟨a1.trans b1, a2.trans b2, a3.trans b3, a4.trans b4, a5.trans b5, a6.trans b6, a7.trans b7⟩
theorem canCome_int {k : Int} (c : s.canCome k = true) (hs : ∀ w ∈ s.sent, w = .non ∨ ∃ z, w = .int z) : 0 ≤ k ∧ ∃ z, s.sent[k.toNat]? = some (.int z) := by
  have nr : s.near k = true := by
    unfold PS.canCome at c
    exact (Bool.and_eq_true_iff.mp c).1
  obtain ⟨z, e1, e2⟩ := canCome_at nr
  have k0 : 0 ≤ k := by
    unfold PS.near at nr
    simp at nr
    omega
  rw [m_at k0] at e1
  refine ⟨k0, ?_⟩
  rw [c] at e2
  rcases hs z (List.mem_of_getElem? e1) with rfl | ⟨y, rfl⟩
  · cases e2
  · exact ⟨y, e1⟩
theorem places_ok (x : PAt h p fd sd tl s) (c : Nat) (cs : List Int) (env : Env) (e0 : env[0]? = some (some (.ref p))) (e1 : env[1]? = some (some (.ref c))) (e7 : 7 < env.length) (hc : h[c]? = some (.lst (intsW cs))) (hs : ∀ w ∈ s.sent, w = .non ∨ ∃ z, w = .int z) (ok : cs.all s.canCome = true) (r0 : 0 < s.ring) (lf : s.fil.length + cs.length < 90000) :
    (ev t_Pair_play k_Pair_play_1 env h).wp (p := ⟨(fun v h' => ∃ q, v = .ref q ∧ h.length ≤ q ∧ h'[q]? = some (.lst (s.places cs)) ∧ PAt h' p fd sd tl (s.files cs) ∧ Kp [p, fd] h h'), none_⟩) := by
  have np : ¬ c = p := fun z => by rw [z, x.f] at hc; cases hc
  have nf : ¬ c = fd := fun z => by rw [z, x.d] at hc; cases hc
  refine w_comp (fun k acc h' => acc = s.places (cs.take k) ∧ PAt h' p fd sd tl (s.files (cs.take k)) ∧ Kp [p, fd] h h') ?_
  simp only [↓v_var, ↓v_lit, ↓v_glo, ↓v_op, ↓v_neg, v_negI, ↓v_not, ↓v_and, ↓v_or, ↓v_isB, ↓v_ch, ↓v_one, ↓v_more, ↓v_call, ↓v_fld, ↓v_meth, ↓v_make, ↓v_bi, ↓v_bm, ↓v_idx, ↓v_slc, ↓v_lst, ↓v_tup, ↓v_dic0, ↓v_xfl, ↓v_xis, ↓v_nil, ↓v_cons, ↓v_no, ↓v_so, ↓v_oneN, ↓v_oneI, ↓v_of, ↓v_rng1, ↓v_rng2, ↓v_rng3, ↓v_walkT, ↓v_walkC, ↓v_walkS, ↓v_enum, ↓v_zip, ↓v_rev, ↓v_lof, ↓v_tst, ↓v_truB, ↓v_run, ↓s_set, ↓s_setI, ↓s_setF, ↓s_incF, ↓s_ret, ↓s_retN, ↓s_expr, ↓s_pass, ↓s_bad, ↓s_ite, ↓s_for, ↓s_while, ↓s_rai, ↓s_try, ↓s_nil, ↓s_cons, ↓s_hnil, ↓s_hcons, ↓s_setNm, ↓s_setTp, ↓s_memS, w_ok, w_ex, w_bad, w_bind, w_calm, w_st, w_nx, w_rt, w_xe, w_bd, w_then, w_catch, w_gone, w_fn, w_if, w_ifS, -List.append_assoc, getVar, List.getElem?_cons_zero, List.getElem?_cons_succ, List.getElem?_nil, p_add, p_sub, p_mul, p_mod, p_fdiv, p_pow, p_eq, p_ne, p_lt, p_le, p_gt, p_ge, p_isInt, p_isBool, p_min, p_max, p_lenC, p_lenT, p_isB, p_asg_nm, p_asg_tp, p_asgs_nil, p_asgs_nm, raiX, e1, v_walkR hc]
  refine ⟨⟨rfl, x, Kp.rfl⟩, by rw [ints_len]; unfold LIM; omega, ?_, ?_, ?_⟩
  · rintro i acc h' ⟨-, -, kk⟩
    exact p_stays (kk.at hc (by simp [np, nf]))
  · rintro i y acc h' hy ⟨rfl, y2, kk⟩
    obtain ⟨k, hk1, rfl⟩ := ints_get hy
    obtain ⟨k0, z, hz⟩ := canCome_int (List.all_eq_true.mp ok k (List.mem_of_getElem? hk1)) hs
    obtain ⟨a1, a2, a3, a4, a5, a6, a7⟩ := files_same (cs.take i) s
    have ll := files_len (cs.take i) s
    have lt : (cs.take i).length ≤ cs.length := List.length_take_le' _ _
    refine ⟨_, p_asg_nm, ?_⟩
    rw [List.take_add_one, hk1, show (some k).toList = [k] from rfl, files_snoc, places_snoc, w_cfno]
    simp [c_Pair_play_0, ↓v_var, ↓v_lit, ↓v_glo, ↓v_op, ↓v_neg, v_negI, ↓v_not, ↓v_and, ↓v_or, ↓v_isB, ↓v_ch, ↓v_one, ↓v_more, ↓v_call, ↓v_fld, ↓v_meth, ↓v_make, ↓v_bi, ↓v_bm, ↓v_idx, ↓v_slc, ↓v_lst, ↓v_tup, ↓v_dic0, ↓v_xfl, ↓v_xis, ↓v_nil, ↓v_cons, ↓v_no, ↓v_so, ↓v_oneN, ↓v_oneI, ↓v_of, ↓v_rng1, ↓v_rng2, ↓v_rng3, ↓v_walkT, ↓v_walkC, ↓v_walkS, ↓v_enum, ↓v_zip, ↓v_rev, ↓v_lof, ↓v_tst, ↓v_truB, ↓v_run, ↓s_set, ↓s_setI, ↓s_setF, ↓s_incF, ↓s_ret, ↓s_retN, ↓s_expr, ↓s_pass, ↓s_bad, ↓s_ite, ↓s_for, ↓s_while, ↓s_rai, ↓s_try, ↓s_nil, ↓s_cons, ↓s_hnil, ↓s_hcons, ↓s_setNm, ↓s_setTp, ↓s_memS, w_ok, w_ex, w_bad, w_bind, w_calm, w_st, w_nx, w_rt, w_xe, w_bd, w_then, w_catch, w_gone, w_fn, w_if, w_ifS, -List.append_assoc, getVar, List.getElem?_cons_zero, List.getElem?_cons_succ, List.getElem?_nil, p_add, p_sub, p_mul, p_mod, p_fdiv, p_pow, p_eq, p_ne, p_lt, p_le, p_gt, p_ge, p_isInt, p_isBool, p_min, p_max, p_lenC, p_lenT, p_isB, p_asg_nm, p_asg_tp, p_asgs_nil, p_asgs_nm, raiX, LIM, m_shr, m_shl1, m_int, m_intB, m_list, m_listT, m_listC, m_tupR, m_tupT, m_fld, m_gF, m_store, m_sF, m_addF, m_dF, m_isI, m_iI, m_getL, m_oL, m_isL, m_recv, m_walk, m_stays, m_truR, m_tOl, m_newL, m_alloc, m_len, m_lOl, m_lOd, m_app, m_ext, m_getC, m_ins, m_idx, m_xOl, m_xOd, m_idxT, m_idxC, m_at0, m_storeAt, m_sOd, m_key, m_keyS, m_non, m_nnon, isNon_non, isNon_int, isNon_str, isNon_tup, isNon_ref, m_getX, m_gXe, m_isX, m_iXe, m_at, m_slc, m_slcC, m_slcT, m_slcS, m_cat, m_rep, m_isList, get_set, get_app, ne_len, ne_len0, len_ne, len_ne0, se_2, se_3, se_4, es_2, es_3, es_4, ne_len2, ne_len3, len_ne2, len_ne3, putF, List.lookup, wipe, e0, e7, show (0 : Nat) ≠ 7 by decide, List.getElem?_set, y2.f]
    refine (file_ok y2 k z k0 (by rw [a6]; exact hz) (by rw [a1]; exact r0) (by omega)).mn ?_
    rintro v h2 ⟨rfl, y3, k3⟩
    exact ⟨rfl, y3, kk.trans k3 (by simp)⟩
  · rintro acc h' ⟨rfl, y2, kk⟩
    rw [ints_len, List.take_length] at *
    exact ⟨_, rfl, kk.len, by simp, y2.kp (A := []) (keeps_app Kp.rfl) (by simp) (by simp) (by simp) (by simp), keeps_app kk⟩
def oW : Option Int → W
  | none => .non
  | some z => .int z
def PS.itOk (s : PS) (b : Int) : Option Int → Bool
  | none => true
  | some z => decide (b ≤ z) && decide (z < b + s.room) && decide (z ≤ s.top)
def PS.bb (s : PS) (as : List Int) : Int := baseB s.ring s.top s.told as s.base
def PS.played (s : PS) (cs as : List Int) (it : Option Int) : PS :=
  { s.files cs with base := s.bb as, top := if it = some s.top then s.top + 1 else s.top, sent := s.sent ++ [oW it], told := s.told ++ [(s.files cs).got % s.ring] }
def PS.valid (s : PS) (cs as : List Int) (it : Option Int) : Bool := s.okC cs as && s.itOk (s.bb as) it
theorem play_ok (x : PAt h p fd sd tl s) (c a : Nat) (cs as : List Int) (it : Option Int) (hc : h[c]? = some (.lst (intsW cs))) (ha : h[a]? = some (.lst (intsW as))) (hs : ∀ w ∈ s.sent, w = .non ∨ ∃ z, w = .int z) (r0 : 0 < s.ring) (hl : s.told.length = s.sent.length) (lf : s.fil.length + cs.length < 90000) (lk : s.sent.length < 90000) :
    (r_Pair_play [.ref p, .ref c, .ref a, oW it] h).wp (p := ⟨(fun v h' => s.valid cs as it = true ∧ ∃ q, v = .ref q ∧ h.length ≤ q ∧ h'[q]? = some (.lst (s.places cs)) ∧ PAt h' p fd sd tl (s.played cs as it) ∧ Kp [p, fd, sd, tl] h h'), (fun y h' => s.valid cs as it = false ∧ y = ⟨3, [(9, .int s.sent.length)]⟩ ∧ h' = h)⟩) := by
  have n := x.n
  simp [Dis] at n
  simp [r_Pair_play, f_Pair_play, ↓v_var, ↓v_lit, ↓v_glo, ↓v_op, ↓v_neg, v_negI, ↓v_not, ↓v_and, ↓v_or, ↓v_isB, ↓v_ch, ↓v_one, ↓v_more, ↓v_call, ↓v_fld, ↓v_meth, ↓v_make, ↓v_bi, ↓v_bm, ↓v_idx, ↓v_slc, ↓v_lst, ↓v_tup, ↓v_dic0, ↓v_xfl, ↓v_xis, ↓v_nil, ↓v_cons, ↓v_no, ↓v_so, ↓v_oneN, ↓v_oneI, ↓v_of, ↓v_rng1, ↓v_rng2, ↓v_rng3, ↓v_walkT, ↓v_walkC, ↓v_walkS, ↓v_enum, ↓v_zip, ↓v_rev, ↓v_lof, ↓v_tst, ↓v_truB, ↓v_run, ↓s_set, ↓s_setI, ↓s_setF, ↓s_incF, ↓s_ret, ↓s_retN, ↓s_expr, ↓s_pass, ↓s_bad, ↓s_ite, ↓s_for, ↓s_while, ↓s_rai, ↓s_try, ↓s_nil, ↓s_cons, ↓s_hnil, ↓s_hcons, ↓s_setNm, ↓s_setTp, ↓s_memS, w_ok, w_ex, w_bad, w_bind, w_calm, w_st, w_nx, w_rt, w_xe, w_bd, w_then, w_catch, w_gone, w_fn, w_if, w_ifS, -List.append_assoc, getVar, List.getElem?_cons_zero, List.getElem?_cons_succ, List.getElem?_nil, p_add, p_sub, p_mul, p_mod, p_fdiv, p_pow, p_eq, p_ne, p_lt, p_le, p_gt, p_ge, p_isInt, p_isBool, p_min, p_max, p_lenC, p_lenT, p_isB, p_asg_nm, p_asg_tp, p_asgs_nil, p_asgs_nm, raiX, LIM, m_shr, m_shl1, m_int, m_intB, m_list, m_listT, m_listC, m_tupR, m_tupT, m_fld, m_gF, m_store, m_sF, m_addF, m_dF, m_isI, m_iI, m_getL, m_oL, m_isL, m_recv, m_walk, m_stays, m_truR, m_tOl, m_newL, m_alloc, m_len, m_lOl, m_lOd, m_app, m_ext, m_getC, m_ins, m_idx, m_xOl, m_xOd, m_idxT, m_idxC, m_at0, m_storeAt, m_sOd, m_key, m_keyS, m_non, m_nnon, isNon_non, isNon_int, isNon_str, isNon_tup, isNon_ref, m_getX, m_gXe, m_isX, m_iXe, m_at, m_slc, m_slcC, m_slcT, m_slcS, m_cat, m_rep, m_isList, get_set, get_app, ne_len, ne_len0, len_ne, len_ne0, se_2, se_3, se_4, es_2, es_3, es_4, ne_len2, ne_len3, len_ne2, len_ne3, putF, List.lookup, x.f, x.e, PF]
  refine (check_ok x c a cs as hc ha).mono ?_ ?_
  case refine_2 =>
    rintro y h' ⟨rfl, rfl, ok⟩
    refine ⟨?_, rfl, rfl⟩
    unfold PS.valid
    rw [ok]
    rfl
  rintro v h' ⟨rfl, rfl, ok⟩
  have ok2 : cs.all s.canCome = true ∧ as.all s.near = true := by
    unfold PS.okC at ok
    exact Bool.and_eq_true_iff.mp ok
  simp [↓v_var, ↓v_lit, ↓v_glo, ↓v_op, ↓v_neg, v_negI, ↓v_not, ↓v_and, ↓v_or, ↓v_isB, ↓v_ch, ↓v_one, ↓v_more, ↓v_call, ↓v_fld, ↓v_meth, ↓v_make, ↓v_bi, ↓v_bm, ↓v_idx, ↓v_slc, ↓v_lst, ↓v_tup, ↓v_dic0, ↓v_xfl, ↓v_xis, ↓v_nil, ↓v_cons, ↓v_no, ↓v_so, ↓v_oneN, ↓v_oneI, ↓v_of, ↓v_rng1, ↓v_rng2, ↓v_rng3, ↓v_walkT, ↓v_walkC, ↓v_walkS, ↓v_enum, ↓v_zip, ↓v_rev, ↓v_lof, ↓v_tst, ↓v_truB, ↓v_run, ↓s_set, ↓s_setI, ↓s_setF, ↓s_incF, ↓s_ret, ↓s_retN, ↓s_expr, ↓s_pass, ↓s_bad, ↓s_ite, ↓s_for, ↓s_while, ↓s_rai, ↓s_try, ↓s_nil, ↓s_cons, ↓s_hnil, ↓s_hcons, ↓s_setNm, ↓s_setTp, ↓s_memS, w_ok, w_ex, w_bad, w_bind, w_calm, w_st, w_nx, w_rt, w_xe, w_bd, w_then, w_catch, w_gone, w_fn, w_if, w_ifS, -List.append_assoc, getVar, List.getElem?_cons_zero, List.getElem?_cons_succ, List.getElem?_nil, p_add, p_sub, p_mul, p_mod, p_fdiv, p_pow, p_eq, p_ne, p_lt, p_le, p_gt, p_ge, p_isInt, p_isBool, p_min, p_max, p_lenC, p_lenT, p_isB, p_asg_nm, p_asg_tp, p_asgs_nil, p_asgs_nm, raiX, LIM, m_shr, m_shl1, m_int, m_intB, m_list, m_listT, m_listC, m_tupR, m_tupT, m_fld, m_gF, m_store, m_sF, m_addF, m_dF, m_isI, m_iI, m_getL, m_oL, m_isL, m_recv, m_walk, m_stays, m_truR, m_tOl, m_newL, m_alloc, m_len, m_lOl, m_lOd, m_app, m_ext, m_getC, m_ins, m_idx, m_xOl, m_xOd, m_idxT, m_idxC, m_at0, m_storeAt, m_sOd, m_key, m_keyS, m_non, m_nnon, isNon_non, isNon_int, isNon_str, isNon_tup, isNon_ref, m_getX, m_gXe, m_isX, m_iXe, m_at, m_slc, m_slcC, m_slcT, m_slcS, m_cat, m_rep, m_isList, get_set, get_app, ne_len, ne_len0, len_ne, len_ne0, se_2, se_3, se_4, es_2, es_3, es_4, ne_len2, ne_len3, len_ne2, len_ne3, putF, List.lookup, x.f, base_ok x a as ha r0 hl ok2.2]
  rw [show baseB s.ring s.top s.told as s.base = s.bb as from rfl]
  have hn1 : ¬ c = p := fun z => by rw [z, x.f] at hc; cases hc
  have go := fun it' => places_ok x c cs [some (.ref p), some (.ref c), some (.ref a), some (oW it'), some (.int s.sent.length), some (.int (s.bb as)), none, none] rfl rfl (by simp) hc hs ok2.1 r0 lf
  obtain ⟨b1, b2, b3, b4, b5, b6, b7⟩ := files_same cs s
  have fin : ∀ it', s.itOk (s.bb as) it' = true → s.valid cs as it' = true := fun it' q => by
    unfold PS.valid
    rw [ok, q]
    rfl
  have fno : ∀ it', s.itOk (s.bb as) it' = false → s.valid cs as it' = false := fun it' q => by
    unfold PS.valid
    rw [ok, q]
    rfl
  cases it with
  | none =>
    simp [oW, ↓v_var, ↓v_lit, ↓v_glo, ↓v_op, ↓v_neg, v_negI, ↓v_not, ↓v_and, ↓v_or, ↓v_isB, ↓v_ch, ↓v_one, ↓v_more, ↓v_call, ↓v_fld, ↓v_meth, ↓v_make, ↓v_bi, ↓v_bm, ↓v_idx, ↓v_slc, ↓v_lst, ↓v_tup, ↓v_dic0, ↓v_xfl, ↓v_xis, ↓v_nil, ↓v_cons, ↓v_no, ↓v_so, ↓v_oneN, ↓v_oneI, ↓v_of, ↓v_rng1, ↓v_rng2, ↓v_rng3, ↓v_walkT, ↓v_walkC, ↓v_walkS, ↓v_enum, ↓v_zip, ↓v_rev, ↓v_lof, ↓v_tst, ↓v_truB, ↓v_run, ↓s_set, ↓s_setI, ↓s_setF, ↓s_incF, ↓s_ret, ↓s_retN, ↓s_expr, ↓s_pass, ↓s_bad, ↓s_ite, ↓s_for, ↓s_while, ↓s_rai, ↓s_try, ↓s_nil, ↓s_cons, ↓s_hnil, ↓s_hcons, ↓s_setNm, ↓s_setTp, ↓s_memS, w_ok, w_ex, w_bad, w_bind, w_calm, w_st, w_nx, w_rt, w_xe, w_bd, w_then, w_catch, w_gone, w_fn, w_if, w_ifS, -List.append_assoc, getVar, List.getElem?_cons_zero, List.getElem?_cons_succ, List.getElem?_nil, p_add, p_sub, p_mul, p_mod, p_fdiv, p_pow, p_eq, p_ne, p_lt, p_le, p_gt, p_ge, p_isInt, p_isBool, p_min, p_max, p_lenC, p_lenT, p_isB, p_asg_nm, p_asg_tp, p_asgs_nil, p_asgs_nm, raiX, LIM, m_shr, m_shl1, m_int, m_intB, m_list, m_listT, m_listC, m_tupR, m_tupT, m_fld, m_gF, m_store, m_sF, m_addF, m_dF, m_isI, m_iI, m_getL, m_oL, m_isL, m_recv, m_walk, m_stays, m_truR, m_tOl, m_newL, m_alloc, m_len, m_lOl, m_lOd, m_app, m_ext, m_getC, m_ins, m_idx, m_xOl, m_xOd, m_idxT, m_idxC, m_at0, m_storeAt, m_sOd, m_key, m_keyS, m_non, m_nnon, isNon_non, isNon_int, isNon_str, isNon_tup, isNon_ref, m_getX, m_gXe, m_isX, m_iXe, m_at, m_slc, m_slcC, m_slcT, m_slcS, m_cat, m_rep, m_isList, get_set, get_app, ne_len, ne_len0, len_ne, len_ne0, se_2, se_3, se_4, es_2, es_3, es_4, ne_len2, ne_len3, len_ne2, len_ne3, putF, List.lookup]
    refine (go none).mn ?_
    rintro v h1 ⟨q, rfl, lq, hq, y, kk⟩
    have nq := no_ne lq (iso_of x.f)
    have nq2 := no_ne lq (iso_of x.e)
    have nq3 := no_ne lq (iso_of x.l)
    simp [oW, ↓v_var, ↓v_lit, ↓v_glo, ↓v_op, ↓v_neg, v_negI, ↓v_not, ↓v_and, ↓v_or, ↓v_isB, ↓v_ch, ↓v_one, ↓v_more, ↓v_call, ↓v_fld, ↓v_meth, ↓v_make, ↓v_bi, ↓v_bm, ↓v_idx, ↓v_slc, ↓v_lst, ↓v_tup, ↓v_dic0, ↓v_xfl, ↓v_xis, ↓v_nil, ↓v_cons, ↓v_no, ↓v_so, ↓v_oneN, ↓v_oneI, ↓v_of, ↓v_rng1, ↓v_rng2, ↓v_rng3, ↓v_walkT, ↓v_walkC, ↓v_walkS, ↓v_enum, ↓v_zip, ↓v_rev, ↓v_lof, ↓v_tst, ↓v_truB, ↓v_run, ↓s_set, ↓s_setI, ↓s_setF, ↓s_incF, ↓s_ret, ↓s_retN, ↓s_expr, ↓s_pass, ↓s_bad, ↓s_ite, ↓s_for, ↓s_while, ↓s_rai, ↓s_try, ↓s_nil, ↓s_cons, ↓s_hnil, ↓s_hcons, ↓s_setNm, ↓s_setTp, ↓s_memS, w_ok, w_ex, w_bad, w_bind, w_calm, w_st, w_nx, w_rt, w_xe, w_bd, w_then, w_catch, w_gone, w_fn, w_if, w_ifS, -List.append_assoc, getVar, List.getElem?_cons_zero, List.getElem?_cons_succ, List.getElem?_nil, p_add, p_sub, p_mul, p_mod, p_fdiv, p_pow, p_eq, p_ne, p_lt, p_le, p_gt, p_ge, p_isInt, p_isBool, p_min, p_max, p_lenC, p_lenT, p_isB, p_asg_nm, p_asg_tp, p_asgs_nil, p_asgs_nm, raiX, LIM, m_shr, m_shl1, m_int, m_intB, m_list, m_listT, m_listC, m_tupR, m_tupT, m_fld, m_gF, m_store, m_sF, m_addF, m_dF, m_isI, m_iI, m_getL, m_oL, m_isL, m_recv, m_walk, m_stays, m_truR, m_tOl, m_newL, m_alloc, m_len, m_lOl, m_lOd, m_app, m_ext, m_getC, m_ins, m_idx, m_xOl, m_xOd, m_idxT, m_idxC, m_at0, m_storeAt, m_sOd, m_key, m_keyS, m_non, m_nnon, isNon_non, isNon_int, isNon_str, isNon_tup, isNon_ref, m_getX, m_gXe, m_isX, m_iXe, m_at, m_slc, m_slcC, m_slcT, m_slcS, m_cat, m_rep, m_isList, get_set, get_app, ne_len, ne_len0, len_ne, len_ne0, se_2, se_3, se_4, es_2, es_3, es_4, ne_len2, ne_len3, len_ne2, len_ne3, putF, List.lookup, y.f, y.e, y.l, PF, n, nq, nq2, nq3, hq, lq, b1, b2, b3, b5, b6, b7, r0, ints_len, show s.sent.length < 100000 by omega, show s.told.length < 100000 by omega]
    refine ⟨fin _ rfl, ⟨?_, ?_, ?_, ?_, x.n⟩, keeps_set (keeps_set (keeps_set (kk.sub (by simp)) (by simp)) (by simp)) (by simp)⟩ <;> simp [get_set, n, y.f, y.d, y.e, y.l, PS.played, PF, b1, b2, b3, b6, b7, intsW, oW, b5]
  | some z =>
    simp [oW, ↓v_var, ↓v_lit, ↓v_glo, ↓v_op, ↓v_neg, v_negI, ↓v_not, ↓v_and, ↓v_or, ↓v_isB, ↓v_ch, ↓v_one, ↓v_more, ↓v_call, ↓v_fld, ↓v_meth, ↓v_make, ↓v_bi, ↓v_bm, ↓v_idx, ↓v_slc, ↓v_lst, ↓v_tup, ↓v_dic0, ↓v_xfl, ↓v_xis, ↓v_nil, ↓v_cons, ↓v_no, ↓v_so, ↓v_oneN, ↓v_oneI, ↓v_of, ↓v_rng1, ↓v_rng2, ↓v_rng3, ↓v_walkT, ↓v_walkC, ↓v_walkS, ↓v_enum, ↓v_zip, ↓v_rev, ↓v_lof, ↓v_tst, ↓v_truB, ↓v_run, ↓s_set, ↓s_setI, ↓s_setF, ↓s_incF, ↓s_ret, ↓s_retN, ↓s_expr, ↓s_pass, ↓s_bad, ↓s_ite, ↓s_for, ↓s_while, ↓s_rai, ↓s_try, ↓s_nil, ↓s_cons, ↓s_hnil, ↓s_hcons, ↓s_setNm, ↓s_setTp, ↓s_memS, w_ok, w_ex, w_bad, w_bind, w_calm, w_st, w_nx, w_rt, w_xe, w_bd, w_then, w_catch, w_gone, w_fn, w_if, w_ifS, -List.append_assoc, getVar, List.getElem?_cons_zero, List.getElem?_cons_succ, List.getElem?_nil, p_add, p_sub, p_mul, p_mod, p_fdiv, p_pow, p_eq, p_ne, p_lt, p_le, p_gt, p_ge, p_isInt, p_isBool, p_min, p_max, p_lenC, p_lenT, p_isB, p_asg_nm, p_asg_tp, p_asgs_nil, p_asgs_nm, raiX, LIM, m_shr, m_shl1, m_int, m_intB, m_list, m_listT, m_listC, m_tupR, m_tupT, m_fld, m_gF, m_store, m_sF, m_addF, m_dF, m_isI, m_iI, m_getL, m_oL, m_isL, m_recv, m_walk, m_stays, m_truR, m_tOl, m_newL, m_alloc, m_len, m_lOl, m_lOd, m_app, m_ext, m_getC, m_ins, m_idx, m_xOl, m_xOd, m_idxT, m_idxC, m_at0, m_storeAt, m_sOd, m_key, m_keyS, m_non, m_nnon, isNon_non, isNon_int, isNon_str, isNon_tup, isNon_ref, m_getX, m_gXe, m_isX, m_iXe, m_at, m_slc, m_slcC, m_slcT, m_slcS, m_cat, m_rep, m_isList, get_set, get_app, ne_len, ne_len0, len_ne, len_ne0, se_2, se_3, se_4, es_2, es_3, es_4, ne_len2, ne_len3, len_ne2, len_ne3, putF, List.lookup, x.f, PF]
    refine ⟨fun c1 => ⟨fun c2 => fno _ (by simp [PS.itOk]; omega), fun c2 => ⟨fun c3 => fno _ (by simp [PS.itOk]; omega), fun c3 => ?_⟩⟩, fun c1 => fno _ (by simp [PS.itOk]; omega)⟩
    refine (go (some z)).mn ?_
    rintro v h1 ⟨q, rfl, lq, hq, y, kk⟩
    have nq := no_ne lq (iso_of x.f)
    have nq2 := no_ne lq (iso_of x.e)
    have nq3 := no_ne lq (iso_of x.l)
    simp [oW, ↓v_var, ↓v_lit, ↓v_glo, ↓v_op, ↓v_neg, v_negI, ↓v_not, ↓v_and, ↓v_or, ↓v_isB, ↓v_ch, ↓v_one, ↓v_more, ↓v_call, ↓v_fld, ↓v_meth, ↓v_make, ↓v_bi, ↓v_bm, ↓v_idx, ↓v_slc, ↓v_lst, ↓v_tup, ↓v_dic0, ↓v_xfl, ↓v_xis, ↓v_nil, ↓v_cons, ↓v_no, ↓v_so, ↓v_oneN, ↓v_oneI, ↓v_of, ↓v_rng1, ↓v_rng2, ↓v_rng3, ↓v_walkT, ↓v_walkC, ↓v_walkS, ↓v_enum, ↓v_zip, ↓v_rev, ↓v_lof, ↓v_tst, ↓v_truB, ↓v_run, ↓s_set, ↓s_setI, ↓s_setF, ↓s_incF, ↓s_ret, ↓s_retN, ↓s_expr, ↓s_pass, ↓s_bad, ↓s_ite, ↓s_for, ↓s_while, ↓s_rai, ↓s_try, ↓s_nil, ↓s_cons, ↓s_hnil, ↓s_hcons, ↓s_setNm, ↓s_setTp, ↓s_memS, w_ok, w_ex, w_bad, w_bind, w_calm, w_st, w_nx, w_rt, w_xe, w_bd, w_then, w_catch, w_gone, w_fn, w_if, w_ifS, -List.append_assoc, getVar, List.getElem?_cons_zero, List.getElem?_cons_succ, List.getElem?_nil, p_add, p_sub, p_mul, p_mod, p_fdiv, p_pow, p_eq, p_ne, p_lt, p_le, p_gt, p_ge, p_isInt, p_isBool, p_min, p_max, p_lenC, p_lenT, p_isB, p_asg_nm, p_asg_tp, p_asgs_nil, p_asgs_nm, raiX, LIM, m_shr, m_shl1, m_int, m_intB, m_list, m_listT, m_listC, m_tupR, m_tupT, m_fld, m_gF, m_store, m_sF, m_addF, m_dF, m_isI, m_iI, m_getL, m_oL, m_isL, m_recv, m_walk, m_stays, m_truR, m_tOl, m_newL, m_alloc, m_len, m_lOl, m_lOd, m_app, m_ext, m_getC, m_ins, m_idx, m_xOl, m_xOd, m_idxT, m_idxC, m_at0, m_storeAt, m_sOd, m_key, m_keyS, m_non, m_nnon, isNon_non, isNon_int, isNon_str, isNon_tup, isNon_ref, m_getX, m_gXe, m_isX, m_iXe, m_at, m_slc, m_slcC, m_slcT, m_slcS, m_cat, m_rep, m_isList, get_set, get_app, ne_len, ne_len0, len_ne, len_ne0, se_2, se_3, se_4, es_2, es_3, es_4, ne_len2, ne_len3, len_ne2, len_ne3, putF, List.lookup, y.f, y.e, y.l, PF, n, nq, nq2, nq3, hq, lq, b1, b2, b3, b5, b6, b7, r0, ints_len, show s.sent.length < 100000 by omega, show s.told.length < 100000 by omega]
    refine ⟨fun ct => ?_, fun ct => ?_⟩
    · refine ⟨fin _ (by simp [PS.itOk]; omega), ⟨?_, ?_, ?_, ?_, x.n⟩, keeps_set (keeps_set (keeps_set (kk.sub (by simp)) (by simp)) (by simp)) (by simp)⟩ <;> simp [get_set, n, y.f, y.d, y.e, y.l, PS.played, PF, b1, b2, b3, b6, b7, intsW, oW, ct, b5]
    · refine ⟨fin _ (by simp [PS.itOk]; omega), ⟨?_, ?_, ?_, ?_, x.n⟩, keeps_set (keeps_set (keeps_set (kk.sub (by simp)) (by simp)) (by simp)) (by simp)⟩ <;> simp [get_set, n, y.f, y.d, y.e, y.l, PS.played, PF, b1, b2, b3, b6, b7, intsW, oW, ct, b5]
end
theorem at_pick {ws : List W} {i : Int} (i0 : 0 ≤ i) (il : i < (ws.length : Int)) : ∃ w ∈ ws, atW ws i = some w := by
  rw [m_at i0]
  exact ⟨_, List.getElem_mem _, List.getElem?_eq_getElem (by omega)⟩
def goodP (rg rm lg : Int) : Prop := (1 ≤ rm ∧ rm ≤ 60) ∧ (rm < rg ∧ rg ≤ 1000000) ∧ 1 ≤ lg ∧ lg ≤ 60
theorem ckp_ok (rg rm lg : Int) (h : Mem) (g : goodP rg rm lg) : r_check_pair [.int rg, .int rm, .int lg] h = .ok .non h := by
  obtain ⟨⟨a1, a2⟩, ⟨a3, a4⟩, a5, a6⟩ := g
  simp [r_check_pair, f_check_pair, run, xss, xs, ev, evs, evc, evo, evi, tst, getVar, fnOf, p_add, p_sub, p_mul, p_mod, p_fdiv, p_pow, p_eq, p_ne, p_lt, p_le, p_gt, p_ge, p_isInt, p_isBool, p_min, p_max, p_lenC, p_lenT, p_tru_bl, p_isB, p_asg_nm, p_asg_tp, p_asgM_nm, p_asgM_tp, p_asgs_nil, p_asgs_nm, xhs, raiX, a1, a2, a3, a4, a5, a6]
theorem ckp_no (rg rm lg : Int) (h : Mem) (g : ¬ goodP rg rm lg) : r_check_pair [.int rg, .int rm, .int lg] h = .ex ⟨2, []⟩ h := by
  by_cases a1 : 1 ≤ rm
  case neg => simp [r_check_pair, f_check_pair, run, xss, xs, ev, evs, evc, evo, evi, tst, getVar, fnOf, p_add, p_sub, p_mul, p_mod, p_fdiv, p_pow, p_eq, p_ne, p_lt, p_le, p_gt, p_ge, p_isInt, p_isBool, p_min, p_max, p_lenC, p_lenT, p_tru_bl, p_isB, p_asg_nm, p_asg_tp, p_asgM_nm, p_asgM_tp, p_asgs_nil, p_asgs_nm, xhs, raiX, a1, fnOf]
  by_cases a2 : rm ≤ 60
  case neg => simp [r_check_pair, f_check_pair, run, xss, xs, ev, evs, evc, evo, evi, tst, getVar, fnOf, p_add, p_sub, p_mul, p_mod, p_fdiv, p_pow, p_eq, p_ne, p_lt, p_le, p_gt, p_ge, p_isInt, p_isBool, p_min, p_max, p_lenC, p_lenT, p_tru_bl, p_isB, p_asg_nm, p_asg_tp, p_asgM_nm, p_asgM_tp, p_asgs_nil, p_asgs_nm, xhs, raiX, a1, a2, fnOf]
  by_cases a3 : rm < rg
  case neg => simp [r_check_pair, f_check_pair, run, xss, xs, ev, evs, evc, evo, evi, tst, getVar, fnOf, p_add, p_sub, p_mul, p_mod, p_fdiv, p_pow, p_eq, p_ne, p_lt, p_le, p_gt, p_ge, p_isInt, p_isBool, p_min, p_max, p_lenC, p_lenT, p_tru_bl, p_isB, p_asg_nm, p_asg_tp, p_asgM_nm, p_asgM_tp, p_asgs_nil, p_asgs_nm, xhs, raiX, a1, a2, a3, fnOf]
  by_cases a4 : rg ≤ 1000000
  case neg => simp [r_check_pair, f_check_pair, run, xss, xs, ev, evs, evc, evo, evi, tst, getVar, fnOf, p_add, p_sub, p_mul, p_mod, p_fdiv, p_pow, p_eq, p_ne, p_lt, p_le, p_gt, p_ge, p_isInt, p_isBool, p_min, p_max, p_lenC, p_lenT, p_tru_bl, p_isB, p_asg_nm, p_asg_tp, p_asgM_nm, p_asgM_tp, p_asgs_nil, p_asgs_nm, xhs, raiX, a1, a2, a3, a4, fnOf]
  by_cases a5 : 1 ≤ lg
  case neg => simp [r_check_pair, f_check_pair, run, xss, xs, ev, evs, evc, evo, evi, tst, getVar, fnOf, p_add, p_sub, p_mul, p_mod, p_fdiv, p_pow, p_eq, p_ne, p_lt, p_le, p_gt, p_ge, p_isInt, p_isBool, p_min, p_max, p_lenC, p_lenT, p_tru_bl, p_isB, p_asg_nm, p_asg_tp, p_asgM_nm, p_asgM_tp, p_asgs_nil, p_asgs_nm, xhs, raiX, a1, a2, a3, a4, a5, fnOf]
  by_cases a6 : lg ≤ 60
  case neg => simp [r_check_pair, f_check_pair, run, xss, xs, ev, evs, evc, evo, evi, tst, getVar, fnOf, p_add, p_sub, p_mul, p_mod, p_fdiv, p_pow, p_eq, p_ne, p_lt, p_le, p_gt, p_ge, p_isInt, p_isBool, p_min, p_max, p_lenC, p_lenT, p_tru_bl, p_isB, p_asg_nm, p_asg_tp, p_asgM_nm, p_asgM_tp, p_asgs_nil, p_asgs_nm, xhs, raiX, a1, a2, a3, a4, a5, a6, fnOf]
  exact absurd ⟨⟨a1, a2⟩, ⟨a3, a4⟩, a5, a6⟩ g
theorem pinit_ok (p : Nat) (rg rm lg : Int) (h : Mem) (e : h[p]? = some (.ins 0 [])) (g : goodP rg rm lg) :
    (r_Pair___init__ [.ref p, .int rg, .int rm, .int lg] h).wp (p := ⟨(fun v h' => v = .non ∧ ∃ fd sd tl, PAt h' p fd sd tl ⟨rg, rm, lg, 0, 0, 0, [], [], []⟩ ∧ h.length ≤ fd ∧ h.length ≤ sd ∧ h.length ≤ tl ∧ Kp [p] h h'), none_⟩) := by
  simp [r_Pair___init__, f_Pair___init__, ↓v_var, ↓v_lit, ↓v_glo, ↓v_op, ↓v_neg, v_negI, ↓v_not, ↓v_and, ↓v_or, ↓v_isB, ↓v_ch, ↓v_one, ↓v_more, ↓v_call, ↓v_fld, ↓v_meth, ↓v_make, ↓v_bi, ↓v_bm, ↓v_idx, ↓v_slc, ↓v_lst, ↓v_tup, ↓v_dic0, ↓v_xfl, ↓v_xis, ↓v_nil, ↓v_cons, ↓v_no, ↓v_so, ↓v_oneN, ↓v_oneI, ↓v_of, ↓v_rng1, ↓v_rng2, ↓v_rng3, ↓v_walkT, ↓v_walkC, ↓v_walkS, ↓v_enum, ↓v_zip, ↓v_rev, ↓v_lof, ↓v_tst, ↓v_truB, ↓v_run, ↓s_set, ↓s_setI, ↓s_setF, ↓s_incF, ↓s_ret, ↓s_retN, ↓s_expr, ↓s_pass, ↓s_bad, ↓s_ite, ↓s_for, ↓s_while, ↓s_rai, ↓s_try, ↓s_nil, ↓s_cons, ↓s_hnil, ↓s_hcons, ↓s_setNm, ↓s_setTp, ↓s_memS, w_ok, w_ex, w_bad, w_bind, w_calm, w_st, w_nx, w_rt, w_xe, w_bd, w_then, w_catch, w_gone, w_fn, w_if, w_ifS, -List.append_assoc, getVar, List.getElem?_cons_zero, List.getElem?_cons_succ, List.getElem?_nil, p_add, p_sub, p_mul, p_mod, p_fdiv, p_pow, p_eq, p_ne, p_lt, p_le, p_gt, p_ge, p_isInt, p_isBool, p_min, p_max, p_lenC, p_lenT, p_isB, p_asg_nm, p_asg_tp, p_asgs_nil, p_asgs_nm, raiX, LIM, m_shr, m_shl1, m_int, m_intB, m_list, m_listT, m_listC, m_tupR, m_tupT, m_fld, m_gF, m_store, m_sF, m_addF, m_dF, m_isI, m_iI, m_getL, m_oL, m_isL, m_recv, m_walk, m_stays, m_truR, m_tOl, m_newL, m_alloc, m_len, m_lOl, m_lOd, m_app, m_ext, m_getC, m_ins, m_idx, m_xOl, m_xOd, m_idxT, m_idxC, m_at0, m_storeAt, m_sOd, m_key, m_keyS, m_non, m_nnon, isNon_non, isNon_int, isNon_str, isNon_tup, isNon_ref, m_getX, m_gXe, m_isX, m_iXe, m_at, m_slc, m_slcC, m_slcT, m_slcS, m_cat, m_rep, m_isList, get_set, get_app, ne_len, ne_len0, len_ne, len_ne0, se_2, se_3, se_4, es_2, es_3, es_4, ne_len2, ne_len3, len_ne2, len_ne3, putF, List.lookup, ckp_ok _ _ _ _ g, e, LIM]
  refine ⟨h.length, h.length + 1, h.length + 1 + 1, ⟨?_, ?_, ?_, ?_, ?_⟩, Nat.le_refl _, by omega, by omega, by repeat' first | exact Kp.rfl | assumption | refine keeps_app ?_ | refine keeps_set ?_ (by simp [*])⟩
  all_goals simp [LIM, m_shr, m_shl1, m_int, m_intB, m_list, m_listT, m_listC, m_tupR, m_tupT, m_fld, m_gF, m_store, m_sF, m_addF, m_dF, m_isI, m_iI, m_getL, m_oL, m_isL, m_recv, m_walk, m_stays, m_truR, m_tOl, m_newL, m_alloc, m_len, m_lOl, m_lOd, m_app, m_ext, m_getC, m_ins, m_idx, m_xOl, m_xOd, m_idxT, m_idxC, m_at0, m_storeAt, m_sOd, m_key, m_keyS, m_non, m_nnon, isNon_non, isNon_int, isNon_str, isNon_tup, isNon_ref, m_getX, m_gXe, m_isX, m_iXe, m_at, m_slc, m_slcC, m_slcT, m_slcS, m_cat, m_rep, m_isList, get_set, get_app, ne_len, ne_len0, len_ne, len_ne0, se_2, se_3, se_4, es_2, es_3, es_4, ne_len2, ne_len3, len_ne2, len_ne3, putF, List.lookup, e, PF, intsW, Dis]
  all_goals omega
theorem pinit_no (p : Nat) (rg rm lg : Int) (h : Mem) (g : ¬ goodP rg rm lg) : r_Pair___init__ [.ref p, .int rg, .int rm, .int lg] h = .ex ⟨2, []⟩ h := by
  simp [r_Pair___init__, f_Pair___init__, run, xss, xs, ev, evs, evc, evo, evi, tst, getVar, fnOf, p_add, p_sub, p_mul, p_mod, p_fdiv, p_pow, p_eq, p_ne, p_lt, p_le, p_gt, p_ge, p_isInt, p_isBool, p_min, p_max, p_lenC, p_lenT, p_tru_bl, p_isB, p_asg_nm, p_asg_tp, p_asgM_nm, p_asgM_tp, p_asgs_nil, p_asgs_nm, xhs, raiX, ckp_no _ _ _ _ g, fnOf]

theorem cell_at (ns : List Int) (k : Int) (hk : 0 ≤ k) : ∃ c : Int, ∀ h : Mem, r__law_cell_at [.con (ns.map .int), .int k] h = .ok (.int c) h := by
  by_cases hl : k < ns.length
  · have hk2 : k.toNat < ns.length := by omega
    refine ⟨ns[k.toNat], fun h => ?_⟩
    have ha : atW (ns.map W.int) k = some (.int ns[k.toNat]) := by
      unfold atW ixW L2.ixN
      simp [hk, hl, hk2]
    simp [r__law_cell_at, f__law_cell_at, run, xss, xs, ev, evs, evc, evo, evi, tst, getVar, fnOf, p_add, p_sub, p_mul, p_mod, p_fdiv, p_pow, p_eq, p_ne, p_lt, p_le, p_gt, p_ge, p_isInt, p_isBool, p_min, p_max, p_lenC, p_lenT, p_tru_bl, p_isB, p_asg_nm, p_asg_tp, p_asgM_nm, p_asgM_tp, p_asgs_nil, p_asgs_nm, xhs, raiX, hl, index, ha]
  · refine ⟨0, fun h => ?_⟩
    simp [r__law_cell_at, f__law_cell_at, run, xss, xs, ev, evs, evc, evo, evi, tst, getVar, fnOf, p_add, p_sub, p_mul, p_mod, p_fdiv, p_pow, p_eq, p_ne, p_lt, p_le, p_gt, p_ge, p_isInt, p_isBool, p_min, p_max, p_lenC, p_lenT, p_tru_bl, p_isB, p_asg_nm, p_asg_tp, p_asgM_nm, p_asgM_tp, p_asgs_nil, p_asgs_nm, xhs, raiX, hl]
theorem whole_ok (a : Int) (h : Mem) : r__law_whole [.int a] h = .ok (.bl true) h := by
  simp [r__law_whole, f__law_whole, run, xss, xs, ev, evs, evc, evo, evi, tst, getVar, fnOf, p_add, p_sub, p_mul, p_mod, p_fdiv, p_pow, p_eq, p_ne, p_lt, p_le, p_gt, p_ge, p_isInt, p_isBool, p_min, p_max, p_lenC, p_lenT, p_tru_bl, p_isB, p_asg_nm, p_asg_tp, p_asgM_nm, p_asgM_tp, p_asgs_nil, p_asgs_nm, xhs, raiX]

theorem isrow_ok (c : Int) : ∃ b : Bool, ∀ h : Mem, r__law_is_row [.int c] h = .ok (.bl b) h := by
  refine ⟨decide ((2 : Int) ^ 90 ≤ c) && decide (c % 2 = 1), fun h => ?_⟩
  by_cases q : (2 : Int) ^ 90 ≤ c
  · simp [r__law_is_row, f__law_is_row, run, xss, xs, ev, evs, evc, evo, evi, tst, getVar, fnOf, p_add, p_sub, p_mul, p_mod, p_fdiv, p_pow, p_eq, p_ne, p_lt, p_le, p_gt, p_ge, p_isInt, p_isBool, p_min, p_max, p_lenC, p_lenT, p_tru_bl, p_isB, p_asg_nm, p_asg_tp, p_asgM_nm, p_asgM_tp, p_asgs_nil, p_asgs_nm, xhs, raiX, m_shl1] at q ⊢
    simp [q]
  · simp [r__law_is_row, f__law_is_row, run, xss, xs, ev, evs, evc, evo, evi, tst, getVar, fnOf, p_add, p_sub, p_mul, p_mod, p_fdiv, p_pow, p_eq, p_ne, p_lt, p_le, p_gt, p_ge, p_isInt, p_isBool, p_min, p_max, p_lenC, p_lenT, p_tru_bl, p_isB, p_asg_nm, p_asg_tp, p_asgM_nm, p_asgM_tp, p_asgs_nil, p_asgs_nm, xhs, raiX, m_shl1] at q ⊢
    simp [show ¬ (1237940039285380274899124224 : Int) ≤ c by omega]
theorem mixed_ok (c k : Int) (hk : -18446744073709551616 < k ∧ k < 18446744073709551616) : ∃ z : Int, (0 ≤ z ∧ z < 2147483647) ∧ ∀ h : Mem, r__law_mixed [.int c, .int k] h = .ok (.int z) h := by
  have b0 : 0 ≤ c % 2147483647 + 48271 ∧ c % 2147483647 + 48271 < 2147600000 := by omega
  have key : ∀ (n : Int) (o : Option W) (h : Mem), 0 ≤ n → n < 2147600000 → xss t__law_mixed l__law_mixed_0 [some (.int c), some (.int k), some (.int n), o] h = .nx [some (.int c), some (.int k), some (.int ((n * n + 48271 * n + k) % 2147483647)), o] h := fun n o h n0 n1 => by
    have m1 : mulOk n n = true := mul_l (by omega) (by omega)
    have m2 : mulOk 48271 n = true := mul_l (by omega) (by omega)
    simp [l__law_mixed_0, run, xss, xs, ev, evs, evc, evo, evi, tst, getVar, fnOf, p_add, p_sub, p_mul, p_mod, p_fdiv, p_pow, p_eq, p_ne, p_lt, p_le, p_gt, p_ge, p_isInt, p_isBool, p_min, p_max, p_lenC, p_lenT, p_tru_bl, p_isB, p_asg_nm, p_asg_tp, p_asgM_nm, p_asgM_tp, p_asgs_nil, p_asgs_nm, xhs, raiX, m1, m2]
  generalize hn : c % 2147483647 + 48271 = n at *
  have b1 : 0 ≤ (n * n + 48271 * n + k) % 2147483647 ∧ (n * n + 48271 * n + k) % 2147483647 < 2147600000 := by omega
  refine ⟨(((n * n + 48271 * n + k) % 2147483647) * ((n * n + 48271 * n + k) % 2147483647) + 48271 * ((n * n + 48271 * n + k) % 2147483647) + k) % 2147483647, by omega, fun h => ?_⟩
  generalize hn2 : (n * n + 48271 * n + k) % 2147483647 = n2 at *
  have q := R.wp.get (r := r__law_mixed [.int c, .int k] h) (Q' := fun v h' => v = .int ((n2 * n2 + 48271 * n2 + k) % 2147483647) ∧ h' = h) (by
    simp [r__law_mixed, f__law_mixed, ↓v_var, ↓v_lit, ↓v_glo, ↓v_op, ↓v_neg, v_negI, ↓v_not, ↓v_and, ↓v_or, ↓v_isB, ↓v_ch, ↓v_one, ↓v_more, ↓v_call, ↓v_fld, ↓v_meth, ↓v_make, ↓v_bi, ↓v_bm, ↓v_idx, ↓v_slc, ↓v_lst, ↓v_tup, ↓v_dic0, ↓v_xfl, ↓v_xis, ↓v_nil, ↓v_cons, ↓v_no, ↓v_so, ↓v_oneN, ↓v_oneI, ↓v_of, ↓v_rng1, ↓v_rng2, ↓v_rng3, ↓v_walkT, ↓v_walkC, ↓v_walkS, ↓v_enum, ↓v_zip, ↓v_rev, ↓v_lof, ↓v_tst, ↓v_truB, ↓v_run, ↓s_set, ↓s_setI, ↓s_setF, ↓s_incF, ↓s_ret, ↓s_retN, ↓s_expr, ↓s_pass, ↓s_bad, ↓s_ite, ↓s_for, ↓s_while, ↓s_rai, ↓s_try, ↓s_nil, ↓s_cons, ↓s_hnil, ↓s_hcons, ↓s_setNm, ↓s_setTp, ↓s_memS, w_ok, w_ex, w_bad, w_bind, w_calm, w_st, w_nx, w_rt, w_xe, w_bd, w_then, w_catch, w_gone, w_fn, w_if, w_ifS, -List.append_assoc, getVar, List.getElem?_cons_zero, List.getElem?_cons_succ, List.getElem?_nil, p_add, p_sub, p_mul, p_mod, p_fdiv, p_pow, p_eq, p_ne, p_lt, p_le, p_gt, p_ge, p_isInt, p_isBool, p_min, p_max, p_lenC, p_lenT, p_isB, p_asg_nm, p_asg_tp, p_asgs_nil, p_asgs_nm, raiX, LIM, m_shr, m_shl1, m_int, m_intB, m_list, m_listT, m_listC, m_tupR, m_tupT, m_fld, m_gF, m_store, m_sF, m_addF, m_dF, m_isI, m_iI, m_getL, m_oL, m_isL, m_recv, m_walk, m_stays, m_truR, m_tOl, m_newL, m_alloc, m_len, m_lOl, m_lOd, m_app, m_ext, m_getC, m_ins, m_idx, m_xOl, m_xOd, m_idxT, m_idxC, m_at0, m_storeAt, m_sOd, m_key, m_keyS, m_non, m_nnon, isNon_non, isNon_int, isNon_str, isNon_tup, isNon_ref, m_getX, m_gXe, m_isX, m_iXe, m_at, m_slc, m_slcC, m_slcT, m_slcS, m_cat, m_rep, m_isList, get_set, get_app, ne_len, ne_len0, len_ne, len_ne0, se_2, se_3, se_4, es_2, es_3, es_4, ne_len2, ne_len3, len_ne2, len_ne3, putF, List.lookup, hn]
    rw [v_rngI (by omega) (by omega) (by omega) (by omega)]
    have u2 : upL 0 ((2 : Int) - 0).toNat = [.int 0, .int 1] := rfl
    rw [u2]
    unfold forL
    rw [if_pos (by rfl), p_asg_nm]
    simp only [List.set_cons_succ, List.set_cons_zero, key n _ h b0.1 b0.2, RS.then_nx]
    unfold forL
    rw [if_pos (by rfl), p_asg_nm]
    simp only [List.set_cons_succ, List.set_cons_zero, hn2, key n2 _ h b1.1 b1.2, RS.then_nx]
    unfold forL
    rw [if_pos (by rfl)]
    simp [↓v_var, ↓v_lit, ↓v_glo, ↓v_op, ↓v_neg, v_negI, ↓v_not, ↓v_and, ↓v_or, ↓v_isB, ↓v_ch, ↓v_one, ↓v_more, ↓v_call, ↓v_fld, ↓v_meth, ↓v_make, ↓v_bi, ↓v_bm, ↓v_idx, ↓v_slc, ↓v_lst, ↓v_tup, ↓v_dic0, ↓v_xfl, ↓v_xis, ↓v_nil, ↓v_cons, ↓v_no, ↓v_so, ↓v_oneN, ↓v_oneI, ↓v_of, ↓v_rng1, ↓v_rng2, ↓v_rng3, ↓v_walkT, ↓v_walkC, ↓v_walkS, ↓v_enum, ↓v_zip, ↓v_rev, ↓v_lof, ↓v_tst, ↓v_truB, ↓v_run, ↓s_set, ↓s_setI, ↓s_setF, ↓s_incF, ↓s_ret, ↓s_retN, ↓s_expr, ↓s_pass, ↓s_bad, ↓s_ite, ↓s_for, ↓s_while, ↓s_rai, ↓s_try, ↓s_nil, ↓s_cons, ↓s_hnil, ↓s_hcons, ↓s_setNm, ↓s_setTp, ↓s_memS, w_ok, w_ex, w_bad, w_bind, w_calm, w_st, w_nx, w_rt, w_xe, w_bd, w_then, w_catch, w_gone, w_fn, w_if, w_ifS, -List.append_assoc, getVar, List.getElem?_cons_zero, List.getElem?_cons_succ, List.getElem?_nil, p_add, p_sub, p_mul, p_mod, p_fdiv, p_pow, p_eq, p_ne, p_lt, p_le, p_gt, p_ge, p_isInt, p_isBool, p_min, p_max, p_lenC, p_lenT, p_isB, p_asg_nm, p_asg_tp, p_asgs_nil, p_asgs_nm, raiX])
  obtain ⟨v, h', e, rfl, rfl⟩ := q
  exact e
theorem digit_ok (c k : Int) (hk : 0 ≤ k ∧ k < 1000000) : ∃ z : Int, 0 ≤ z ∧ ∀ h : Mem, r__law_digit [.int c, .int k] h = .ok (.int z) h := by
  by_cases q : 0 < c / 2 ^ (1 + 31 * k).toNat
  · refine ⟨c / 2 ^ (1 + 31 * k).toNat % 2147483648, by omega, fun h => ?_⟩
    have m1 : mulOk 31 k = true := mul_l (by omega) (by omega)
    have s := m_shr (i := c) (j := 1 + 31 * k) (h := h) (by omega)
    generalize c / 2 ^ (1 + 31 * k).toNat = z at *
    simp [r__law_digit, f__law_digit, run, xss, xs, ev, evs, evc, evo, evi, tst, getVar, fnOf, p_add, p_sub, p_mul, p_mod, p_fdiv, p_pow, p_eq, p_ne, p_lt, p_le, p_gt, p_ge, p_isInt, p_isBool, p_min, p_max, p_lenC, p_lenT, p_tru_bl, p_isB, p_asg_nm, p_asg_tp, p_asgM_nm, p_asgM_tp, p_asgs_nil, p_asgs_nm, xhs, raiX, m1, s, q]
  · have b1 : 0 ≤ (c + 7919 * k + 1) * 48271 % 2147483647 ∧ (c + 7919 * k + 1) * 48271 % 2147483647 < 2147483647 := by omega
    generalize hn : (c + 7919 * k + 1) * 48271 % 2147483647 = n at *
    have b2 : 0 ≤ n * (n / 1009 + 69621) % 2147483647 ∧ n * (n / 1009 + 69621) % 2147483647 < 2147483647 := by omega
    generalize hn2 : n * (n / 1009 + 69621) % 2147483647 = n2 at *
    refine ⟨n2 * (n2 / 2003 + 39373 + k) % 2147483629, by omega, fun h => ?_⟩
    have m1 : mulOk 31 k = true := mul_l (by omega) (by omega)
    have m2 : mulOk 7919 k = true := mul_l (by omega) (by omega)
    have m3 : mulOk (c + 7919 * k + 1) 48271 = true := mul_r (by omega) (by omega)
    have m4 : mulOk n (n / 1009 + 69621) = true := mul_l (by omega) (by omega)
    have m5 : mulOk n2 (n2 / 2003 + 39373 + k) = true := mul_l (by omega) (by omega)
    have s := m_shr (i := c) (j := 1 + 31 * k) (h := h) (by omega)
    generalize c / 2 ^ (1 + 31 * k).toNat = z at *
    simp [r__law_digit, f__law_digit, run, xss, xs, ev, evs, evc, evo, evi, tst, getVar, fnOf, p_add, p_sub, p_mul, p_mod, p_fdiv, p_pow, p_eq, p_ne, p_lt, p_le, p_gt, p_ge, p_isInt, p_isBool, p_min, p_max, p_lenC, p_lenT, p_tru_bl, p_isB, p_asg_nm, p_asg_tp, p_asgM_nm, p_asgM_tp, p_asgs_nil, p_asgs_nm, xhs, raiX, m1, m2, m3, s, q, hn, m4, hn2, m5]

/-! ### turns that are drawn -/
def inLag (now lag b : Int) : Prop := b < now ∧ now - b ≤ lag
theorem ge0_ok {cs : Tab} {e c : E} {env : Env} {h : Mem} {a sl s2 : Nat} {L : List Int} {Q : W → Mem → Prop} {E : Ex → Mem → Prop} (he : env[sl]? = some (some (.ref a))) (ha : h[a]? = some (.lst (intsW L))) (l : L.length ≤ LIM) (s2l : s2 < env.length) (ec : c = .op .ge (.var s2) (.lit (.int 0))) (ee : e = .var s2)
    (q : Q (.ref h.length) (h ++ [.lst (intsW (L.filter fun z => decide (0 ≤ z)))])) : (ev cs (.comp (.nm s2) (.of (.var sl)) [s2] (.so c) e) env h).wp (p := ⟨Q, E⟩) := by
  subst ec ee
  refine w_fil (fun w => match w with | .int z => decide (0 ≤ z) | _ => false) id ?_
  simp only [↓v_var, ↓v_lit, ↓v_glo, ↓v_op, ↓v_neg, v_negI, ↓v_not, ↓v_and, ↓v_or, ↓v_isB, ↓v_ch, ↓v_one, ↓v_more, ↓v_call, ↓v_fld, ↓v_meth, ↓v_make, ↓v_bi, ↓v_bm, ↓v_idx, ↓v_slc, ↓v_lst, ↓v_tup, ↓v_dic0, ↓v_xfl, ↓v_xis, ↓v_nil, ↓v_cons, ↓v_no, ↓v_so, ↓v_oneN, ↓v_oneI, ↓v_of, ↓v_rng1, ↓v_rng2, ↓v_rng3, ↓v_walkT, ↓v_walkC, ↓v_walkS, ↓v_enum, ↓v_zip, ↓v_rev, ↓v_lof, ↓v_tst, ↓v_truB, ↓v_run, ↓s_set, ↓s_setI, ↓s_setF, ↓s_incF, ↓s_ret, ↓s_retN, ↓s_expr, ↓s_pass, ↓s_bad, ↓s_ite, ↓s_for, ↓s_while, ↓s_rai, ↓s_try, ↓s_nil, ↓s_cons, ↓s_hnil, ↓s_hcons, ↓s_setNm, ↓s_setTp, ↓s_memS, w_ok, w_ex, w_bad, w_bind, w_calm, w_st, w_nx, w_rt, w_xe, w_bd, w_then, w_catch, w_gone, w_fn, w_if, w_ifS, -List.append_assoc, getVar, List.getElem?_cons_zero, List.getElem?_cons_succ, List.getElem?_nil, p_add, p_sub, p_mul, p_mod, p_fdiv, p_pow, p_eq, p_ne, p_lt, p_le, p_gt, p_ge, p_isInt, p_isBool, p_min, p_max, p_lenC, p_lenT, p_isB, p_asg_nm, p_asg_tp, p_asgs_nil, p_asgs_nm, raiX, he, v_walkR ha]
  refine ⟨by rw [ints_len]; exact l, p_stays ha, ?_, ?_⟩
  · intro x hx
    obtain ⟨z, _, rfl⟩ := List.mem_map.mp hx
    refine ⟨_, p_asg_nm, ?_, fun _ => ?_⟩
    · simp [↓v_var, ↓v_lit, ↓v_glo, ↓v_op, ↓v_neg, v_negI, ↓v_not, ↓v_and, ↓v_or, ↓v_isB, ↓v_ch, ↓v_one, ↓v_more, ↓v_call, ↓v_fld, ↓v_meth, ↓v_make, ↓v_bi, ↓v_bm, ↓v_idx, ↓v_slc, ↓v_lst, ↓v_tup, ↓v_dic0, ↓v_xfl, ↓v_xis, ↓v_nil, ↓v_cons, ↓v_no, ↓v_so, ↓v_oneN, ↓v_oneI, ↓v_of, ↓v_rng1, ↓v_rng2, ↓v_rng3, ↓v_walkT, ↓v_walkC, ↓v_walkS, ↓v_enum, ↓v_zip, ↓v_rev, ↓v_lof, ↓v_tst, ↓v_truB, ↓v_run, ↓s_set, ↓s_setI, ↓s_setF, ↓s_incF, ↓s_ret, ↓s_retN, ↓s_expr, ↓s_pass, ↓s_bad, ↓s_ite, ↓s_for, ↓s_while, ↓s_rai, ↓s_try, ↓s_nil, ↓s_cons, ↓s_hnil, ↓s_hcons, ↓s_setNm, ↓s_setTp, ↓s_memS, w_ok, w_ex, w_bad, w_bind, w_calm, w_st, w_nx, w_rt, w_xe, w_bd, w_then, w_catch, w_gone, w_fn, w_if, w_ifS, -List.append_assoc, getVar, List.getElem?_cons_zero, List.getElem?_cons_succ, List.getElem?_nil, p_add, p_sub, p_mul, p_mod, p_fdiv, p_pow, p_eq, p_ne, p_lt, p_le, p_gt, p_ge, p_isInt, p_isBool, p_min, p_max, p_lenC, p_lenT, p_isB, p_asg_nm, p_asg_tp, p_asgs_nil, p_asgs_nm, raiX, LIM, m_shr, m_shl1, m_int, m_intB, m_list, m_listT, m_listC, m_tupR, m_tupT, m_fld, m_gF, m_store, m_sF, m_addF, m_dF, m_isI, m_iI, m_getL, m_oL, m_isL, m_recv, m_walk, m_stays, m_truR, m_tOl, m_newL, m_alloc, m_len, m_lOl, m_lOd, m_app, m_ext, m_getC, m_ins, m_idx, m_xOl, m_xOd, m_idxT, m_idxC, m_at0, m_storeAt, m_sOd, m_key, m_keyS, m_non, m_nnon, isNon_non, isNon_int, isNon_str, isNon_tup, isNon_ref, m_getX, m_gXe, m_isX, m_iXe, m_at, m_slc, m_slcC, m_slcT, m_slcS, m_cat, m_rep, m_isList, get_set, get_app, ne_len, ne_len0, len_ne, len_ne0, se_2, se_3, se_4, es_2, es_3, es_4, ne_len2, ne_len3, len_ne2, len_ne3, putF, List.lookup, wipe, s2l, truW]
    · simp [↓v_var, ↓v_lit, ↓v_glo, ↓v_op, ↓v_neg, v_negI, ↓v_not, ↓v_and, ↓v_or, ↓v_isB, ↓v_ch, ↓v_one, ↓v_more, ↓v_call, ↓v_fld, ↓v_meth, ↓v_make, ↓v_bi, ↓v_bm, ↓v_idx, ↓v_slc, ↓v_lst, ↓v_tup, ↓v_dic0, ↓v_xfl, ↓v_xis, ↓v_nil, ↓v_cons, ↓v_no, ↓v_so, ↓v_oneN, ↓v_oneI, ↓v_of, ↓v_rng1, ↓v_rng2, ↓v_rng3, ↓v_walkT, ↓v_walkC, ↓v_walkS, ↓v_enum, ↓v_zip, ↓v_rev, ↓v_lof, ↓v_tst, ↓v_truB, ↓v_run, ↓s_set, ↓s_setI, ↓s_setF, ↓s_incF, ↓s_ret, ↓s_retN, ↓s_expr, ↓s_pass, ↓s_bad, ↓s_ite, ↓s_for, ↓s_while, ↓s_rai, ↓s_try, ↓s_nil, ↓s_cons, ↓s_hnil, ↓s_hcons, ↓s_setNm, ↓s_setTp, ↓s_memS, w_ok, w_ex, w_bad, w_bind, w_calm, w_st, w_nx, w_rt, w_xe, w_bd, w_then, w_catch, w_gone, w_fn, w_if, w_ifS, -List.append_assoc, getVar, List.getElem?_cons_zero, List.getElem?_cons_succ, List.getElem?_nil, p_add, p_sub, p_mul, p_mod, p_fdiv, p_pow, p_eq, p_ne, p_lt, p_le, p_gt, p_ge, p_isInt, p_isBool, p_min, p_max, p_lenC, p_lenT, p_isB, p_asg_nm, p_asg_tp, p_asgs_nil, p_asgs_nm, raiX, LIM, m_shr, m_shl1, m_int, m_intB, m_list, m_listT, m_listC, m_tupR, m_tupT, m_fld, m_gF, m_store, m_sF, m_addF, m_dF, m_isI, m_iI, m_getL, m_oL, m_isL, m_recv, m_walk, m_stays, m_truR, m_tOl, m_newL, m_alloc, m_len, m_lOl, m_lOd, m_app, m_ext, m_getC, m_ins, m_idx, m_xOl, m_xOd, m_idxT, m_idxC, m_at0, m_storeAt, m_sOd, m_key, m_keyS, m_non, m_nnon, isNon_non, isNon_int, isNon_str, isNon_tup, isNon_ref, m_getX, m_gXe, m_isX, m_iXe, m_at, m_slc, m_slcC, m_slcT, m_slcS, m_cat, m_rep, m_isList, get_set, get_app, ne_len, ne_len0, len_ne, len_ne0, se_2, se_3, se_4, es_2, es_3, es_4, ne_len2, ne_len3, len_ne2, len_ne3, putF, List.lookup, wipe, s2l]
  · have : (intsW L).filter (fun w => match w with | .int z => decide (0 ≤ z) | _ => false) = intsW (L.filter fun z => decide (0 ≤ z)) := by
      unfold intsW
      rw [List.filter_map]
      rfl
    rw [this, List.map_id]
    exact q
theorem births_tail (n now lag : Int) (a : Nat) (L : List Int) (h h0 : Mem) (o : Option W) (ha : h[a]? = some (.lst (intsW L))) (hL : ∀ b ∈ L, inLag now lag b) (l : L.length ≤ 3) (k : Kp [] h0 h) :
    (xss t__law_births b__law_births_4 [some (.int n), some (.int now), some (.int lag), some (.ref a), o] h).wp (p := ⟨(fun _ _ => False), (fun v h' => ∃ q L, v = .ref q ∧ h0.length ≤ q ∧ h'[q]? = some (.lst (intsW L)) ∧ (∀ b ∈ L, 0 ≤ b ∧ inLag now lag b) ∧ L.length ≤ 3 ∧ Kp [] h0 h'), (fun _ _ _ => False)⟩) := by
  have fin : ∀ (a : Nat) (L : List Int) (h : Mem), h[a]? = some (.lst (intsW L)) → (∀ b ∈ L, inLag now lag b) → L.length ≤ 3 → Kp [] h0 h → ∀ Q : W → Mem → Prop, (∀ v h', (∃ q L, v = .ref q ∧ h0.length ≤ q ∧ h'[q]? = some (.lst (intsW L)) ∧ (∀ b ∈ L, 0 ≤ b ∧ inLag now lag b) ∧ L.length ≤ 3 ∧ Kp [] h0 h') → Q v h') → (ev t__law_births k__law_births_2 [some (.int n), some (.int now), some (.int lag), some (.ref a), o] h).wp (p := ⟨Q, (fun _ _ => False)⟩) := by
    intro a L h ha hL l k Q hQ
    refine ge0_ok (L := L) rfl ha (by unfold LIM; omega) (by simp) rfl rfl ?_
    refine hQ _ _ ⟨_, _, rfl, k.len, at_new, fun b hb => ?_, ?_, keeps_app k⟩
    · obtain ⟨q1, q2⟩ := List.mem_filter.mp hb
      exact ⟨of_decide_eq_true q2, hL b q1⟩
    · have := List.length_filter_le (fun z => decide ((0 : Int) ≤ z)) L
      omega
  simp [b__law_births_4, ↓v_var, ↓v_lit, ↓v_glo, ↓v_op, ↓v_neg, v_negI, ↓v_not, ↓v_and, ↓v_or, ↓v_isB, ↓v_ch, ↓v_one, ↓v_more, ↓v_call, ↓v_fld, ↓v_meth, ↓v_make, ↓v_bi, ↓v_bm, ↓v_idx, ↓v_slc, ↓v_lst, ↓v_tup, ↓v_dic0, ↓v_xfl, ↓v_xis, ↓v_nil, ↓v_cons, ↓v_no, ↓v_so, ↓v_oneN, ↓v_oneI, ↓v_of, ↓v_rng1, ↓v_rng2, ↓v_rng3, ↓v_walkT, ↓v_walkC, ↓v_walkS, ↓v_enum, ↓v_zip, ↓v_rev, ↓v_lof, ↓v_tst, ↓v_truB, ↓v_run, ↓s_set, ↓s_setI, ↓s_setF, ↓s_incF, ↓s_ret, ↓s_retN, ↓s_expr, ↓s_pass, ↓s_bad, ↓s_ite, ↓s_for, ↓s_while, ↓s_rai, ↓s_try, ↓s_nil, ↓s_cons, ↓s_hnil, ↓s_hcons, ↓s_setNm, ↓s_setTp, ↓s_memS, w_ok, w_ex, w_bad, w_bind, w_calm, w_st, w_nx, w_rt, w_xe, w_bd, w_then, w_catch, w_gone, w_fn, w_if, w_ifS, -List.append_assoc, getVar, List.getElem?_cons_zero, List.getElem?_cons_succ, List.getElem?_nil, p_add, p_sub, p_mul, p_mod, p_fdiv, p_pow, p_eq, p_ne, p_lt, p_le, p_gt, p_ge, p_isInt, p_isBool, p_min, p_max, p_lenC, p_lenT, p_isB, p_asg_nm, p_asg_tp, p_asgs_nil, p_asgs_nm, raiX, LIM, m_shr, m_shl1, m_int, m_intB, m_list, m_listT, m_listC, m_tupR, m_tupT, m_fld, m_gF, m_store, m_sF, m_addF, m_dF, m_isI, m_iI, m_getL, m_oL, m_isL, m_recv, m_walk, m_stays, m_truR, m_tOl, m_newL, m_alloc, m_len, m_lOl, m_lOd, m_app, m_ext, m_getC, m_ins, m_idx, m_xOl, m_xOd, m_idxT, m_idxC, m_at0, m_storeAt, m_sOd, m_key, m_keyS, m_non, m_nnon, isNon_non, isNon_int, isNon_str, isNon_tup, isNon_ref, m_getX, m_gXe, m_isX, m_iXe, m_at, m_slc, m_slcC, m_slcT, m_slcS, m_cat, m_rep, m_isList, get_set, get_app, ne_len, ne_len0, len_ne, len_ne0, se_2, se_3, se_4, es_2, es_3, es_4, ne_len2, ne_len3, len_ne2, len_ne3, putF, List.lookup, ha]
  refine ⟨fun c => ?_, fun c => ?_⟩
  · refine fin _ L.reverse _ (by simp [get_app, intsW]) (fun b hb => hL b (List.mem_reverse.mp hb)) (by simpa using l) (keeps_app k) _ fun v h' z => z
  · exact fin a L h ha hL l k _ fun v h' z => z
theorem births_ok (n now lag : Int) (h : Mem) (l1 : 1 ≤ lag) : (r__law_births [.int n, .int now, .int lag] h).wp (p := ⟨(fun v h' => ∃ q L, v = .ref q ∧ h.length ≤ q ∧ h'[q]? = some (.lst (intsW L)) ∧ (∀ b ∈ L, 0 ≤ b ∧ inLag now lag b) ∧ L.length ≤ 3 ∧ Kp [] h h'), none_⟩) := by
  have lp : 0 < lag := by omega
  have i1 : inLag now lag (now - 1) := ⟨by omega, by omega⟩
  have i2 : inLag now lag (now - lag) := ⟨by omega, by omega⟩
  have i3 : inLag now lag (now - 1 - n / 64 % lag) := by
    have := Int.emod_nonneg (n / 64) (b := lag) (by omega)
    have := Int.emod_lt_of_pos (n / 64) lp
    exact ⟨by omega, by omega⟩
  simp [r__law_births, f__law_births, ↓v_var, ↓v_lit, ↓v_glo, ↓v_op, ↓v_neg, v_negI, ↓v_not, ↓v_and, ↓v_or, ↓v_isB, ↓v_ch, ↓v_one, ↓v_more, ↓v_call, ↓v_fld, ↓v_meth, ↓v_make, ↓v_bi, ↓v_bm, ↓v_idx, ↓v_slc, ↓v_lst, ↓v_tup, ↓v_dic0, ↓v_xfl, ↓v_xis, ↓v_nil, ↓v_cons, ↓v_no, ↓v_so, ↓v_oneN, ↓v_oneI, ↓v_of, ↓v_rng1, ↓v_rng2, ↓v_rng3, ↓v_walkT, ↓v_walkC, ↓v_walkS, ↓v_enum, ↓v_zip, ↓v_rev, ↓v_lof, ↓v_tst, ↓v_truB, ↓v_run, ↓s_set, ↓s_setI, ↓s_setF, ↓s_incF, ↓s_ret, ↓s_retN, ↓s_expr, ↓s_pass, ↓s_bad, ↓s_ite, ↓s_for, ↓s_while, ↓s_rai, ↓s_try, ↓s_nil, ↓s_cons, ↓s_hnil, ↓s_hcons, ↓s_setNm, ↓s_setTp, ↓s_memS, w_ok, w_ex, w_bad, w_bind, w_calm, w_st, w_nx, w_rt, w_xe, w_bd, w_then, w_catch, w_gone, w_fn, w_if, w_ifS, -List.append_assoc, getVar, List.getElem?_cons_zero, List.getElem?_cons_succ, List.getElem?_nil, p_add, p_sub, p_mul, p_mod, p_fdiv, p_pow, p_eq, p_ne, p_lt, p_le, p_gt, p_ge, p_isInt, p_isBool, p_min, p_max, p_lenC, p_lenT, p_isB, p_asg_nm, p_asg_tp, p_asgs_nil, p_asgs_nm, raiX, LIM, m_shr, m_shl1, m_int, m_intB, m_list, m_listT, m_listC, m_tupR, m_tupT, m_fld, m_gF, m_store, m_sF, m_addF, m_dF, m_isI, m_iI, m_getL, m_oL, m_isL, m_recv, m_walk, m_stays, m_truR, m_tOl, m_newL, m_alloc, m_len, m_lOl, m_lOd, m_app, m_ext, m_getC, m_ins, m_idx, m_xOl, m_xOd, m_idxT, m_idxC, m_at0, m_storeAt, m_sOd, m_key, m_keyS, m_non, m_nnon, isNon_non, isNon_int, isNon_str, isNon_tup, isNon_ref, m_getX, m_gXe, m_isX, m_iXe, m_at, m_slc, m_slcC, m_slcT, m_slcS, m_cat, m_rep, m_isList, get_set, get_app, ne_len, ne_len0, len_ne, len_ne0, se_2, se_3, se_4, es_2, es_3, es_4, ne_len2, ne_len3, len_ne2, len_ne3, putF, List.lookup, lp]
  generalize n / 64 % lag = x at *
  have fin2 := fun (L : List Int) (hL : ∀ b ∈ L, inLag now lag b) (l : L.length ≤ 3) => births_tail n now lag h.length L (h ++ [.lst (intsW L)]) h none at_new hL l (keeps_app Kp.rfl)
  refine ⟨fun c1 => ⟨fun c2 => ⟨fun c3 => ?_, fun c3 => ?_⟩, fun c2 => ⟨fun c3 => ?_, fun c3 => ?_⟩⟩, fun c1 => ⟨fun c2 => ⟨fun c3 => ?_, fun c3 => ?_⟩, fun c2 => ⟨fun c3 => ?_, fun c3 => ?_⟩⟩⟩
  · exact (fin2 [now - lag, now - 1 - x] (by simp [i2, i3]) (by simp)).rt fun _ _ z => z
  · exact (fin2 [now - lag] (by simp [i2]) (by simp)).rt fun _ _ z => z
  · exact (fin2 [now - 1 - x] (by simp [i3]) (by simp)).rt fun _ _ z => z
  · exact (fin2 [] (by simp) (by simp)).rt fun _ _ z => z
  · exact (fin2 [now - 1, now - lag, now - 1 - x] (by simp [i1, i2, i3]) (by simp)).rt fun _ _ z => z
  · exact (fin2 [now - 1, now - lag] (by simp [i1, i2]) (by simp)).rt fun _ _ z => z
  · exact (fin2 [now - 1, now - 1 - x] (by simp [i1, i3]) (by simp)).rt fun _ _ z => z
  · exact (fin2 [now - 1] (by simp [i1]) (by simp)).rt fun _ _ z => z
theorem picked_ok (c k now lag : Int) (h : Mem) (l1 : 1 ≤ lag) (hk : 0 ≤ k ∧ k < 1000) : (r__law_picked [.int c, .int k, .int now, .int lag] h).wp (p := ⟨(fun v h' => ∃ q L, v = .ref q ∧ h.length ≤ q ∧ h'[q]? = some (.lst (intsW L)) ∧ (∀ b ∈ L, 0 ≤ b ∧ inLag now lag b) ∧ L.length ≤ 9 ∧ Kp [] h h'), none_⟩) := by
  have lp : 0 < lag := by omega
  have dg : ∃ f : Int → Int, ∀ j : Int, 0 ≤ j → j < 1000000 → 0 ≤ f j ∧ ∀ h : Mem, r__law_digit [.int c, .int j] h = .ok (.int (f j)) h := by
    refine ⟨fun j => if q : 0 ≤ j ∧ j < 1000000 then (digit_ok c j q).choose else 0, fun j j0 j1 => ?_⟩
    dsimp only
    rw [dif_pos (show 0 ≤ j ∧ j < 1000000 from ⟨j0, j1⟩)]
    exact (digit_ok c j ⟨j0, j1⟩).choose_spec
  obtain ⟨f, hf⟩ := dg
  obtain ⟨d0, d1⟩ := hf k hk.1 (by omega)
  simp [r__law_picked, f__law_picked, ↓v_var, ↓v_lit, ↓v_glo, ↓v_op, ↓v_neg, v_negI, ↓v_not, ↓v_and, ↓v_or, ↓v_isB, ↓v_ch, ↓v_one, ↓v_more, ↓v_call, ↓v_fld, ↓v_meth, ↓v_make, ↓v_bi, ↓v_bm, ↓v_idx, ↓v_slc, ↓v_lst, ↓v_tup, ↓v_dic0, ↓v_xfl, ↓v_xis, ↓v_nil, ↓v_cons, ↓v_no, ↓v_so, ↓v_oneN, ↓v_oneI, ↓v_of, ↓v_rng1, ↓v_rng2, ↓v_rng3, ↓v_walkT, ↓v_walkC, ↓v_walkS, ↓v_enum, ↓v_zip, ↓v_rev, ↓v_lof, ↓v_tst, ↓v_truB, ↓v_run, ↓s_set, ↓s_setI, ↓s_setF, ↓s_incF, ↓s_ret, ↓s_retN, ↓s_expr, ↓s_pass, ↓s_bad, ↓s_ite, ↓s_for, ↓s_while, ↓s_rai, ↓s_try, ↓s_nil, ↓s_cons, ↓s_hnil, ↓s_hcons, ↓s_setNm, ↓s_setTp, ↓s_memS, w_ok, w_ex, w_bad, w_bind, w_calm, w_st, w_nx, w_rt, w_xe, w_bd, w_then, w_catch, w_gone, w_fn, w_if, w_ifS, -List.append_assoc, getVar, List.getElem?_cons_zero, List.getElem?_cons_succ, List.getElem?_nil, p_add, p_sub, p_mul, p_mod, p_fdiv, p_pow, p_eq, p_ne, p_lt, p_le, p_gt, p_ge, p_isInt, p_isBool, p_min, p_max, p_lenC, p_lenT, p_isB, p_asg_nm, p_asg_tp, p_asgs_nil, p_asgs_nm, raiX, LIM, m_shr, m_shl1, m_int, m_intB, m_list, m_listT, m_listC, m_tupR, m_tupT, m_fld, m_gF, m_store, m_sF, m_addF, m_dF, m_isI, m_iI, m_getL, m_oL, m_isL, m_recv, m_walk, m_stays, m_truR, m_tOl, m_newL, m_alloc, m_len, m_lOl, m_lOd, m_app, m_ext, m_getC, m_ins, m_idx, m_xOl, m_xOd, m_idxT, m_idxC, m_at0, m_storeAt, m_sOd, m_key, m_keyS, m_non, m_nnon, isNon_non, isNon_int, isNon_str, isNon_tup, isNon_ref, m_getX, m_gXe, m_isX, m_iXe, m_at, m_slc, m_slcC, m_slcT, m_slcS, m_cat, m_rep, m_isList, get_set, get_app, ne_len, ne_len0, len_ne, len_ne0, se_2, se_3, se_4, es_2, es_3, es_4, ne_len2, ne_len3, len_ne2, len_ne3, putF, List.lookup, lp]
  let g : W → W := fun w => match w with | .int j => .int (now - 1 - f (k + 1 + j) % lag) | _ => .non
  refine w_map g ?_
  simp [↓v_var, ↓v_lit, ↓v_glo, ↓v_op, ↓v_neg, v_negI, ↓v_not, ↓v_and, ↓v_or, ↓v_isB, ↓v_ch, ↓v_one, ↓v_more, ↓v_call, ↓v_fld, ↓v_meth, ↓v_make, ↓v_bi, ↓v_bm, ↓v_idx, ↓v_slc, ↓v_lst, ↓v_tup, ↓v_dic0, ↓v_xfl, ↓v_xis, ↓v_nil, ↓v_cons, ↓v_no, ↓v_so, ↓v_oneN, ↓v_oneI, ↓v_of, ↓v_rng1, ↓v_rng2, ↓v_rng3, ↓v_walkT, ↓v_walkC, ↓v_walkS, ↓v_enum, ↓v_zip, ↓v_rev, ↓v_lof, ↓v_tst, ↓v_truB, ↓v_run, ↓s_set, ↓s_setI, ↓s_setF, ↓s_incF, ↓s_ret, ↓s_retN, ↓s_expr, ↓s_pass, ↓s_bad, ↓s_ite, ↓s_for, ↓s_while, ↓s_rai, ↓s_try, ↓s_nil, ↓s_cons, ↓s_hnil, ↓s_hcons, ↓s_setNm, ↓s_setTp, ↓s_memS, w_ok, w_ex, w_bad, w_bind, w_calm, w_st, w_nx, w_rt, w_xe, w_bd, w_then, w_catch, w_gone, w_fn, w_if, w_ifS, -List.append_assoc, getVar, List.getElem?_cons_zero, List.getElem?_cons_succ, List.getElem?_nil, p_add, p_sub, p_mul, p_mod, p_fdiv, p_pow, p_eq, p_ne, p_lt, p_le, p_gt, p_ge, p_isInt, p_isBool, p_min, p_max, p_lenC, p_lenT, p_isB, p_asg_nm, p_asg_tp, p_asgs_nil, p_asgs_nm, raiX, LIM, m_shr, m_shl1, m_int, m_intB, m_list, m_listT, m_listC, m_tupR, m_tupT, m_fld, m_gF, m_store, m_sF, m_addF, m_dF, m_isI, m_iI, m_getL, m_oL, m_isL, m_recv, m_walk, m_stays, m_truR, m_tOl, m_newL, m_alloc, m_len, m_lOl, m_lOd, m_app, m_ext, m_getC, m_ins, m_idx, m_xOl, m_xOd, m_idxT, m_idxC, m_at0, m_storeAt, m_sOd, m_key, m_keyS, m_non, m_nnon, isNon_non, isNon_int, isNon_str, isNon_tup, isNon_ref, m_getX, m_gXe, m_isX, m_iXe, m_at, m_slc, m_slcC, m_slcT, m_slcS, m_cat, m_rep, m_isList, get_set, get_app, ne_len, ne_len0, len_ne, len_ne0, se_2, se_3, se_4, es_2, es_3, es_4, ne_len2, ne_len3, len_ne2, len_ne3, putF, List.lookup, d1]
  have dm : 0 ≤ f k % 9 ∧ f k % 9 < 9 := by omega
  generalize f k % 9 = n at *
  rw [v_rngI (by omega) (by omega) (by omega) (by omega)]
  refine ⟨by rw [up_len]; unfold LIM; omega, none_stays, fun x hx => ?_, ?_⟩
  · obtain ⟨i, hi⟩ := List.getElem?_of_mem hx
    obtain ⟨li, rfl⟩ := up_get hi
    obtain ⟨_, d2⟩ := hf (k + 1 + (0 + (i : Int))) (by omega) (by omega)
    refine ⟨_, p_asg_nm, ?_⟩
    generalize (0 + (i : Int)) = j at *
    simp [c__law_picked_3, ↓v_var, ↓v_lit, ↓v_glo, ↓v_op, ↓v_neg, v_negI, ↓v_not, ↓v_and, ↓v_or, ↓v_isB, ↓v_ch, ↓v_one, ↓v_more, ↓v_call, ↓v_fld, ↓v_meth, ↓v_make, ↓v_bi, ↓v_bm, ↓v_idx, ↓v_slc, ↓v_lst, ↓v_tup, ↓v_dic0, ↓v_xfl, ↓v_xis, ↓v_nil, ↓v_cons, ↓v_no, ↓v_so, ↓v_oneN, ↓v_oneI, ↓v_of, ↓v_rng1, ↓v_rng2, ↓v_rng3, ↓v_walkT, ↓v_walkC, ↓v_walkS, ↓v_enum, ↓v_zip, ↓v_rev, ↓v_lof, ↓v_tst, ↓v_truB, ↓v_run, ↓s_set, ↓s_setI, ↓s_setF, ↓s_incF, ↓s_ret, ↓s_retN, ↓s_expr, ↓s_pass, ↓s_bad, ↓s_ite, ↓s_for, ↓s_while, ↓s_rai, ↓s_try, ↓s_nil, ↓s_cons, ↓s_hnil, ↓s_hcons, ↓s_setNm, ↓s_setTp, ↓s_memS, w_ok, w_ex, w_bad, w_bind, w_calm, w_st, w_nx, w_rt, w_xe, w_bd, w_then, w_catch, w_gone, w_fn, w_if, w_ifS, -List.append_assoc, getVar, List.getElem?_cons_zero, List.getElem?_cons_succ, List.getElem?_nil, p_add, p_sub, p_mul, p_mod, p_fdiv, p_pow, p_eq, p_ne, p_lt, p_le, p_gt, p_ge, p_isInt, p_isBool, p_min, p_max, p_lenC, p_lenT, p_isB, p_asg_nm, p_asg_tp, p_asgs_nil, p_asgs_nm, raiX, LIM, m_shr, m_shl1, m_int, m_intB, m_list, m_listT, m_listC, m_tupR, m_tupT, m_fld, m_gF, m_store, m_sF, m_addF, m_dF, m_isI, m_iI, m_getL, m_oL, m_isL, m_recv, m_walk, m_stays, m_truR, m_tOl, m_newL, m_alloc, m_len, m_lOl, m_lOd, m_app, m_ext, m_getC, m_ins, m_idx, m_xOl, m_xOd, m_idxT, m_idxC, m_at0, m_storeAt, m_sOd, m_key, m_keyS, m_non, m_nnon, isNon_non, isNon_int, isNon_str, isNon_tup, isNon_ref, m_getX, m_gXe, m_isX, m_iXe, m_at, m_slc, m_slcC, m_slcT, m_slcS, m_cat, m_rep, m_isList, get_set, get_app, ne_len, ne_len0, len_ne, len_ne0, se_2, se_3, se_4, es_2, es_3, es_4, ne_len2, ne_len3, len_ne2, len_ne3, putF, List.lookup, wipe, d2, lp, g]
  · have e : ((upL 0 (n - 0).toNat).map g) = intsW ((List.range (n - 0).toNat).map fun i => now - 1 - f (k + 1 + (0 + ((i : Nat) : Int))) % lag) := by
      unfold upL intsW
      rw [List.map_map, List.map_map]
      rfl
    rw [e]
    simp only [↓v_var, ↓v_lit, ↓v_glo, ↓v_op, ↓v_neg, v_negI, ↓v_not, ↓v_and, ↓v_or, ↓v_isB, ↓v_ch, ↓v_one, ↓v_more, ↓v_call, ↓v_fld, ↓v_meth, ↓v_make, ↓v_bi, ↓v_bm, ↓v_idx, ↓v_slc, ↓v_lst, ↓v_tup, ↓v_dic0, ↓v_xfl, ↓v_xis, ↓v_nil, ↓v_cons, ↓v_no, ↓v_so, ↓v_oneN, ↓v_oneI, ↓v_of, ↓v_rng1, ↓v_rng2, ↓v_rng3, ↓v_walkT, ↓v_walkC, ↓v_walkS, ↓v_enum, ↓v_zip, ↓v_rev, ↓v_lof, ↓v_tst, ↓v_truB, ↓v_run, ↓s_set, ↓s_setI, ↓s_setF, ↓s_incF, ↓s_ret, ↓s_retN, ↓s_expr, ↓s_pass, ↓s_bad, ↓s_ite, ↓s_for, ↓s_while, ↓s_rai, ↓s_try, ↓s_nil, ↓s_cons, ↓s_hnil, ↓s_hcons, ↓s_setNm, ↓s_setTp, ↓s_memS, w_ok, w_ex, w_bad, w_bind, w_calm, w_st, w_nx, w_rt, w_xe, w_bd, w_then, w_catch, w_gone, w_fn, w_if, w_ifS, -List.append_assoc, getVar, List.getElem?_cons_zero, List.getElem?_cons_succ, List.getElem?_nil, p_add, p_sub, p_mul, p_mod, p_fdiv, p_pow, p_eq, p_ne, p_lt, p_le, p_gt, p_ge, p_isInt, p_isBool, p_min, p_max, p_lenC, p_lenT, p_isB, p_asg_nm, p_asg_tp, p_asgs_nil, p_asgs_nm, raiX]
    refine ge0_ok (L := (List.range (n - 0).toNat).map fun i => now - 1 - f (k + 1 + (0 + ((i : Nat) : Int))) % lag) rfl at_new (by rw [List.length_map, List.length_range]; unfold LIM; omega) (by simp) rfl rfl ?_
    refine ⟨_, _, rfl, by simp, at_new, fun b hb => ?_, ?_, by repeat' first | exact Kp.rfl | assumption | refine keeps_app ?_ | refine keeps_set ?_ (by simp [*])⟩
    · obtain ⟨q1, q2⟩ := List.mem_filter.mp hb
      obtain ⟨i, _, rfl⟩ := List.mem_map.mp q1
      have := Int.emod_nonneg (f (k + 1 + (0 + ((i : Nat) : Int)))) (b := lag) (by omega)
      have := Int.emod_lt_of_pos (f (k + 1 + (0 + ((i : Nat) : Int)))) lp
      have q2 := of_decide_eq_true q2
      unfold inLag
      omega
    · refine Nat.le_trans (List.length_filter_le _ _) ?_
      rw [List.length_map, List.length_range]
      omega
def Lags (now lag : Int) (L : List Int) : Prop := (∀ b ∈ L, 0 ≤ b ∧ inLag now lag b) ∧ L.length ≤ 200
structure DrawnP (now lag : Int) (h : Mem) (v : W) (h' : Mem) : Prop where
  ex : ∃ q r L M, v = .tup [.ref q, .ref r] ∧ h.length ≤ q ∧ h.length ≤ r ∧ h'[q]? = some (.lst (intsW L)) ∧ h'[r]? = some (.lst (intsW M)) ∧ Lags now lag L ∧ Lags now lag M ∧ Kp [] h h'
theorem cut_sub {α : Type} {L : List α} {lo hi : Option Int} {x : α} (m : x ∈ cutW L lo hi) : x ∈ L := List.mem_of_mem_drop (List.mem_of_mem_take m)
theorem cut_to {α : Type} (xs : List α) (k : Nat) : cutW xs none (some (k : Int)) = xs.take k := by
  unfold cutW
  rw [HT.sIx_none, HT.sIx_nat, List.drop_zero, Nat.sub_zero]
  by_cases c : k ≤ xs.length
  · rw [Nat.min_eq_left c]
  · rw [Nat.min_eq_right (by omega), List.take_length, List.take_of_length_le (by omega)]

/-! ### what two laws of the pair have in common -/
theorem size_ok (c s l : Int) (h : Mem) (s0 : 0 < s ∧ s ≤ 60) (l0 : 0 < l ∧ l ≤ 60) : ∃ z : Int, (1 ≤ z ∧ z ≤ 60) ∧ ∀ h : Mem, r__law_size [.int c, .int s, .int l] h = .ok (.int z) h := by
  have a1 := Int.emod_nonneg c (b := s) (by omega)
  have a2 := Int.emod_lt_of_pos c s0.1
  have a3 := Int.emod_nonneg c (b := l) (by omega)
  have a4 := Int.emod_lt_of_pos c l0.1
  by_cases q : c / 64 % 4 = 1
  · exact ⟨1 + c % l, by omega, fun h => by simp [r__law_size, f__law_size, run, xss, xs, ev, evs, evc, evo, evi, tst, getVar, fnOf, p_add, p_sub, p_mul, p_mod, p_fdiv, p_pow, p_eq, p_ne, p_lt, p_le, p_gt, p_ge, p_isInt, p_isBool, p_min, p_max, p_lenC, p_lenT, p_tru_bl, p_isB, p_asg_nm, p_asg_tp, p_asgM_nm, p_asgM_tp, p_asgs_nil, p_asgs_nm, xhs, raiX, q, l0.1]⟩
  · exact ⟨1 + c % s, by omega, fun h => by simp [r__law_size, f__law_size, run, xss, xs, ev, evs, evc, evo, evi, tst, getVar, fnOf, p_add, p_sub, p_mul, p_mod, p_fdiv, p_pow, p_eq, p_ne, p_lt, p_le, p_gt, p_ge, p_isInt, p_isBool, p_min, p_max, p_lenC, p_lenT, p_tru_bl, p_isB, p_asg_nm, p_asg_tp, p_asgM_nm, p_asgM_tp, p_asgs_nil, p_asgs_nm, xhs, raiX, q, s0.1]⟩
theorem adv_congr {k1 k2 : List (W × W)} (e : ∀ j, hasI k1 j = hasI k2 j) (g : Int) : adv k1 g = adv k2 g :=
  adv_eq adv_le (fun j a b => by rw [e]; exact adv_has a b) (by rw [e]; exact adv_end)
theorem stands_ok {h : Mem} {p fd sd tl : Nat} {s : PS} (x : PAt h p fd sd tl s) : r__law_stands [.ref p, .int s.base, .int s.top, .int s.got] h = .ok (.bl true) h := by
  have q := R.wp.get (r := r__law_stands [.ref p, .int s.base, .int s.top, .int s.got] h) (Q' := fun v h' => v = .bl true ∧ h' = h) (by
    simp [r__law_stands, f__law_stands, ↓v_var, ↓v_lit, ↓v_glo, ↓v_op, ↓v_neg, v_negI, ↓v_not, ↓v_and, ↓v_or, ↓v_isB, ↓v_ch, ↓v_one, ↓v_more, ↓v_call, ↓v_fld, ↓v_meth, ↓v_make, ↓v_bi, ↓v_bm, ↓v_idx, ↓v_slc, ↓v_lst, ↓v_tup, ↓v_dic0, ↓v_xfl, ↓v_xis, ↓v_nil, ↓v_cons, ↓v_no, ↓v_so, ↓v_oneN, ↓v_oneI, ↓v_of, ↓v_rng1, ↓v_rng2, ↓v_rng3, ↓v_walkT, ↓v_walkC, ↓v_walkS, ↓v_enum, ↓v_zip, ↓v_rev, ↓v_lof, ↓v_tst, ↓v_truB, ↓v_run, ↓s_set, ↓s_setI, ↓s_setF, ↓s_incF, ↓s_ret, ↓s_retN, ↓s_expr, ↓s_pass, ↓s_bad, ↓s_ite, ↓s_for, ↓s_while, ↓s_rai, ↓s_try, ↓s_nil, ↓s_cons, ↓s_hnil, ↓s_hcons, ↓s_setNm, ↓s_setTp, ↓s_memS, w_ok, w_ex, w_bad, w_bind, w_calm, w_st, w_nx, w_rt, w_xe, w_bd, w_then, w_catch, w_gone, w_fn, w_if, w_ifS, -List.append_assoc, getVar, List.getElem?_cons_zero, List.getElem?_cons_succ, List.getElem?_nil, p_add, p_sub, p_mul, p_mod, p_fdiv, p_pow, p_eq, p_ne, p_lt, p_le, p_gt, p_ge, p_isInt, p_isBool, p_min, p_max, p_lenC, p_lenT, p_isB, p_asg_nm, p_asg_tp, p_asgs_nil, p_asgs_nm, raiX, LIM, m_shr, m_shl1, m_int, m_intB, m_list, m_listT, m_listC, m_tupR, m_tupT, m_fld, m_gF, m_store, m_sF, m_addF, m_dF, m_isI, m_iI, m_getL, m_oL, m_isL, m_recv, m_walk, m_stays, m_truR, m_tOl, m_newL, m_alloc, m_len, m_lOl, m_lOd, m_app, m_ext, m_getC, m_ins, m_idx, m_xOl, m_xOd, m_idxT, m_idxC, m_at0, m_storeAt, m_sOd, m_key, m_keyS, m_non, m_nnon, isNon_non, isNon_int, isNon_str, isNon_tup, isNon_ref, m_getX, m_gXe, m_isX, m_iXe, m_at, m_slc, m_slcC, m_slcT, m_slcS, m_cat, m_rep, m_isList, get_set, get_app, ne_len, ne_len0, len_ne, len_ne0, se_2, se_3, se_4, es_2, es_3, es_4, ne_len2, ne_len3, len_ne2, len_ne3, putF, List.lookup, x.f, PF, whole_ok])
  obtain ⟨v, h', e, rfl, rfl⟩ := q
  exact e
/-- none, or an int -/
def NI (ws : List W) : Prop := ∀ w ∈ ws, w = .non ∨ ∃ z : Int, w = .int z
def datN : W → PyData
  | .int z => .int z
  | _ => .none
theorem rd_ni {h : Mem} {a : Nat} {ws : List W} (e : h[a]? = some (.lst ws)) (n : NI ws) : Rd h (.ref a) (.list (ws.map datN)) := by
  refine rd_lst e (mapM_some fun w hw => ?_)
  rcases n w hw with rfl | ⟨z, rfl⟩ <;> rfl
theorem noDic_ni : ∀ ws : List W, noDic (.list (ws.map datN)) = true
  | [] => rfl
  | w :: r => by
    have := noDic_ni r
    simp [noDic, noDics] at this ⊢
    refine ⟨?_, this⟩
    unfold datN
    split <;> rfl
theorem alike_ok {h : Mem} {a b : Nat} {ws : List W} (ea : h[a]? = some (.lst ws)) (eb : h[b]? = some (.lst ws)) (n : NI ws) : r__law_alike [.ref a, .ref b] h = .ok (.bl true) h := by
  have q := R.wp.get (r := r__law_alike [.ref a, .ref b] h) (Q' := fun v h' => v = .bl true ∧ h' = h) (by
    simp [r__law_alike, f__law_alike, ↓v_var, ↓v_lit, ↓v_glo, ↓v_op, ↓v_neg, v_negI, ↓v_not, ↓v_and, ↓v_or, ↓v_isB, ↓v_ch, ↓v_one, ↓v_more, ↓v_call, ↓v_fld, ↓v_meth, ↓v_make, ↓v_bi, ↓v_bm, ↓v_idx, ↓v_slc, ↓v_lst, ↓v_tup, ↓v_dic0, ↓v_xfl, ↓v_xis, ↓v_nil, ↓v_cons, ↓v_no, ↓v_so, ↓v_oneN, ↓v_oneI, ↓v_of, ↓v_rng1, ↓v_rng2, ↓v_rng3, ↓v_walkT, ↓v_walkC, ↓v_walkS, ↓v_enum, ↓v_zip, ↓v_rev, ↓v_lof, ↓v_tst, ↓v_truB, ↓v_run, ↓s_set, ↓s_setI, ↓s_setF, ↓s_incF, ↓s_ret, ↓s_retN, ↓s_expr, ↓s_pass, ↓s_bad, ↓s_ite, ↓s_for, ↓s_while, ↓s_rai, ↓s_try, ↓s_nil, ↓s_cons, ↓s_hnil, ↓s_hcons, ↓s_setNm, ↓s_setTp, ↓s_memS, w_ok, w_ex, w_bad, w_bind, w_calm, w_st, w_nx, w_rt, w_xe, w_bd, w_then, w_catch, w_gone, w_fn, w_if, w_ifS, -List.append_assoc, getVar, List.getElem?_cons_zero, List.getElem?_cons_succ, List.getElem?_nil, p_add, p_sub, p_mul, p_mod, p_fdiv, p_pow, p_eq, p_ne, p_lt, p_le, p_gt, p_ge, p_isInt, p_isBool, p_min, p_max, p_lenC, p_lenT, p_isB, p_asg_nm, p_asg_tp, p_asgs_nil, p_asgs_nm, raiX, LIM, m_shr, m_shl1, m_int, m_intB, m_list, m_listT, m_listC, m_tupR, m_tupT, m_fld, m_gF, m_store, m_sF, m_addF, m_dF, m_isI, m_iI, m_getL, m_oL, m_isL, m_recv, m_walk, m_stays, m_truR, m_tOl, m_newL, m_alloc, m_len, m_lOl, m_lOd, m_app, m_ext, m_getC, m_ins, m_idx, m_xOl, m_xOd, m_idxT, m_idxC, m_at0, m_storeAt, m_sOd, m_key, m_keyS, m_non, m_nnon, isNon_non, isNon_int, isNon_str, isNon_tup, isNon_ref, m_getX, m_gXe, m_isX, m_iXe, m_at, m_slc, m_slcC, m_slcT, m_slcS, m_cat, m_rep, m_isList, get_set, get_app, ne_len, ne_len0, len_ne, len_ne0, se_2, se_3, se_4, es_2, es_3, es_4, ne_len2, ne_len3, len_ne2, len_ne3, putF, List.lookup, ea, eb, v_walkR ea]
    refine w_for0 (fun k env h' => h' = h ∧ ∃ z, env = [some (.ref a), some (.ref b), z]) ⟨rfl, _, rfl⟩ ?_ ?_ ?_
    · rintro i env h' ⟨rfl, -⟩
      exact p_stays ea
    · rintro i y env h' hy ⟨rfl, z, rfl⟩
      refine ⟨_, p_asg_nm, ?_⟩
      rcases n y (List.mem_of_getElem? hy) with rfl | ⟨z, rfl⟩ <;> simp [l__law_alike_0, ↓v_var, ↓v_lit, ↓v_glo, ↓v_op, ↓v_neg, v_negI, ↓v_not, ↓v_and, ↓v_or, ↓v_isB, ↓v_ch, ↓v_one, ↓v_more, ↓v_call, ↓v_fld, ↓v_meth, ↓v_make, ↓v_bi, ↓v_bm, ↓v_idx, ↓v_slc, ↓v_lst, ↓v_tup, ↓v_dic0, ↓v_xfl, ↓v_xis, ↓v_nil, ↓v_cons, ↓v_no, ↓v_so, ↓v_oneN, ↓v_oneI, ↓v_of, ↓v_rng1, ↓v_rng2, ↓v_rng3, ↓v_walkT, ↓v_walkC, ↓v_walkS, ↓v_enum, ↓v_zip, ↓v_rev, ↓v_lof, ↓v_tst, ↓v_truB, ↓v_run, ↓s_set, ↓s_setI, ↓s_setF, ↓s_incF, ↓s_ret, ↓s_retN, ↓s_expr, ↓s_pass, ↓s_bad, ↓s_ite, ↓s_for, ↓s_while, ↓s_rai, ↓s_try, ↓s_nil, ↓s_cons, ↓s_hnil, ↓s_hcons, ↓s_setNm, ↓s_setTp, ↓s_memS, w_ok, w_ex, w_bad, w_bind, w_calm, w_st, w_nx, w_rt, w_xe, w_bd, w_then, w_catch, w_gone, w_fn, w_if, w_ifS, -List.append_assoc, getVar, List.getElem?_cons_zero, List.getElem?_cons_succ, List.getElem?_nil, p_add, p_sub, p_mul, p_mod, p_fdiv, p_pow, p_eq, p_ne, p_lt, p_le, p_gt, p_ge, p_isInt, p_isBool, p_min, p_max, p_lenC, p_lenT, p_isB, p_asg_nm, p_asg_tp, p_asgs_nil, p_asgs_nm, raiX, LIM, m_shr, m_shl1, m_int, m_intB, m_list, m_listT, m_listC, m_tupR, m_tupT, m_fld, m_gF, m_store, m_sF, m_addF, m_dF, m_isI, m_iI, m_getL, m_oL, m_isL, m_recv, m_walk, m_stays, m_truR, m_tOl, m_newL, m_alloc, m_len, m_lOl, m_lOd, m_app, m_ext, m_getC, m_ins, m_idx, m_xOl, m_xOd, m_idxT, m_idxC, m_at0, m_storeAt, m_sOd, m_key, m_keyS, m_non, m_nnon, isNon_non, isNon_int, isNon_str, isNon_tup, isNon_ref, m_getX, m_gXe, m_isX, m_iXe, m_at, m_slc, m_slcC, m_slcT, m_slcS, m_cat, m_rep, m_isList, get_set, get_app, ne_len, ne_len0, len_ne, len_ne0, se_2, se_3, se_4, es_2, es_3, es_4, ne_len2, ne_len3, len_ne2, len_ne3, putF, List.lookup, whole_ok]
    · rintro env h' ⟨rfl, z, rfl⟩
      simp [↓v_var, ↓v_lit, ↓v_glo, ↓v_op, ↓v_neg, v_negI, ↓v_not, ↓v_and, ↓v_or, ↓v_isB, ↓v_ch, ↓v_one, ↓v_more, ↓v_call, ↓v_fld, ↓v_meth, ↓v_make, ↓v_bi, ↓v_bm, ↓v_idx, ↓v_slc, ↓v_lst, ↓v_tup, ↓v_dic0, ↓v_xfl, ↓v_xis, ↓v_nil, ↓v_cons, ↓v_no, ↓v_so, ↓v_oneN, ↓v_oneI, ↓v_of, ↓v_rng1, ↓v_rng2, ↓v_rng3, ↓v_walkT, ↓v_walkC, ↓v_walkS, ↓v_enum, ↓v_zip, ↓v_rev, ↓v_lof, ↓v_tst, ↓v_truB, ↓v_run, ↓s_set, ↓s_setI, ↓s_setF, ↓s_incF, ↓s_ret, ↓s_retN, ↓s_expr, ↓s_pass, ↓s_bad, ↓s_ite, ↓s_for, ↓s_while, ↓s_rai, ↓s_try, ↓s_nil, ↓s_cons, ↓s_hnil, ↓s_hcons, ↓s_setNm, ↓s_setTp, ↓s_memS, w_ok, w_ex, w_bad, w_bind, w_calm, w_st, w_nx, w_rt, w_xe, w_bd, w_then, w_catch, w_gone, w_fn, w_if, w_ifS, -List.append_assoc, getVar, List.getElem?_cons_zero, List.getElem?_cons_succ, List.getElem?_nil, p_add, p_sub, p_mul, p_mod, p_fdiv, p_pow, p_eq, p_ne, p_lt, p_le, p_gt, p_ge, p_isInt, p_isBool, p_min, p_max, p_lenC, p_lenT, p_isB, p_asg_nm, p_asg_tp, p_asgs_nil, p_asgs_nm, raiX, p_eq_same (rd_ni ea n) (rd_ni eb n) (noDic_ni ws)])
  obtain ⟨v, h', e, rfl, rfl⟩ := q
  exact e
structure ItemP (b rm tp : Int) (h : Mem) (v : W) (h' : Mem) : Prop where
  ex : ∃ it : Option Int, v = oW it ∧ (∀ z, it = some z → b ≤ z ∧ z < b + rm ∧ z ≤ tp) ∧ Kp [] h h'
theorem ItemP.no {b rm tp : Int} {h h' : Mem} (k : Kp [] h h') : ItemP b rm tp h .non h' := ⟨none, rfl, nofun, k⟩
theorem ItemP.so {b rm tp z : Int} {h h' : Mem} (k : Kp [] h h') (c : b ≤ z ∧ z < b + rm ∧ z ≤ tp) : ItemP b rm tp h (.int z) h' := ⟨some z, rfl, fun _ e => by cases e; exact c, k⟩
theorem item_ok (c now b tp rm : Int) (h : Mem) (hn : 0 ≤ now ∧ now < 1000000) (bt : b ≤ tp) (tb : tp ≤ b + rm) (r1 : 1 ≤ rm) (rs : rm ≤ 60) (b0 : 0 ≤ b) (t9 : tp < 100000) :
    (r__law_item [.int c, .int now, .int b, .int tp, .int rm] h).wp (p := ⟨(ItemP b rm tp h), none_⟩) := by
  obtain ⟨rb, hrb⟩ := isrow_ok c
  obtain ⟨d, d0, hd⟩ := digit_ok c 0 (by omega)
  obtain ⟨m, m0, hm⟩ := mixed_ok c (now + 2003) (by omega)
  cases rb with
  | true =>
    simp [r__law_item, f__law_item, ↓v_var, ↓v_lit, ↓v_glo, ↓v_op, ↓v_neg, v_negI, ↓v_not, ↓v_and, ↓v_or, ↓v_isB, ↓v_ch, ↓v_one, ↓v_more, ↓v_call, ↓v_fld, ↓v_meth, ↓v_make, ↓v_bi, ↓v_bm, ↓v_idx, ↓v_slc, ↓v_lst, ↓v_tup, ↓v_dic0, ↓v_xfl, ↓v_xis, ↓v_nil, ↓v_cons, ↓v_no, ↓v_so, ↓v_oneN, ↓v_oneI, ↓v_of, ↓v_rng1, ↓v_rng2, ↓v_rng3, ↓v_walkT, ↓v_walkC, ↓v_walkS, ↓v_enum, ↓v_zip, ↓v_rev, ↓v_lof, ↓v_tst, ↓v_truB, ↓v_run, ↓s_set, ↓s_setI, ↓s_setF, ↓s_incF, ↓s_ret, ↓s_retN, ↓s_expr, ↓s_pass, ↓s_bad, ↓s_ite, ↓s_for, ↓s_while, ↓s_rai, ↓s_try, ↓s_nil, ↓s_cons, ↓s_hnil, ↓s_hcons, ↓s_setNm, ↓s_setTp, ↓s_memS, w_ok, w_ex, w_bad, w_bind, w_calm, w_st, w_nx, w_rt, w_xe, w_bd, w_then, w_catch, w_gone, w_fn, w_if, w_ifS, -List.append_assoc, getVar, List.getElem?_cons_zero, List.getElem?_cons_succ, List.getElem?_nil, p_add, p_sub, p_mul, p_mod, p_fdiv, p_pow, p_eq, p_ne, p_lt, p_le, p_gt, p_ge, p_isInt, p_isBool, p_min, p_max, p_lenC, p_lenT, p_isB, p_asg_nm, p_asg_tp, p_asgs_nil, p_asgs_nm, raiX, LIM, m_shr, m_shl1, m_int, m_intB, m_list, m_listT, m_listC, m_tupR, m_tupT, m_fld, m_gF, m_store, m_sF, m_addF, m_dF, m_isI, m_iI, m_getL, m_oL, m_isL, m_recv, m_walk, m_stays, m_truR, m_tOl, m_newL, m_alloc, m_len, m_lOl, m_lOd, m_app, m_ext, m_getC, m_ins, m_idx, m_xOl, m_xOd, m_idxT, m_idxC, m_at0, m_storeAt, m_sOd, m_key, m_keyS, m_non, m_nnon, isNon_non, isNon_int, isNon_str, isNon_tup, isNon_ref, m_getX, m_gXe, m_isX, m_iXe, m_at, m_slc, m_slcC, m_slcT, m_slcS, m_cat, m_rep, m_isList, get_set, get_app, ne_len, ne_len0, len_ne, len_ne0, se_2, se_3, se_4, es_2, es_3, es_4, ne_len2, ne_len3, len_ne2, len_ne3, putF, List.lookup, hrb]
    rw [v_rngI (by omega) (by omega) (by omega) (by omega)]
    have hl := up_len (lo := b) (n := (min (b + rm - 1) tp + 1 - b).toNat)
    have hu : ∀ w ∈ upL b (min (b + rm - 1) tp + 1 - b).toNat, ∃ z, w = .int z ∧ b ≤ z ∧ z < b + rm ∧ z ≤ tp := fun w hw => by
      obtain ⟨i, hi⟩ := List.getElem?_of_mem hw
      obtain ⟨li, rfl⟩ := up_get hi
      exact ⟨_, rfl, by omega⟩
    generalize upL b (min (b + rm - 1) tp + 1 - b).toNat = U at *
    have l1 : U.length ≤ 100000 := by omega
    have l2 : U.length + 1 ≤ 100000 := by omega
    have dp : 0 < (U.length : Int) + 1 := by omega
    have e0 := Int.emod_nonneg d (b := (U.length : Int) + 1) (by omega)
    have e1 := Int.emod_lt_of_pos d dp
    simp [↓v_var, ↓v_lit, ↓v_glo, ↓v_op, ↓v_neg, v_negI, ↓v_not, ↓v_and, ↓v_or, ↓v_isB, ↓v_ch, ↓v_one, ↓v_more, ↓v_call, ↓v_fld, ↓v_meth, ↓v_make, ↓v_bi, ↓v_bm, ↓v_idx, ↓v_slc, ↓v_lst, ↓v_tup, ↓v_dic0, ↓v_xfl, ↓v_xis, ↓v_nil, ↓v_cons, ↓v_no, ↓v_so, ↓v_oneN, ↓v_oneI, ↓v_of, ↓v_rng1, ↓v_rng2, ↓v_rng3, ↓v_walkT, ↓v_walkC, ↓v_walkS, ↓v_enum, ↓v_zip, ↓v_rev, ↓v_lof, ↓v_tst, ↓v_truB, ↓v_run, ↓s_set, ↓s_setI, ↓s_setF, ↓s_incF, ↓s_ret, ↓s_retN, ↓s_expr, ↓s_pass, ↓s_bad, ↓s_ite, ↓s_for, ↓s_while, ↓s_rai, ↓s_try, ↓s_nil, ↓s_cons, ↓s_hnil, ↓s_hcons, ↓s_setNm, ↓s_setTp, ↓s_memS, w_ok, w_ex, w_bad, w_bind, w_calm, w_st, w_nx, w_rt, w_xe, w_bd, w_then, w_catch, w_gone, w_fn, w_if, w_ifS, -List.append_assoc, getVar, List.getElem?_cons_zero, List.getElem?_cons_succ, List.getElem?_nil, p_add, p_sub, p_mul, p_mod, p_fdiv, p_pow, p_eq, p_ne, p_lt, p_le, p_gt, p_ge, p_isInt, p_isBool, p_min, p_max, p_lenC, p_lenT, p_isB, p_asg_nm, p_asg_tp, p_asgs_nil, p_asgs_nm, raiX, LIM, m_shr, m_shl1, m_int, m_intB, m_list, m_listT, m_listC, m_tupR, m_tupT, m_fld, m_gF, m_store, m_sF, m_addF, m_dF, m_isI, m_iI, m_getL, m_oL, m_isL, m_recv, m_walk, m_stays, m_truR, m_tOl, m_newL, m_alloc, m_len, m_lOl, m_lOd, m_app, m_ext, m_getC, m_ins, m_idx, m_xOl, m_xOd, m_idxT, m_idxC, m_at0, m_storeAt, m_sOd, m_key, m_keyS, m_non, m_nnon, isNon_non, isNon_int, isNon_str, isNon_tup, isNon_ref, m_getX, m_gXe, m_isX, m_iXe, m_at, m_slc, m_slcC, m_slcT, m_slcS, m_cat, m_rep, m_isList, get_set, get_app, ne_len, ne_len0, len_ne, len_ne0, se_2, se_3, se_4, es_2, es_3, es_4, ne_len2, ne_len3, len_ne2, len_ne3, putF, List.lookup, l1, l2, hd, dp, -m_at]
    obtain ⟨w, hw, ew⟩ := at_pick (ws := W.non :: U) (i := d % ((U.length : Int) + 1)) e0 (by simp; omega)
    rw [ew]
    rcases List.mem_cons.mp hw with rfl | hw
    · exact .no (by repeat' first | exact Kp.rfl | assumption | refine keeps_app ?_ | refine keeps_set ?_ (by simp [*]))
    · obtain ⟨z, rfl, hz⟩ := hu w hw
      exact .so (by repeat' first | exact Kp.rfl | assumption | refine keeps_app ?_ | refine keeps_set ?_ (by simp [*])) hz
  | false =>
    by_cases q : b < tp
    · have p1 := Int.emod_nonneg (m / 8) (b := tp - b) (by omega)
      have p2 := Int.emod_lt_of_pos (m / 8) (b := tp - b) (by omega)
      simp [r__law_item, f__law_item, ↓v_var, ↓v_lit, ↓v_glo, ↓v_op, ↓v_neg, v_negI, ↓v_not, ↓v_and, ↓v_or, ↓v_isB, ↓v_ch, ↓v_one, ↓v_more, ↓v_call, ↓v_fld, ↓v_meth, ↓v_make, ↓v_bi, ↓v_bm, ↓v_idx, ↓v_slc, ↓v_lst, ↓v_tup, ↓v_dic0, ↓v_xfl, ↓v_xis, ↓v_nil, ↓v_cons, ↓v_no, ↓v_so, ↓v_oneN, ↓v_oneI, ↓v_of, ↓v_rng1, ↓v_rng2, ↓v_rng3, ↓v_walkT, ↓v_walkC, ↓v_walkS, ↓v_enum, ↓v_zip, ↓v_rev, ↓v_lof, ↓v_tst, ↓v_truB, ↓v_run, ↓s_set, ↓s_setI, ↓s_setF, ↓s_incF, ↓s_ret, ↓s_retN, ↓s_expr, ↓s_pass, ↓s_bad, ↓s_ite, ↓s_for, ↓s_while, ↓s_rai, ↓s_try, ↓s_nil, ↓s_cons, ↓s_hnil, ↓s_hcons, ↓s_setNm, ↓s_setTp, ↓s_memS, w_ok, w_ex, w_bad, w_bind, w_calm, w_st, w_nx, w_rt, w_xe, w_bd, w_then, w_catch, w_gone, w_fn, w_if, w_ifS, -List.append_assoc, getVar, List.getElem?_cons_zero, List.getElem?_cons_succ, List.getElem?_nil, p_add, p_sub, p_mul, p_mod, p_fdiv, p_pow, p_eq, p_ne, p_lt, p_le, p_gt, p_ge, p_isInt, p_isBool, p_min, p_max, p_lenC, p_lenT, p_isB, p_asg_nm, p_asg_tp, p_asgs_nil, p_asgs_nm, raiX, LIM, m_shr, m_shl1, m_int, m_intB, m_list, m_listT, m_listC, m_tupR, m_tupT, m_fld, m_gF, m_store, m_sF, m_addF, m_dF, m_isI, m_iI, m_getL, m_oL, m_isL, m_recv, m_walk, m_stays, m_truR, m_tOl, m_newL, m_alloc, m_len, m_lOl, m_lOd, m_app, m_ext, m_getC, m_ins, m_idx, m_xOl, m_xOd, m_idxT, m_idxC, m_at0, m_storeAt, m_sOd, m_key, m_keyS, m_non, m_nnon, isNon_non, isNon_int, isNon_str, isNon_tup, isNon_ref, m_getX, m_gXe, m_isX, m_iXe, m_at, m_slc, m_slcC, m_slcT, m_slcS, m_cat, m_rep, m_isList, get_set, get_app, ne_len, ne_len0, len_ne, len_ne0, se_2, se_3, se_4, es_2, es_3, es_4, ne_len2, ne_len3, len_ne2, len_ne3, putF, List.lookup, hrb, hm, q]
      refine ⟨fun _ => .no Kp.rfl, fun _ => ⟨fun _ => ⟨fun _ => .so Kp.rfl (by omega), fun _ => ⟨fun _ => .so Kp.rfl (by omega), fun _ => .so Kp.rfl (by omega)⟩⟩, fun _ => ⟨fun _ => .so Kp.rfl (by omega), fun _ => .so Kp.rfl (by omega)⟩⟩⟩
    · simp [r__law_item, f__law_item, ↓v_var, ↓v_lit, ↓v_glo, ↓v_op, ↓v_neg, v_negI, ↓v_not, ↓v_and, ↓v_or, ↓v_isB, ↓v_ch, ↓v_one, ↓v_more, ↓v_call, ↓v_fld, ↓v_meth, ↓v_make, ↓v_bi, ↓v_bm, ↓v_idx, ↓v_slc, ↓v_lst, ↓v_tup, ↓v_dic0, ↓v_xfl, ↓v_xis, ↓v_nil, ↓v_cons, ↓v_no, ↓v_so, ↓v_oneN, ↓v_oneI, ↓v_of, ↓v_rng1, ↓v_rng2, ↓v_rng3, ↓v_walkT, ↓v_walkC, ↓v_walkS, ↓v_enum, ↓v_zip, ↓v_rev, ↓v_lof, ↓v_tst, ↓v_truB, ↓v_run, ↓s_set, ↓s_setI, ↓s_setF, ↓s_incF, ↓s_ret, ↓s_retN, ↓s_expr, ↓s_pass, ↓s_bad, ↓s_ite, ↓s_for, ↓s_while, ↓s_rai, ↓s_try, ↓s_nil, ↓s_cons, ↓s_hnil, ↓s_hcons, ↓s_setNm, ↓s_setTp, ↓s_memS, w_ok, w_ex, w_bad, w_bind, w_calm, w_st, w_nx, w_rt, w_xe, w_bd, w_then, w_catch, w_gone, w_fn, w_if, w_ifS, -List.append_assoc, getVar, List.getElem?_cons_zero, List.getElem?_cons_succ, List.getElem?_nil, p_add, p_sub, p_mul, p_mod, p_fdiv, p_pow, p_eq, p_ne, p_lt, p_le, p_gt, p_ge, p_isInt, p_isBool, p_min, p_max, p_lenC, p_lenT, p_isB, p_asg_nm, p_asg_tp, p_asgs_nil, p_asgs_nm, raiX, LIM, m_shr, m_shl1, m_int, m_intB, m_list, m_listT, m_listC, m_tupR, m_tupT, m_fld, m_gF, m_store, m_sF, m_addF, m_dF, m_isI, m_iI, m_getL, m_oL, m_isL, m_recv, m_walk, m_stays, m_truR, m_tOl, m_newL, m_alloc, m_len, m_lOl, m_lOd, m_app, m_ext, m_getC, m_ins, m_idx, m_xOl, m_xOd, m_idxT, m_idxC, m_at0, m_storeAt, m_sOd, m_key, m_keyS, m_non, m_nnon, isNon_non, isNon_int, isNon_str, isNon_tup, isNon_ref, m_getX, m_gXe, m_isX, m_iXe, m_at, m_slc, m_slcC, m_slcT, m_slcS, m_cat, m_rep, m_isList, get_set, get_app, ne_len, ne_len0, len_ne, len_ne0, se_2, se_3, se_4, es_2, es_3, es_4, ne_len2, ne_len3, len_ne2, len_ne3, putF, List.lookup, hrb, hm, q]
      refine ⟨fun _ => .no Kp.rfl, fun _ => ⟨fun _ => ⟨fun _ => .so Kp.rfl (by omega), fun _ => .so Kp.rfl (by omega)⟩, fun _ => .so Kp.rfl (by omega)⟩⟩
theorem ni_at {s : List W} (n : NI s) {k : Int} (k0 : 0 ≤ k) (l : k < s.length) : ∃ o : Option Int, atW s k = some (oW o) ∧ s[k.toNat]? = some (oW o) := by
  have q : s[k.toNat]? = some s[k.toNat] := List.getElem?_eq_getElem (by omega)
  rcases n _ (List.mem_of_getElem? q) with e | ⟨z, e⟩
  · exact ⟨none, by rw [m_at k0, q, e]; rfl, by rw [q, e]; rfl⟩
  · exact ⟨some z, by rw [m_at k0, q, e]; rfl, by rw [q, e]; rfl⟩
theorem ni_places : ∀ (cs : List Int) (s : PS), NI (s.places cs)
  | [], _ => fun w hw => by cases hw
  | k :: r, s => fun w hw => by
    rcases List.mem_cons.mp hw with rfl | hw
    · unfold PS.place
      split
      · exact .inl rfl
      · exact .inr ⟨_, rfl⟩
    · exact ni_places r _ w hw
theorem not2 {z a b : Nat} (h1 : z ≠ a) (h2 : z ≠ b) : z ∉ [a, b] := by simp [h1, h2]

theorem mod_back {g r : Int} (r0 : 0 < r) (a : Int) (l : 0 ≤ a - g) (u : a - g < r) : (a % r - g) % r = a - g := by
  rw [Int.emod_sub_emod]
  exact Int.emod_eq_of_lt l u
/-! ### numbers that go round are never mistaken -/
/-- how far top may go in so many turns -/
def ww (room : Int) (k : Nat) : Int := if room = 1 then ((k : Int) + 1) / 2 else k
/-- what is behind each turn: got, base, top -/
structure HI (s : PS) (n : Nat) (G B T : Nat → Int) : Prop where
  nl : s.sent.length = n
  td : s.told = (List.range n).map fun i => G i % s.ring
  rm : 1 ≤ s.room
  lg : 1 ≤ s.lag
  nd : (if s.room = 1 then 2 + s.lag / 2 else 2 * s.room + s.lag - 1) ≤ s.ring
  rr : s.room < s.ring
  hs : NI s.sent
  up : ∀ i j, i ≤ j → j < n → T i ≤ T j ∧ G i ≤ G j ∧ T j ≤ T i + ww s.room (j - i)
  at_ : ∀ i, i < n → B i ≤ G i ∧ T i ≤ B i + s.room
  b0 : ∀ i, i < n → 0 ≤ B i
  gt : ∀ i, i + 1 < n → G (i + 1) ≤ T i
  se : ∀ (i : Nat) (z : Int), s.sent[i]? = some (.int z) → B i ≤ z ∧ z < B i + s.room ∧ z < T i
  cu : 0 < n → s.base = B (n - 1) ∧ s.top = T (n - 1) ∧ s.got = G (n - 1)
  od : 0 ≤ s.base ∧ s.base ≤ s.got ∧ s.got ≤ s.top ∧ s.top ≤ s.base + s.room
  f1 : ∀ j, hasI s.fil j = true → 0 ≤ j ∧ j < s.top
  f2 : ∀ j, 0 ≤ j → j < s.got → hasI s.fil j = true
  f3 : hasI s.fil s.got = false
section
variable {s : PS} {n : Nat} {G B T : Nat → Int}
theorem ww_mono {r : Int} {j k : Nat} (l : j ≤ k) : ww r j ≤ ww r k := by
  unfold ww
  split <;> omega
/-- what came back in time is not mistaken -/
theorem HI.far (hi : HI s n G B T) (i : Nat) (h1 : i < n) (h2 : (n : Int) - i ≤ s.lag) : s.top - B i ≤ s.ring - s.room ∧ s.top - G i < s.ring := by
  obtain ⟨c1, c2, c3⟩ := hi.cu (by omega)
  obtain ⟨u1, u2, u3⟩ := hi.up i (n - 1) (by omega) (by omega)
  obtain ⟨a1, a2⟩ := hi.at_ i h1
  have nd := hi.nd
  have rm := hi.rm
  have lg := hi.lg
  have e : ww s.room (n - 1 - i) ≤ (if s.room = 1 then s.lag / 2 else s.lag - 1) := by
    unfold ww
    split <;> omega
  split at e <;> rename_i q
  · rw [if_pos q] at nd
    omega
  · rw [if_neg q] at nd
    omega
def mxs (G : Nat → Int) : List Int → Int → Int
  | [], b => b
  | k :: r, b => mxs G r (max b (G k.toNat))
theorem mxs_le {G : Nat → Int} {t : Int} : ∀ (M : List Int) (b : Int), b ≤ t → (∀ k ∈ M, G k.toNat ≤ t) → b ≤ mxs G M b ∧ mxs G M b ≤ t
  | [], b, l, _ => ⟨Int.le_refl _, l⟩
  | k :: r, b, l, h => by
    have q := mxs_le r (max b (G k.toNat)) (by have := h k List.mem_cons_self; omega) fun k hk => h k (List.mem_cons_of_mem _ hk)
    unfold mxs
    exact ⟨by omega, q.2⟩
theorem HI.bb (hi : HI s n G B T) (M : List Int) (hM : ∀ k ∈ M, 0 ≤ k ∧ k < n ∧ n - k ≤ s.lag) : s.bb M = mxs G M s.base := by
  have od := hi.od
  have rr := hi.rr
  have key : ∀ (M : List Int) (b : Int), (∀ k ∈ M, 0 ≤ k ∧ k < n ∧ n - k ≤ s.lag) → s.base ≤ b → b ≤ s.top → baseB s.ring s.top s.told M b = mxs G M b := by
    intro M
    induction M with
    | nil => intro b _ _ _; rfl
    | cons k r ih =>
      intro b hM l1 l2
      obtain ⟨k0, k1, k2⟩ := hM k List.mem_cons_self
      have kn : k.toNat < n := by omega
      obtain ⟨f1, f2⟩ := hi.far k.toNat kn (by omega)
      obtain ⟨c1, c2, c3⟩ := hi.cu (by omega)
      have gm := (hi.up k.toNat (n - 1) (by omega) (by omega)).2.1
      have et : s.told[k.toNat]? = some (G k.toNat % s.ring) := by
        rw [hi.td, List.getElem?_map, List.getElem?_range kn]
        rfl
      unfold baseB mxs
      rw [et]
      dsimp only [Option.getD_some]
      by_cases q : b ≤ G k.toNat
      · rw [mod_back (by omega) (G k.toNat) (by omega) (by omega), if_pos (by omega), show b + (G k.toNat - b) = max b (G k.toNat) by omega]
        exact ih _ (fun k hk => hM k (List.mem_cons_of_mem _ hk)) (by omega) (by omega)
      · have e : (G k.toNat % s.ring - b) % s.ring = G k.toNat - b + s.ring := by
          rw [Int.emod_sub_emod, ← Int.add_emod_right]
          exact Int.emod_eq_of_lt (by omega) (by omega)
        rw [e, if_neg (by omega), show max b (G k.toNat) = b by omega]
        exact ih _ (fun k hk => hM k (List.mem_cons_of_mem _ hk)) l1 l2
  exact key M s.base hM (Int.le_refl _) (by omega)
/-- while some come -/
structure Mid (s0 s : PS) : Prop where
  sm : s.ring = s0.ring ∧ s.room = s0.room ∧ s.sent = s0.sent ∧ s.top = s0.top
  g0 : s0.got ≤ s.got
  gt : s.got ≤ s0.top
  f1 : ∀ j, hasI s.fil j = true → 0 ≤ j ∧ j < s0.top
  f2 : ∀ j, 0 ≤ j → j < s.got → hasI s.fil j = true
  f3 : hasI s.fil s.got = false
theorem HI.mid (hi : HI s n G B T) : Mid s s := ⟨⟨rfl, rfl, rfl, rfl⟩, Int.le_refl _, hi.od.2.2.1, hi.f1, hi.f2, hi.f3⟩
/-- one comes, sent at turn k as z -/
theorem HI.one {s1 : PS} (hi : HI s n G B T) (m : Mid s s1) (k z : Int) (k0 : 0 ≤ k) (k1 : k < n) (k2 : n - k ≤ s.lag) (hz : s.sent[k.toNat]? = some (.int z)) :
    Mid s (s1.file k) ∧ s1.place k = (if z < s1.got then .non else .int z) ∧ (∀ j, hasI (s1.file k).fil j = (decide (j = z) || hasI s1.fil j)) := by
  obtain ⟨m1, m2, m3, m4⟩ := m.sm
  obtain ⟨e1, e2, e3⟩ := hi.se k.toNat z hz
  have kn : k.toNat < n := by omega
  obtain ⟨f1, f2⟩ := hi.far k.toNat kn (by omega)
  obtain ⟨c1, c2, c3⟩ := hi.cu (by omega)
  have od := hi.od
  have rr := hi.rr
  have rm := hi.rm
  obtain ⟨a1, a2⟩ := hi.at_ k.toNat kn
  obtain ⟨u1, u2, u3⟩ := hi.up k.toNat (n - 1) (by omega) (by omega)
  have g0 := m.g0
  have gt := m.gt
  have num : s1.num k = z := by
    unfold PS.num
    rw [m3, hz]
  have z0 : 0 ≤ z := by
    have := hi.b0 k.toNat kn
    omega
  by_cases q : z < s1.got
  · have fr : s1.far k = z - s1.got + s.ring := by
      unfold PS.far
      rw [num, m1, Int.emod_sub_emod, ← Int.add_emod_right]
      exact Int.emod_eq_of_lt (by omega) (by omega)
    have ef : s1.file k = s1 := by
      unfold PS.file
      rw [fr, m2, if_pos (by omega)]
    refine ⟨by rw [ef]; exact m, ?_, fun j => ?_⟩
    · unfold PS.place
      rw [fr, m2, if_pos (by omega), if_pos q]
    · rw [ef]
      by_cases c : j = z
      · rw [c, m.f2 z z0 q]
        simp
      · simp [c]
  · have fr : s1.far k = z - s1.got := by
      unfold PS.far
      rw [num, m1, mod_back (by omega) z (by omega) (by omega)]
    have ef : s1.file k = { s1 with fil := putKW s1.fil (.int z) (.bl true), got := adv (putKW s1.fil (.int z) (.bl true)) s1.got } := by
      unfold PS.file
      rw [fr, m2, if_neg (by omega), show s1.got + (z - s1.got) = z by omega]
    have hp : ∀ j, hasI (putKW s1.fil (.int z) (.bl true)) j = (decide (j = z) || hasI s1.fil j) := fun j => has_put
    refine ⟨?_, ?_, fun j => by rw [ef]; exact hp j⟩
    · rw [ef]
      refine ⟨⟨m1, m2, m3, m4⟩, Int.le_trans g0 adv_le, ?_, fun j hj => ?_, fun j j0 j1 => ?_, adv_end⟩
      · show adv _ _ ≤ s.top
        rcases Int.lt_or_le s.top (adv (putKW s1.fil (.int z) (.bl true)) s1.got) with l | l
        · have := adv_has gt l
          rw [hp] at this
          rcases Bool.or_eq_true_iff.mp this with h | h
          · have := of_decide_eq_true h
            omega
          · have := (m.f1 _ h).2
            omega
        · exact l
      · rw [hp] at hj
        rcases Bool.or_eq_true_iff.mp hj with h | h
        · have := of_decide_eq_true h
          omega
        · exact m.f1 j h
      · by_cases c : j < s1.got
        · show hasI (putKW _ _ _) j = true
          rw [hp, m.f2 j j0 c, Bool.or_true]
        · exact adv_has (by omega) j1
    · unfold PS.place
      rw [fr, m2, if_neg (by omega), if_neg q]
      congr 1
      omega
/-- what the law has for one that came -/
def dues (g : Int → Int) : List Int → Int → List W
  | [], _ => []
  | z :: r, b => (if z < b then .non else .int z) :: dues g r (g z)
theorem HI.files (hi : HI s n G B T) : ∀ (C : List Int) (s1 : PS), Mid s s1 → (∀ k ∈ C, 0 ≤ k ∧ k < n ∧ n - k ≤ s.lag ∧ ∃ z, s.sent[k.toNat]? = some (.int z)) → Mid s (s1.files C)
  | [], s1, m, _ => m
  | k :: r, s1, m, h => by
    obtain ⟨k0, k1, k2, z, hz⟩ := h k List.mem_cons_self
    exact hi.files r (s1.file k) (hi.one m k z k0 k1 k2 hz).1 fun k hk => h k (List.mem_cons_of_mem _ hk)
/-- the turn's end -/
theorem HI.turn (hi : HI s n G B T) (C M : List Int) (it : Option Int) (hC : ∀ k ∈ C, 0 ≤ k ∧ k < n ∧ n - k ≤ s.lag ∧ ∃ z, s.sent[k.toNat]? = some (.int z)) (hM : ∀ k ∈ M, 0 ≤ k ∧ k < n ∧ n - k ≤ s.lag) (hit : ∀ z, it = some z → s.bb M ≤ z ∧ z < s.bb M + s.room ∧ z ≤ s.top) :
    HI (s.played C M it) (n + 1) (fun i => if i = n then (s.files C).got else G i) (fun i => if i = n then s.bb M else B i) (fun i => if i = n then (if it = some s.top then s.top + 1 else s.top) else T i) := by
  obtain ⟨b1, b2, b3, b4, b5, b6, b7⟩ := files_same C s
  have m := hi.files C s hi.mid hC
  have od := hi.od
  have bb := hi.bb M hM
  have gk : ∀ k ∈ M, G k.toNat ≤ s.got := fun k hk => by
    obtain ⟨k0, k1, k2⟩ := hM k hk
    obtain ⟨c1, c2, c3⟩ := hi.cu (by omega)
    have := (hi.up k.toNat (n - 1) (by omega) (by omega)).2.1
    omega
  have bl := mxs_le (G := G) (t := s.got) M s.base (by omega) gk
  rw [← bb] at bl
  have g0 := m.g0
  have gt := m.gt
  have rm := hi.rm
  have tp : (if it = some s.top then s.top + 1 else s.top) ≤ s.bb M + s.room ∧ s.top ≤ (if it = some s.top then s.top + 1 else s.top) ∧ (if it = some s.top then s.top + 1 else s.top) ≤ s.top + 1 := by
    split
    · rename_i q
      have := hit _ q
      omega
    · omega
  generalize ht : (if it = some s.top then s.top + 1 else s.top) = tp' at *
  refine ⟨?_, ?_, ?_, ?_, ?_, ?_, ?_, ?_, ?_, ?_, ?_, ?_, ?_, ?_, ?_, ?_, ?_⟩
  · show (s.sent ++ [oW it]).length = n + 1
    rw [List.length_append, hi.nl]
    rfl
  · show s.told ++ [(s.files C).got % s.ring] = (List.range (n + 1)).map fun i => (if i = n then (s.files C).got else G i) % (s.files C).ring
    rw [List.range_succ, List.map_append, hi.td, b1]
    congr 1
    · refine List.map_congr_left fun i hi' => ?_
      have := List.mem_range.mp hi'
      rw [if_neg (by omega)]
    · simp
  · show 1 ≤ (s.files C).room
    rw [b2]
    exact hi.rm
  · show 1 ≤ (s.files C).lag
    rw [b3]
    exact hi.lg
  · show (if (s.files C).room = 1 then 2 + (s.files C).lag / 2 else 2 * (s.files C).room + (s.files C).lag - 1) ≤ (s.files C).ring
    rw [b1, b2, b3]
    exact hi.nd
  · show (s.files C).room < (s.files C).ring
    rw [b1, b2]
    exact hi.rr
  · show NI (s.sent ++ [oW it])
    intro w hw
    rcases List.mem_append.mp hw with hw | hw
    · exact hi.hs w hw
    · simp at hw
      subst hw
      cases it
      · exact .inl rfl
      · exact .inr ⟨_, rfl⟩
  · intro i j ij jn
    show _ ∧ _ ∧ _ ≤ _ + ww (s.files C).room _
    rw [b2]
    by_cases e : j = n
    · subst e
      simp only [if_true]
      by_cases e2 : i = j
      · subst e2
        simp only [if_true]
        have : 0 ≤ ww s.room (i - i) := by unfold ww; split <;> omega
        omega
      · rw [if_neg e2, if_neg e2]
        obtain ⟨c1, c2, c3⟩ := hi.cu (by omega)
        obtain ⟨u1, u2, u3⟩ := hi.up i (j - 1) (by omega) (by omega)
        refine ⟨by omega, by omega, ?_⟩
        unfold ww at u3 ⊢
        split at u3 <;> rename_i q
        · rw [if_pos q]
          by_cases e3 : i = j - 1
          · subst e3
            omega
          · have gg := hi.gt (j - 2) (by omega)
            rw [show j - 2 + 1 = j - 1 by omega] at gg
            have u4 := (hi.up i (j - 2) (by omega) (by omega)).2.2
            unfold ww at u4
            rw [if_pos q] at u4
            omega
        · rw [if_neg q]
          omega
    · rw [if_neg e, if_neg (by omega), if_neg e, if_neg (by omega)]
      exact hi.up i j ij (by omega)
  · intro i hi'
    show _ ∧ _ ≤ _ + (s.files C).room
    rw [b2]
    by_cases e : i = n
    · subst e
      simp only [if_true]
      omega
    · simp only [if_neg e]
      exact hi.at_ i (by omega)
  · intro i hi'
    by_cases e : i = n
    · subst e
      simp only [if_true]
      omega
    · simp only [if_neg e]
      exact hi.b0 i (by omega)
  · intro i hi'
    by_cases e : i + 1 = n
    · obtain ⟨c1, c2, c3⟩ := hi.cu (by omega)
      rw [show n - 1 = i by omega] at c2
      rw [if_pos e, if_neg (by omega)]
      omega
    · rw [if_neg e, if_neg (by omega)]
      exact hi.gt i (by omega)
  · intro i z hz
    have hz : (s.sent ++ [oW it])[i]? = some (.int z) := hz
    show _ ∧ _ < _ + (s.files C).room ∧ _
    rw [b2]
    by_cases e : i < n
    · rw [List.getElem?_append_left (by rw [hi.nl]; exact e)] at hz
      rw [if_neg (by omega), if_neg (by omega)]
      exact hi.se i z hz
    · have e2 : i = n := by
        have := (List.getElem?_eq_some_iff.mp hz).1
        rw [List.length_append, hi.nl] at this
        simp at this
        omega
      subst e2
      rw [List.getElem?_append_right (by rw [hi.nl]; exact Nat.le_refl _), hi.nl, Nat.sub_self] at hz
      have hz : oW it = .int z := by simpa using hz
      have ez : it = some z := by
        cases it with
        | none => cases hz
        | some y =>
          cases hz
          rfl
      obtain ⟨z1, z2, z3⟩ := hit z ez
      simp only [if_true]
      refine ⟨z1, z2, ?_⟩
      rw [← ht, ez]
      split
      · omega
      · rename_i q
        have : ¬ z = s.top := fun h => q (by rw [h])
        omega
  · intro _
    rw [show n + 1 - 1 = n by omega]
    simp only [if_true]
    exact ⟨rfl, ht, rfl⟩
  · show 0 ≤ s.bb M ∧ s.bb M ≤ (s.files C).got ∧ (s.files C).got ≤ (if it = some s.top then s.top + 1 else s.top) ∧ (if it = some s.top then s.top + 1 else s.top) ≤ s.bb M + (s.files C).room
    rw [b2, ht]
    omega
  · intro j hj
    have := m.f1 j hj
    show 0 ≤ j ∧ j < if it = some s.top then s.top + 1 else s.top
    rw [ht]
    omega
  · exact m.f2
  · exact m.f3
end

theorem drawn_ok (c now lag : Int) (h : Mem) (l1 : 1 ≤ lag) (hn : 0 ≤ now ∧ now < 1000000) : (r__law_drawn [.int c, .int now, .int lag] h).wp (p := ⟨(DrawnP now lag h), none_⟩) := by
  obtain ⟨rb, hrb⟩ := isrow_ok c
  cases rb with
  | true =>
    simp [r__law_drawn, f__law_drawn, ↓v_var, ↓v_lit, ↓v_glo, ↓v_op, ↓v_neg, v_negI, ↓v_not, ↓v_and, ↓v_or, ↓v_isB, ↓v_ch, ↓v_one, ↓v_more, ↓v_call, ↓v_fld, ↓v_meth, ↓v_make, ↓v_bi, ↓v_bm, ↓v_idx, ↓v_slc, ↓v_lst, ↓v_tup, ↓v_dic0, ↓v_xfl, ↓v_xis, ↓v_nil, ↓v_cons, ↓v_no, ↓v_so, ↓v_oneN, ↓v_oneI, ↓v_of, ↓v_rng1, ↓v_rng2, ↓v_rng3, ↓v_walkT, ↓v_walkC, ↓v_walkS, ↓v_enum, ↓v_zip, ↓v_rev, ↓v_lof, ↓v_tst, ↓v_truB, ↓v_run, ↓s_set, ↓s_setI, ↓s_setF, ↓s_incF, ↓s_ret, ↓s_retN, ↓s_expr, ↓s_pass, ↓s_bad, ↓s_ite, ↓s_for, ↓s_while, ↓s_rai, ↓s_try, ↓s_nil, ↓s_cons, ↓s_hnil, ↓s_hcons, ↓s_setNm, ↓s_setTp, ↓s_memS, w_ok, w_ex, w_bad, w_bind, w_calm, w_st, w_nx, w_rt, w_xe, w_bd, w_then, w_catch, w_gone, w_fn, w_if, w_ifS, -List.append_assoc, getVar, List.getElem?_cons_zero, List.getElem?_cons_succ, List.getElem?_nil, p_add, p_sub, p_mul, p_mod, p_fdiv, p_pow, p_eq, p_ne, p_lt, p_le, p_gt, p_ge, p_isInt, p_isBool, p_min, p_max, p_lenC, p_lenT, p_isB, p_asg_nm, p_asg_tp, p_asgs_nil, p_asgs_nm, raiX, LIM, m_shr, m_shl1, m_int, m_intB, m_list, m_listT, m_listC, m_tupR, m_tupT, m_fld, m_gF, m_store, m_sF, m_addF, m_dF, m_isI, m_iI, m_getL, m_oL, m_isL, m_recv, m_walk, m_stays, m_truR, m_tOl, m_newL, m_alloc, m_len, m_lOl, m_lOd, m_app, m_ext, m_getC, m_ins, m_idx, m_xOl, m_xOd, m_idxT, m_idxC, m_at0, m_storeAt, m_sOd, m_key, m_keyS, m_non, m_nnon, isNon_non, isNon_int, isNon_str, isNon_tup, isNon_ref, m_getX, m_gXe, m_isX, m_iXe, m_at, m_slc, m_slcC, m_slcT, m_slcS, m_cat, m_rep, m_isList, get_set, get_app, ne_len, ne_len0, len_ne, len_ne0, se_2, se_3, se_4, es_2, es_3, es_4, ne_len2, ne_len3, len_ne2, len_ne3, putF, List.lookup, hrb]
    refine (picked_ok c 1 now lag h l1 (by omega)).mn ?_
    rintro v h1 ⟨q, L, rfl, lq, hq, hL, ll, k1⟩
    simp only [↓v_var, ↓v_lit, ↓v_glo, ↓v_op, ↓v_neg, v_negI, ↓v_not, ↓v_and, ↓v_or, ↓v_isB, ↓v_ch, ↓v_one, ↓v_more, ↓v_call, ↓v_fld, ↓v_meth, ↓v_make, ↓v_bi, ↓v_bm, ↓v_idx, ↓v_slc, ↓v_lst, ↓v_tup, ↓v_dic0, ↓v_xfl, ↓v_xis, ↓v_nil, ↓v_cons, ↓v_no, ↓v_so, ↓v_oneN, ↓v_oneI, ↓v_of, ↓v_rng1, ↓v_rng2, ↓v_rng3, ↓v_walkT, ↓v_walkC, ↓v_walkS, ↓v_enum, ↓v_zip, ↓v_rev, ↓v_lof, ↓v_tst, ↓v_truB, ↓v_run, ↓s_set, ↓s_setI, ↓s_setF, ↓s_incF, ↓s_ret, ↓s_retN, ↓s_expr, ↓s_pass, ↓s_bad, ↓s_ite, ↓s_for, ↓s_while, ↓s_rai, ↓s_try, ↓s_nil, ↓s_cons, ↓s_hnil, ↓s_hcons, ↓s_setNm, ↓s_setTp, ↓s_memS, w_ok, w_ex, w_bad, w_bind, w_calm, w_st, w_nx, w_rt, w_xe, w_bd, w_then, w_catch, w_gone, w_fn, w_if, w_ifS, -List.append_assoc, getVar, List.getElem?_cons_zero, List.getElem?_cons_succ, List.getElem?_nil, p_add, p_sub, p_mul, p_mod, p_fdiv, p_pow, p_eq, p_ne, p_lt, p_le, p_gt, p_ge, p_isInt, p_isBool, p_min, p_max, p_lenC, p_lenT, p_isB, p_asg_nm, p_asg_tp, p_asgs_nil, p_asgs_nm, raiX]
    refine (picked_ok c 11 now lag h1 l1 (by omega)).mn ?_
    rintro v h2 ⟨r, M, rfl, lr, hr, hM, lm, k2⟩
    simp [↓v_var, ↓v_lit, ↓v_glo, ↓v_op, ↓v_neg, v_negI, ↓v_not, ↓v_and, ↓v_or, ↓v_isB, ↓v_ch, ↓v_one, ↓v_more, ↓v_call, ↓v_fld, ↓v_meth, ↓v_make, ↓v_bi, ↓v_bm, ↓v_idx, ↓v_slc, ↓v_lst, ↓v_tup, ↓v_dic0, ↓v_xfl, ↓v_xis, ↓v_nil, ↓v_cons, ↓v_no, ↓v_so, ↓v_oneN, ↓v_oneI, ↓v_of, ↓v_rng1, ↓v_rng2, ↓v_rng3, ↓v_walkT, ↓v_walkC, ↓v_walkS, ↓v_enum, ↓v_zip, ↓v_rev, ↓v_lof, ↓v_tst, ↓v_truB, ↓v_run, ↓s_set, ↓s_setI, ↓s_setF, ↓s_incF, ↓s_ret, ↓s_retN, ↓s_expr, ↓s_pass, ↓s_bad, ↓s_ite, ↓s_for, ↓s_while, ↓s_rai, ↓s_try, ↓s_nil, ↓s_cons, ↓s_hnil, ↓s_hcons, ↓s_setNm, ↓s_setTp, ↓s_memS, w_ok, w_ex, w_bad, w_bind, w_calm, w_st, w_nx, w_rt, w_xe, w_bd, w_then, w_catch, w_gone, w_fn, w_if, w_ifS, -List.append_assoc, getVar, List.getElem?_cons_zero, List.getElem?_cons_succ, List.getElem?_nil, p_add, p_sub, p_mul, p_mod, p_fdiv, p_pow, p_eq, p_ne, p_lt, p_le, p_gt, p_ge, p_isInt, p_isBool, p_min, p_max, p_lenC, p_lenT, p_isB, p_asg_nm, p_asg_tp, p_asgs_nil, p_asgs_nm, raiX, LIM, m_shr, m_shl1, m_int, m_intB, m_list, m_listT, m_listC, m_tupR, m_tupT, m_fld, m_gF, m_store, m_sF, m_addF, m_dF, m_isI, m_iI, m_getL, m_oL, m_isL, m_recv, m_walk, m_stays, m_truR, m_tOl, m_newL, m_alloc, m_len, m_lOl, m_lOd, m_app, m_ext, m_getC, m_ins, m_idx, m_xOl, m_xOd, m_idxT, m_idxC, m_at0, m_storeAt, m_sOd, m_key, m_keyS, m_non, m_nnon, isNon_non, isNon_int, isNon_str, isNon_tup, isNon_ref, m_getX, m_gXe, m_isX, m_iXe, m_at, m_slc, m_slcC, m_slcT, m_slcS, m_cat, m_rep, m_isList, get_set, get_app, ne_len, ne_len0, len_ne, len_ne0, se_2, se_3, se_4, es_2, es_3, es_4, ne_len2, ne_len3, len_ne2, len_ne3, putF, List.lookup]
    exact ⟨q, r, L, M, rfl, lq, by have := k1.len; omega, k2.at hq (by simp), hr, ⟨hL, by omega⟩, ⟨hM, by omega⟩, k1.trans k2 (by simp)⟩
  | false =>
    obtain ⟨z1, b1, m1⟩ := mixed_ok c now (by omega)
    obtain ⟨z2, b2, m2⟩ := mixed_ok c (now + 1009) (by omega)
    simp [r__law_drawn, f__law_drawn, ↓v_var, ↓v_lit, ↓v_glo, ↓v_op, ↓v_neg, v_negI, ↓v_not, ↓v_and, ↓v_or, ↓v_isB, ↓v_ch, ↓v_one, ↓v_more, ↓v_call, ↓v_fld, ↓v_meth, ↓v_make, ↓v_bi, ↓v_bm, ↓v_idx, ↓v_slc, ↓v_lst, ↓v_tup, ↓v_dic0, ↓v_xfl, ↓v_xis, ↓v_nil, ↓v_cons, ↓v_no, ↓v_so, ↓v_oneN, ↓v_oneI, ↓v_of, ↓v_rng1, ↓v_rng2, ↓v_rng3, ↓v_walkT, ↓v_walkC, ↓v_walkS, ↓v_enum, ↓v_zip, ↓v_rev, ↓v_lof, ↓v_tst, ↓v_truB, ↓v_run, ↓s_set, ↓s_setI, ↓s_setF, ↓s_incF, ↓s_ret, ↓s_retN, ↓s_expr, ↓s_pass, ↓s_bad, ↓s_ite, ↓s_for, ↓s_while, ↓s_rai, ↓s_try, ↓s_nil, ↓s_cons, ↓s_hnil, ↓s_hcons, ↓s_setNm, ↓s_setTp, ↓s_memS, w_ok, w_ex, w_bad, w_bind, w_calm, w_st, w_nx, w_rt, w_xe, w_bd, w_then, w_catch, w_gone, w_fn, w_if, w_ifS, -List.append_assoc, getVar, List.getElem?_cons_zero, List.getElem?_cons_succ, List.getElem?_nil, p_add, p_sub, p_mul, p_mod, p_fdiv, p_pow, p_eq, p_ne, p_lt, p_le, p_gt, p_ge, p_isInt, p_isBool, p_min, p_max, p_lenC, p_lenT, p_isB, p_asg_nm, p_asg_tp, p_asgs_nil, p_asgs_nm, raiX, LIM, m_shr, m_shl1, m_int, m_intB, m_list, m_listT, m_listC, m_tupR, m_tupT, m_fld, m_gF, m_store, m_sF, m_addF, m_dF, m_isI, m_iI, m_getL, m_oL, m_isL, m_recv, m_walk, m_stays, m_truR, m_tOl, m_newL, m_alloc, m_len, m_lOl, m_lOd, m_app, m_ext, m_getC, m_ins, m_idx, m_xOl, m_xOd, m_idxT, m_idxC, m_at0, m_storeAt, m_sOd, m_key, m_keyS, m_non, m_nnon, isNon_non, isNon_int, isNon_str, isNon_tup, isNon_ref, m_getX, m_gXe, m_isX, m_iXe, m_at, m_slc, m_slcC, m_slcT, m_slcS, m_cat, m_rep, m_isList, get_set, get_app, ne_len, ne_len0, len_ne, len_ne0, se_2, se_3, se_4, es_2, es_3, es_4, ne_len2, ne_len3, len_ne2, len_ne3, putF, List.lookup, hrb, m1]
    refine (births_ok z1 now lag h l1).mn ?_
    rintro v h1 ⟨q, L, rfl, lq, hq, hL, ll, k1⟩
    have tail : ∀ (q : Nat) (L : List Int) (h3 : Mem), (∀ b ∈ L, 0 ≤ b ∧ inLag now lag b) → L.length ≤ 6 → h.length ≤ q → h3[q]? = some (.lst (intsW L)) → Kp [] h h3 → (xss t__law_drawn b__law_drawn_4 [some (.int c), some (.int now), some (.int lag), some (.int z1), some (.ref q)] h3).wp (p := ⟨(fun _ _ => False), (DrawnP now lag h), (fun _ _ _ => False)⟩) := by
      intro q L h3 hL ll lq hq k3
      simp [b__law_drawn_4, ↓v_var, ↓v_lit, ↓v_glo, ↓v_op, ↓v_neg, v_negI, ↓v_not, ↓v_and, ↓v_or, ↓v_isB, ↓v_ch, ↓v_one, ↓v_more, ↓v_call, ↓v_fld, ↓v_meth, ↓v_make, ↓v_bi, ↓v_bm, ↓v_idx, ↓v_slc, ↓v_lst, ↓v_tup, ↓v_dic0, ↓v_xfl, ↓v_xis, ↓v_nil, ↓v_cons, ↓v_no, ↓v_so, ↓v_oneN, ↓v_oneI, ↓v_of, ↓v_rng1, ↓v_rng2, ↓v_rng3, ↓v_walkT, ↓v_walkC, ↓v_walkS, ↓v_enum, ↓v_zip, ↓v_rev, ↓v_lof, ↓v_tst, ↓v_truB, ↓v_run, ↓s_set, ↓s_setI, ↓s_setF, ↓s_incF, ↓s_ret, ↓s_retN, ↓s_expr, ↓s_pass, ↓s_bad, ↓s_ite, ↓s_for, ↓s_while, ↓s_rai, ↓s_try, ↓s_nil, ↓s_cons, ↓s_hnil, ↓s_hcons, ↓s_setNm, ↓s_setTp, ↓s_memS, w_ok, w_ex, w_bad, w_bind, w_calm, w_st, w_nx, w_rt, w_xe, w_bd, w_then, w_catch, w_gone, w_fn, w_if, w_ifS, -List.append_assoc, getVar, List.getElem?_cons_zero, List.getElem?_cons_succ, List.getElem?_nil, p_add, p_sub, p_mul, p_mod, p_fdiv, p_pow, p_eq, p_ne, p_lt, p_le, p_gt, p_ge, p_isInt, p_isBool, p_min, p_max, p_lenC, p_lenT, p_isB, p_asg_nm, p_asg_tp, p_asgs_nil, p_asgs_nm, raiX, LIM, m_shr, m_shl1, m_int, m_intB, m_list, m_listT, m_listC, m_tupR, m_tupT, m_fld, m_gF, m_store, m_sF, m_addF, m_dF, m_isI, m_iI, m_getL, m_oL, m_isL, m_recv, m_walk, m_stays, m_truR, m_tOl, m_newL, m_alloc, m_len, m_lOl, m_lOd, m_app, m_ext, m_getC, m_ins, m_idx, m_xOl, m_xOd, m_idxT, m_idxC, m_at0, m_storeAt, m_sOd, m_key, m_keyS, m_non, m_nnon, isNon_non, isNon_int, isNon_str, isNon_tup, isNon_ref, m_getX, m_gXe, m_isX, m_iXe, m_at, m_slc, m_slcC, m_slcT, m_slcS, m_cat, m_rep, m_isList, get_set, get_app, ne_len, ne_len0, len_ne, len_ne0, se_2, se_3, se_4, es_2, es_3, es_4, ne_len2, ne_len3, len_ne2, len_ne3, putF, List.lookup, m2]
      refine (births_ok z2 now lag h3 l1).mn ?_
      rintro v h2 ⟨r, M, rfl, lr, hr, hM, lm, k2⟩
      simp [↓v_var, ↓v_lit, ↓v_glo, ↓v_op, ↓v_neg, v_negI, ↓v_not, ↓v_and, ↓v_or, ↓v_isB, ↓v_ch, ↓v_one, ↓v_more, ↓v_call, ↓v_fld, ↓v_meth, ↓v_make, ↓v_bi, ↓v_bm, ↓v_idx, ↓v_slc, ↓v_lst, ↓v_tup, ↓v_dic0, ↓v_xfl, ↓v_xis, ↓v_nil, ↓v_cons, ↓v_no, ↓v_so, ↓v_oneN, ↓v_oneI, ↓v_of, ↓v_rng1, ↓v_rng2, ↓v_rng3, ↓v_walkT, ↓v_walkC, ↓v_walkS, ↓v_enum, ↓v_zip, ↓v_rev, ↓v_lof, ↓v_tst, ↓v_truB, ↓v_run, ↓s_set, ↓s_setI, ↓s_setF, ↓s_incF, ↓s_ret, ↓s_retN, ↓s_expr, ↓s_pass, ↓s_bad, ↓s_ite, ↓s_for, ↓s_while, ↓s_rai, ↓s_try, ↓s_nil, ↓s_cons, ↓s_hnil, ↓s_hcons, ↓s_setNm, ↓s_setTp, ↓s_memS, w_ok, w_ex, w_bad, w_bind, w_calm, w_st, w_nx, w_rt, w_xe, w_bd, w_then, w_catch, w_gone, w_fn, w_if, w_ifS, -List.append_assoc, getVar, List.getElem?_cons_zero, List.getElem?_cons_succ, List.getElem?_nil, p_add, p_sub, p_mul, p_mod, p_fdiv, p_pow, p_eq, p_ne, p_lt, p_le, p_gt, p_ge, p_isInt, p_isBool, p_min, p_max, p_lenC, p_lenT, p_isB, p_asg_nm, p_asg_tp, p_asgs_nil, p_asgs_nm, raiX, LIM, m_shr, m_shl1, m_int, m_intB, m_list, m_listT, m_listC, m_tupR, m_tupT, m_fld, m_gF, m_store, m_sF, m_addF, m_dF, m_isI, m_iI, m_getL, m_oL, m_isL, m_recv, m_walk, m_stays, m_truR, m_tOl, m_newL, m_alloc, m_len, m_lOl, m_lOd, m_app, m_ext, m_getC, m_ins, m_idx, m_xOl, m_xOd, m_idxT, m_idxC, m_at0, m_storeAt, m_sOd, m_key, m_keyS, m_non, m_nnon, isNon_non, isNon_int, isNon_str, isNon_tup, isNon_ref, m_getX, m_gXe, m_isX, m_iXe, m_at, m_slc, m_slcC, m_slcT, m_slcS, m_cat, m_rep, m_isList, get_set, get_app, ne_len, ne_len0, len_ne, len_ne0, se_2, se_3, se_4, es_2, es_3, es_4, ne_len2, ne_len3, len_ne2, len_ne3, putF, List.lookup]
      exact ⟨q, r, L, M, rfl, lq, by have := k3.len; omega, k2.at hq (by simp), hr, ⟨hL, by omega⟩, ⟨hM, by omega⟩, k3.trans k2 (by simp)⟩
    simp [↓v_var, ↓v_lit, ↓v_glo, ↓v_op, ↓v_neg, v_negI, ↓v_not, ↓v_and, ↓v_or, ↓v_isB, ↓v_ch, ↓v_one, ↓v_more, ↓v_call, ↓v_fld, ↓v_meth, ↓v_make, ↓v_bi, ↓v_bm, ↓v_idx, ↓v_slc, ↓v_lst, ↓v_tup, ↓v_dic0, ↓v_xfl, ↓v_xis, ↓v_nil, ↓v_cons, ↓v_no, ↓v_so, ↓v_oneN, ↓v_oneI, ↓v_of, ↓v_rng1, ↓v_rng2, ↓v_rng3, ↓v_walkT, ↓v_walkC, ↓v_walkS, ↓v_enum, ↓v_zip, ↓v_rev, ↓v_lof, ↓v_tst, ↓v_truB, ↓v_run, ↓s_set, ↓s_setI, ↓s_setF, ↓s_incF, ↓s_ret, ↓s_retN, ↓s_expr, ↓s_pass, ↓s_bad, ↓s_ite, ↓s_for, ↓s_while, ↓s_rai, ↓s_try, ↓s_nil, ↓s_cons, ↓s_hnil, ↓s_hcons, ↓s_setNm, ↓s_setTp, ↓s_memS, w_ok, w_ex, w_bad, w_bind, w_calm, w_st, w_nx, w_rt, w_xe, w_bd, w_then, w_catch, w_gone, w_fn, w_if, w_ifS, -List.append_assoc, getVar, List.getElem?_cons_zero, List.getElem?_cons_succ, List.getElem?_nil, p_add, p_sub, p_mul, p_mod, p_fdiv, p_pow, p_eq, p_ne, p_lt, p_le, p_gt, p_ge, p_isInt, p_isBool, p_min, p_max, p_lenC, p_lenT, p_isB, p_asg_nm, p_asg_tp, p_asgs_nil, p_asgs_nm, raiX, LIM, m_shr, m_shl1, m_int, m_intB, m_list, m_listT, m_listC, m_tupR, m_tupT, m_fld, m_gF, m_store, m_sF, m_addF, m_dF, m_isI, m_iI, m_getL, m_oL, m_isL, m_recv, m_walk, m_stays, m_truR, m_tOl, m_newL, m_alloc, m_len, m_lOl, m_lOd, m_app, m_ext, m_getC, m_ins, m_idx, m_xOl, m_xOd, m_idxT, m_idxC, m_at0, m_storeAt, m_sOd, m_key, m_keyS, m_non, m_nnon, isNon_non, isNon_int, isNon_str, isNon_tup, isNon_ref, m_getX, m_gXe, m_isX, m_iXe, m_at, m_slc, m_slcC, m_slcT, m_slcS, m_cat, m_rep, m_isList, get_set, get_app, ne_len, ne_len0, len_ne, len_ne0, se_2, se_3, se_4, es_2, es_3, es_4, ne_len2, ne_len3, len_ne2, len_ne3, putF, List.lookup, hq, ints_len, show L.length + L.length ≤ 100000 by omega]
    refine ⟨fun c1 => ?_, fun c1 => ?_⟩
    · rw [ints_app]
      refine (tail h1.length (L ++ L) _ (fun b hb => (List.mem_append.mp hb).elim (hL b) (hL b)) (by simp; omega) k1.len at_new (keeps_app k1)).rt fun _ _ z => z
    · exact (tail q L h1 hL (by omega) lq hq k1).rt fun _ _ z => z
/-! ### the law's own reckoning -/
theorem ring_ok (c rm lg : Int) (r0 : 1 ≤ rm ∧ rm ≤ 60) (l0 : 1 ≤ lg ∧ lg ≤ 60) : ∃ z : Int, ((if rm = 1 then 2 + lg / 2 else 2 * rm + lg - 1) ≤ z ∧ z ≤ 1000000) ∧ ∀ h : Mem, r__law_ring [.int c, .int rm, .int lg] h = .ok (.int z) h := by
  have m1 : mulOk 2 rm = true := mul_l (by omega) (by omega)
  have m2 : mulOk 2 1 = true := mul_l (by omega) (by omega)
  have hl : ∃ t : Int, t = (if rm = 1 then 2 + lg / 2 else 2 * rm + lg - 1) := ⟨_, rfl⟩
  obtain ⟨t, ht⟩ := hl
  have ht2 : 2 ≤ t ∧ t ≤ 200 := by
    rw [ht]
    split <;> omega
  rw [← ht]
  have a1 := Int.emod_nonneg (c / 4) (b := 1000001 - t) (by omega)
  have a2 := Int.emod_lt_of_pos (c / 4) (b := 1000001 - t) (by omega)
  have t1 : t < 1000001 := by omega
  by_cases q : c % 4 = 0
  · refine ⟨t + c / 4 % 8, by omega, fun h => ?_⟩
    by_cases e : rm = 1
    · rw [if_pos e] at ht
      simp [r__law_ring, f__law_ring, run, xss, xs, ev, evs, evc, evo, evi, tst, getVar, fnOf, p_add, p_sub, p_mul, p_mod, p_fdiv, p_pow, p_eq, p_ne, p_lt, p_le, p_gt, p_ge, p_isInt, p_isBool, p_min, p_max, p_lenC, p_lenT, p_tru_bl, p_isB, p_asg_nm, p_asg_tp, p_asgM_nm, p_asgM_tp, p_asgs_nil, p_asgs_nm, xhs, raiX, q, m1, m2, e, ← ht]
    · rw [if_neg e] at ht
      simp [r__law_ring, f__law_ring, run, xss, xs, ev, evs, evc, evo, evi, tst, getVar, fnOf, p_add, p_sub, p_mul, p_mod, p_fdiv, p_pow, p_eq, p_ne, p_lt, p_le, p_gt, p_ge, p_isInt, p_isBool, p_min, p_max, p_lenC, p_lenT, p_tru_bl, p_isB, p_asg_nm, p_asg_tp, p_asgM_nm, p_asgM_tp, p_asgs_nil, p_asgs_nm, xhs, raiX, q, m1, m2, e, ← ht]
  · by_cases q2 : c % 4 = 1
    · refine ⟨t + c / 4 % (1000001 - t), by omega, fun h => ?_⟩
      by_cases e : rm = 1
      · rw [if_pos e] at ht
        simp [r__law_ring, f__law_ring, run, xss, xs, ev, evs, evc, evo, evi, tst, getVar, fnOf, p_add, p_sub, p_mul, p_mod, p_fdiv, p_pow, p_eq, p_ne, p_lt, p_le, p_gt, p_ge, p_isInt, p_isBool, p_min, p_max, p_lenC, p_lenT, p_tru_bl, p_isB, p_asg_nm, p_asg_tp, p_asgM_nm, p_asgM_tp, p_asgs_nil, p_asgs_nm, xhs, raiX, q2, m1, m2, e, ← ht, t1]
      · rw [if_neg e] at ht
        simp [r__law_ring, f__law_ring, run, xss, xs, ev, evs, evc, evo, evi, tst, getVar, fnOf, p_add, p_sub, p_mul, p_mod, p_fdiv, p_pow, p_eq, p_ne, p_lt, p_le, p_gt, p_ge, p_isInt, p_isBool, p_min, p_max, p_lenC, p_lenT, p_tru_bl, p_isB, p_asg_nm, p_asg_tp, p_asgM_nm, p_asgM_tp, p_asgs_nil, p_asgs_nm, xhs, raiX, q2, m1, m2, e, ← ht, t1]
    · refine ⟨t, by omega, fun h => ?_⟩
      by_cases e : rm = 1
      · rw [if_pos e] at ht
        simp [r__law_ring, f__law_ring, run, xss, xs, ev, evs, evc, evo, evi, tst, getVar, fnOf, p_add, p_sub, p_mul, p_mod, p_fdiv, p_pow, p_eq, p_ne, p_lt, p_le, p_gt, p_ge, p_isInt, p_isBool, p_min, p_max, p_lenC, p_lenT, p_tru_bl, p_isB, p_asg_nm, p_asg_tp, p_asgM_nm, p_asgM_tp, p_asgs_nil, p_asgs_nm, xhs, raiX, q, q2, m1, m2, e, ← ht]
      · rw [if_neg e] at ht
        simp [r__law_ring, f__law_ring, run, xss, xs, ev, evs, evc, evo, evi, tst, getVar, fnOf, p_add, p_sub, p_mul, p_mod, p_fdiv, p_pow, p_eq, p_ne, p_lt, p_le, p_gt, p_ge, p_isInt, p_isBool, p_min, p_max, p_lenC, p_lenT, p_tru_bl, p_isB, p_asg_nm, p_asg_tp, p_asgM_nm, p_asgM_tp, p_asgs_nil, p_asgs_nm, xhs, raiX, q, q2, m1, m2, e, ← ht]
theorem ints_of : ∀ ns : List Int, intsOf (intsW ns) = some ns
  | [] => rfl
  | n :: r => by
    have := ints_of r
    show (intsOf (intsW r)).map (n :: ·) = _
    rw [this]
    rfl
theorem p_maxI {h : Mem} {a : Nat} {x : Int} {r : List Int} (e : h[a]? = some (.lst (intsW (x :: r)))) : biS .max [.ref a] h = .ok (.int (maxL x r)) h := by
  have g : getL h (.ref a) = some (intsW (x :: r)) := by
    simp [getL, e]
  show (match getL h (.ref a) with
      | some xs => match intsOf xs with
        | some (x :: r) => R.ok (W.int (maxL x r)) h
        | _ => .bad
      | none => .bad) = _
  rw [g]
  show (match intsOf (intsW (x :: r)) with
        | some (x :: r) => R.ok (W.int (maxL x r)) h
        | _ => .bad) = _
  rw [ints_of]
theorem maxL_mxs {G : Nat → Int} : ∀ (M : List Int) (b : Int), maxL b (M.map fun k => G k.toNat) = mxs G M b
  | [], _ => rfl
  | k :: r, b => by
    show maxL (if G k.toNat > b then G k.toNat else b) (r.map fun k => G k.toNat) = mxs G r (max b (G k.toNat))
    rw [maxL_mxs r, show (if G k.toNat > b then G k.toNat else b) = max b (G k.toNat) by omega]
theorem file_got (s : PS) (k : Int) : s.got ≤ (s.file k).got := by
  unfold PS.file
  split
  · omega
  · exact adv_le
theorem HI.bbl {s : PS} {n : Nat} {G B T : Nat → Int} (hi : HI s n G B T) (M : List Int) (hM : ∀ k ∈ M, 0 ≤ k ∧ k < n ∧ n - k ≤ s.lag) : s.base ≤ s.bb M ∧ s.bb M ≤ s.got := by
  rw [hi.bb M hM]
  refine mxs_le M s.base hi.od.2.1 fun k hk => ?_
  obtain ⟨k0, k1, k2⟩ := hM k hk
  obtain ⟨c1, c2, c3⟩ := hi.cu (by omega)
  have := (hi.up k.toNat (n - 1) (by omega) (by omega)).2.1
  omega
/-! ### one turn -/
structure LI (h : Mem) (p fd sd tl f2 s2 t2 : Nat) (kv : List (W × W)) (s : PS) (n : Nat) (G B T : Nat → Int) : Prop where
  x : PAt h p fd sd tl s
  f : h[f2]? = some (.dic kv)
  e : h[s2]? = some (.lst s.sent)
  t : h[t2]? = some (.lst (intsW ((List.range n).map G)))
  di : Dis [p, fd, sd, tl, f2, s2, t2]
  a : ∀ j, hasI kv j = hasI s.fil j
  kl : kv.length ≤ 300 * n
  fl : s.fil.length ≤ 300 * n
  sl : n < 200
  rm : s.room ≤ 60
  t9 : s.top ≤ n
  hi : HI s n G B T
theorem LI.kp {h h' : Mem} {p fd sd tl f2 s2 t2 : Nat} {kv : List (W × W)} {s : PS} {n : Nat} {G B T : Nat → Int} (l : LI h p fd sd tl f2 s2 t2 kv s n G B T) (k : Kp [] h h') : LI h' p fd sd tl f2 s2 t2 kv s n G B T :=
  { l with x := l.x.kp k (by simp) (by simp) (by simp) (by simp), f := k.at l.f (by simp), e := k.at l.e (by simp), t := k.at l.t (by simp) }
def came (s : PS) (k : Int) : Bool := match s.sent[k.toNat]? with
  | some (.int _) => true
  | _ => false
structure FI (h2 : Mem) (ca f2 : Nat) (s : PS) (C : List Int) (m k : Nat) (h' : Mem) : Prop where
  kk : Kp [ca + 1, f2] h2 h'
  hd : h'[ca + 1]? = some (.lst (s.places (C.take k)))
  ex : ∃ kv', h'[f2]? = some (.dic kv') ∧ (∀ j, hasI kv' j = hasI (s.files (C.take k)).fil j) ∧ kv'.length ≤ m + k
theorem turn_ok {h : Mem} {p fd sd tl f2 s2 t2 : Nat} {kv : List (W × W)} {s : PS} {n : Nat} {G B T : Nat → Int} (li : LI h p fd sd tl f2 s2 t2 kv s n G B T) (c : Int) (e0 e11 e12 e13 e14 e15 e16 e17 : Option W) (sl : n < 190) :
    (xss t_law l_law_8 [e0, some (.int s.room), some (.int s.lag), some (.ref p), some (.int s.base), some (.int s.top), some (.int s.got), some (.ref f2), some (.ref s2), some (.ref t2), some (.int c), e11, e12, e13, e14, e15, e16, e17] h).wp (p := ⟨(fun env' h' => Kp [p, fd, sd, tl, f2, s2, t2] h h' ∧ ∃ s' kv' G' B' T', LI h' p fd sd tl f2 s2 t2 kv' s' (n + 1) G' B' T' ∧ s'.room = s.room ∧ s'.lag = s.lag ∧ ∃ e12 e13 e14 e15 e16 e17, env' = [e0, some (.int s.room), some (.int s.lag), some (.ref p), some (.int s'.base), some (.int s'.top), some (.int s'.got), some (.ref f2), some (.ref s2), some (.ref t2), some (.int c), e11, e12, e13, e14, e15, e16, e17]), (fun _ _ => False), (fun _ _ _ => False)⟩) := by
  have hi := li.hi
  have nl := hi.nl
  have r0 : 0 < s.ring := by have := hi.rr; have := hi.rm; omega
  simp [l_law_8, ↓v_var, ↓v_lit, ↓v_glo, ↓v_op, ↓v_neg, v_negI, ↓v_not, ↓v_and, ↓v_or, ↓v_isB, ↓v_ch, ↓v_one, ↓v_more, ↓v_call, ↓v_fld, ↓v_meth, ↓v_make, ↓v_bi, ↓v_bm, ↓v_idx, ↓v_slc, ↓v_lst, ↓v_tup, ↓v_dic0, ↓v_xfl, ↓v_xis, ↓v_nil, ↓v_cons, ↓v_no, ↓v_so, ↓v_oneN, ↓v_oneI, ↓v_of, ↓v_rng1, ↓v_rng2, ↓v_rng3, ↓v_walkT, ↓v_walkC, ↓v_walkS, ↓v_enum, ↓v_zip, ↓v_rev, ↓v_lof, ↓v_tst, ↓v_truB, ↓v_run, ↓s_set, ↓s_setI, ↓s_setF, ↓s_incF, ↓s_ret, ↓s_retN, ↓s_expr, ↓s_pass, ↓s_bad, ↓s_ite, ↓s_for, ↓s_while, ↓s_rai, ↓s_try, ↓s_nil, ↓s_cons, ↓s_hnil, ↓s_hcons, ↓s_setNm, ↓s_setTp, ↓s_memS, w_ok, w_ex, w_bad, w_bind, w_calm, w_st, w_nx, w_rt, w_xe, w_bd, w_then, w_catch, w_gone, w_fn, w_if, w_ifS, -List.append_assoc, getVar, List.getElem?_cons_zero, List.getElem?_cons_succ, List.getElem?_nil, p_add, p_sub, p_mul, p_mod, p_fdiv, p_pow, p_eq, p_ne, p_lt, p_le, p_gt, p_ge, p_isInt, p_isBool, p_min, p_max, p_lenC, p_lenT, p_isB, p_asg_nm, p_asg_tp, p_asgs_nil, p_asgs_nm, raiX, LIM, m_shr, m_shl1, m_int, m_intB, m_list, m_listT, m_listC, m_tupR, m_tupT, m_fld, m_gF, m_store, m_sF, m_addF, m_dF, m_isI, m_iI, m_getL, m_oL, m_isL, m_recv, m_walk, m_stays, m_truR, m_tOl, m_newL, m_alloc, m_len, m_lOl, m_lOd, m_app, m_ext, m_getC, m_ins, m_idx, m_xOl, m_xOd, m_idxT, m_idxC, m_at0, m_storeAt, m_sOd, m_key, m_keyS, m_non, m_nnon, isNon_non, isNon_int, isNon_str, isNon_tup, isNon_ref, m_getX, m_gXe, m_isX, m_iXe, m_at, m_slc, m_slcC, m_slcT, m_slcS, m_cat, m_rep, m_isList, get_set, get_app, ne_len, ne_len0, len_ne, len_ne0, se_2, se_3, se_4, es_2, es_3, es_4, ne_len2, ne_len3, len_ne2, len_ne3, putF, List.lookup, li.e]
  refine (drawn_ok c s.sent.length s.lag h hi.lg (by omega)).mn ?_
  rintro v h1 ⟨q, r, L, M, rfl, lq, lr, hq, hr, hL, hM, k1⟩
  have l1 := li.kp k1
  simp [↓v_var, ↓v_lit, ↓v_glo, ↓v_op, ↓v_neg, v_negI, ↓v_not, ↓v_and, ↓v_or, ↓v_isB, ↓v_ch, ↓v_one, ↓v_more, ↓v_call, ↓v_fld, ↓v_meth, ↓v_make, ↓v_bi, ↓v_bm, ↓v_idx, ↓v_slc, ↓v_lst, ↓v_tup, ↓v_dic0, ↓v_xfl, ↓v_xis, ↓v_nil, ↓v_cons, ↓v_no, ↓v_so, ↓v_oneN, ↓v_oneI, ↓v_of, ↓v_rng1, ↓v_rng2, ↓v_rng3, ↓v_walkT, ↓v_walkC, ↓v_walkS, ↓v_enum, ↓v_zip, ↓v_rev, ↓v_lof, ↓v_tst, ↓v_truB, ↓v_run, ↓s_set, ↓s_setI, ↓s_setF, ↓s_incF, ↓s_ret, ↓s_retN, ↓s_expr, ↓s_pass, ↓s_bad, ↓s_ite, ↓s_for, ↓s_while, ↓s_rai, ↓s_try, ↓s_nil, ↓s_cons, ↓s_hnil, ↓s_hcons, ↓s_setNm, ↓s_setTp, ↓s_memS, w_ok, w_ex, w_bad, w_bind, w_calm, w_st, w_nx, w_rt, w_xe, w_bd, w_then, w_catch, w_gone, w_fn, w_if, w_ifS, -List.append_assoc, getVar, List.getElem?_cons_zero, List.getElem?_cons_succ, List.getElem?_nil, p_add, p_sub, p_mul, p_mod, p_fdiv, p_pow, p_eq, p_ne, p_lt, p_le, p_gt, p_ge, p_isInt, p_isBool, p_min, p_max, p_lenC, p_lenT, p_isB, p_asg_nm, p_asg_tp, p_asgs_nil, p_asgs_nm, raiX, LIM, m_shr, m_shl1, m_int, m_intB, m_list, m_listT, m_listC, m_tupR, m_tupT, m_fld, m_gF, m_store, m_sF, m_addF, m_dF, m_isI, m_iI, m_getL, m_oL, m_isL, m_recv, m_walk, m_stays, m_truR, m_tOl, m_newL, m_alloc, m_len, m_lOl, m_lOd, m_app, m_ext, m_getC, m_ins, m_idx, m_xOl, m_xOd, m_idxT, m_idxC, m_at0, m_storeAt, m_sOd, m_key, m_keyS, m_non, m_nnon, isNon_non, isNon_int, isNon_str, isNon_tup, isNon_ref, m_getX, m_gXe, m_isX, m_iXe, m_at, m_slc, m_slcC, m_slcT, m_slcS, m_cat, m_rep, m_isList, get_set, get_app, ne_len, ne_len0, len_ne, len_ne0, se_2, se_3, se_4, es_2, es_3, es_4, ne_len2, ne_len3, len_ne2, len_ne3, putF, List.lookup]
  refine w_fil (fun w => match w with | .int k => came s k | _ => false) id ?_
  simp only [↓v_var, ↓v_lit, ↓v_glo, ↓v_op, ↓v_neg, v_negI, ↓v_not, ↓v_and, ↓v_or, ↓v_isB, ↓v_ch, ↓v_one, ↓v_more, ↓v_call, ↓v_fld, ↓v_meth, ↓v_make, ↓v_bi, ↓v_bm, ↓v_idx, ↓v_slc, ↓v_lst, ↓v_tup, ↓v_dic0, ↓v_xfl, ↓v_xis, ↓v_nil, ↓v_cons, ↓v_no, ↓v_so, ↓v_oneN, ↓v_oneI, ↓v_of, ↓v_rng1, ↓v_rng2, ↓v_rng3, ↓v_walkT, ↓v_walkC, ↓v_walkS, ↓v_enum, ↓v_zip, ↓v_rev, ↓v_lof, ↓v_tst, ↓v_truB, ↓v_run, ↓s_set, ↓s_setI, ↓s_setF, ↓s_incF, ↓s_ret, ↓s_retN, ↓s_expr, ↓s_pass, ↓s_bad, ↓s_ite, ↓s_for, ↓s_while, ↓s_rai, ↓s_try, ↓s_nil, ↓s_cons, ↓s_hnil, ↓s_hcons, ↓s_setNm, ↓s_setTp, ↓s_memS, w_ok, w_ex, w_bad, w_bind, w_calm, w_st, w_nx, w_rt, w_xe, w_bd, w_then, w_catch, w_gone, w_fn, w_if, w_ifS, -List.append_assoc, getVar, List.getElem?_cons_zero, List.getElem?_cons_succ, List.getElem?_nil, p_add, p_sub, p_mul, p_mod, p_fdiv, p_pow, p_eq, p_ne, p_lt, p_le, p_gt, p_ge, p_isInt, p_isBool, p_min, p_max, p_lenC, p_lenT, p_isB, p_asg_nm, p_asg_tp, p_asgs_nil, p_asgs_nm, raiX, v_walkR hq]
  refine ⟨by rw [ints_len]; have := hL.2; unfold LIM; omega, p_stays hq, fun x hx => ?_, ?_⟩
  · obtain ⟨k, hk, rfl⟩ := List.mem_map.mp hx
    obtain ⟨k0, k1, k2⟩ := hL.1 k hk
    obtain ⟨o, a1, a2⟩ := ni_at hi.hs k0 k1
    refine ⟨_, p_asg_nm, ?_, fun _ => ?_⟩
    · cases o <;> simp [c_law_5, ↓v_var, ↓v_lit, ↓v_glo, ↓v_op, ↓v_neg, v_negI, ↓v_not, ↓v_and, ↓v_or, ↓v_isB, ↓v_ch, ↓v_one, ↓v_more, ↓v_call, ↓v_fld, ↓v_meth, ↓v_make, ↓v_bi, ↓v_bm, ↓v_idx, ↓v_slc, ↓v_lst, ↓v_tup, ↓v_dic0, ↓v_xfl, ↓v_xis, ↓v_nil, ↓v_cons, ↓v_no, ↓v_so, ↓v_oneN, ↓v_oneI, ↓v_of, ↓v_rng1, ↓v_rng2, ↓v_rng3, ↓v_walkT, ↓v_walkC, ↓v_walkS, ↓v_enum, ↓v_zip, ↓v_rev, ↓v_lof, ↓v_tst, ↓v_truB, ↓v_run, ↓s_set, ↓s_setI, ↓s_setF, ↓s_incF, ↓s_ret, ↓s_retN, ↓s_expr, ↓s_pass, ↓s_bad, ↓s_ite, ↓s_for, ↓s_while, ↓s_rai, ↓s_try, ↓s_nil, ↓s_cons, ↓s_hnil, ↓s_hcons, ↓s_setNm, ↓s_setTp, ↓s_memS, w_ok, w_ex, w_bad, w_bind, w_calm, w_st, w_nx, w_rt, w_xe, w_bd, w_then, w_catch, w_gone, w_fn, w_if, w_ifS, -List.append_assoc, getVar, List.getElem?_cons_zero, List.getElem?_cons_succ, List.getElem?_nil, p_add, p_sub, p_mul, p_mod, p_fdiv, p_pow, p_eq, p_ne, p_lt, p_le, p_gt, p_ge, p_isInt, p_isBool, p_min, p_max, p_lenC, p_lenT, p_isB, p_asg_nm, p_asg_tp, p_asgs_nil, p_asgs_nm, raiX, LIM, m_shr, m_shl1, m_int, m_intB, m_list, m_listT, m_listC, m_tupR, m_tupT, m_fld, m_gF, m_store, m_sF, m_addF, m_dF, m_isI, m_iI, m_getL, m_oL, m_isL, m_recv, m_walk, m_stays, m_truR, m_tOl, m_newL, m_alloc, m_len, m_lOl, m_lOd, m_app, m_ext, m_getC, m_ins, m_idx, m_xOl, m_xOd, m_idxT, m_idxC, m_at0, m_storeAt, m_sOd, m_key, m_keyS, m_non, m_nnon, isNon_non, isNon_int, isNon_str, isNon_tup, isNon_ref, m_getX, m_gXe, m_isX, m_iXe, m_at, m_slc, m_slcC, m_slcT, m_slcS, m_cat, m_rep, m_isList, get_set, get_app, ne_len, ne_len0, len_ne, len_ne0, se_2, se_3, se_4, es_2, es_3, es_4, ne_len2, ne_len3, len_ne2, len_ne3, putF, List.lookup, wipe, l1.e, a1, oW, truW, came, a2]
    · simp [c_law_6, ↓v_var, ↓v_lit, ↓v_glo, ↓v_op, ↓v_neg, v_negI, ↓v_not, ↓v_and, ↓v_or, ↓v_isB, ↓v_ch, ↓v_one, ↓v_more, ↓v_call, ↓v_fld, ↓v_meth, ↓v_make, ↓v_bi, ↓v_bm, ↓v_idx, ↓v_slc, ↓v_lst, ↓v_tup, ↓v_dic0, ↓v_xfl, ↓v_xis, ↓v_nil, ↓v_cons, ↓v_no, ↓v_so, ↓v_oneN, ↓v_oneI, ↓v_of, ↓v_rng1, ↓v_rng2, ↓v_rng3, ↓v_walkT, ↓v_walkC, ↓v_walkS, ↓v_enum, ↓v_zip, ↓v_rev, ↓v_lof, ↓v_tst, ↓v_truB, ↓v_run, ↓s_set, ↓s_setI, ↓s_setF, ↓s_incF, ↓s_ret, ↓s_retN, ↓s_expr, ↓s_pass, ↓s_bad, ↓s_ite, ↓s_for, ↓s_while, ↓s_rai, ↓s_try, ↓s_nil, ↓s_cons, ↓s_hnil, ↓s_hcons, ↓s_setNm, ↓s_setTp, ↓s_memS, w_ok, w_ex, w_bad, w_bind, w_calm, w_st, w_nx, w_rt, w_xe, w_bd, w_then, w_catch, w_gone, w_fn, w_if, w_ifS, -List.append_assoc, getVar, List.getElem?_cons_zero, List.getElem?_cons_succ, List.getElem?_nil, p_add, p_sub, p_mul, p_mod, p_fdiv, p_pow, p_eq, p_ne, p_lt, p_le, p_gt, p_ge, p_isInt, p_isBool, p_min, p_max, p_lenC, p_lenT, p_isB, p_asg_nm, p_asg_tp, p_asgs_nil, p_asgs_nm, raiX, LIM, m_shr, m_shl1, m_int, m_intB, m_list, m_listT, m_listC, m_tupR, m_tupT, m_fld, m_gF, m_store, m_sF, m_addF, m_dF, m_isI, m_iI, m_getL, m_oL, m_isL, m_recv, m_walk, m_stays, m_truR, m_tOl, m_newL, m_alloc, m_len, m_lOl, m_lOd, m_app, m_ext, m_getC, m_ins, m_idx, m_xOl, m_xOd, m_idxT, m_idxC, m_at0, m_storeAt, m_sOd, m_key, m_keyS, m_non, m_nnon, isNon_non, isNon_int, isNon_str, isNon_tup, isNon_ref, m_getX, m_gXe, m_isX, m_iXe, m_at, m_slc, m_slcC, m_slcT, m_slcS, m_cat, m_rep, m_isList, get_set, get_app, ne_len, ne_len0, len_ne, len_ne0, se_2, se_3, se_4, es_2, es_3, es_4, ne_len2, ne_len3, len_ne2, len_ne3, putF, List.lookup, wipe]
  have eL : ((intsW L).filter fun w => match w with | .int k => came s k | _ => false).map id = intsW (L.filter (came s)) := by
    unfold intsW
    rw [List.filter_map, List.map_id]
    rfl
  rw [eL]
  have hC : Lags s.sent.length s.lag (L.filter (came s)) := ⟨fun b hb => hL.1 b (List.mem_filter.mp hb).1, Nat.le_trans (List.length_filter_le _ _) hL.2⟩
  have hC2 : ∀ b ∈ L.filter (came s), came s b = true := fun b hb => (List.mem_filter.mp hb).2
  generalize L.filter (came s) = C at *
  have hC3 : ∀ k ∈ C, 0 ≤ k ∧ k < n ∧ n - k ≤ s.lag ∧ ∃ z, s.sent[k.toNat]? = some (.int z) := fun k hk => by
    obtain ⟨k0, k1', k2⟩ := hC.1 k hk
    have cm := hC2 k hk
    unfold came at cm
    refine ⟨k0, by omega, by omega, ?_⟩
    cases q : s.sent[k.toNat]? with
    | none => rw [q] at cm; cases cm
    | some w =>
      rw [q] at cm
      cases w <;> first | exact ⟨_, rfl⟩ | cases cm
  have hM3 : ∀ k ∈ M, 0 ≤ k ∧ k < n ∧ n - k ≤ s.lag := fun k hk => by
    obtain ⟨k0, k1', k2⟩ := hM.1 k hk
    exact ⟨k0, by omega, by omega⟩
  simp [↓v_var, ↓v_lit, ↓v_glo, ↓v_op, ↓v_neg, v_negI, ↓v_not, ↓v_and, ↓v_or, ↓v_isB, ↓v_ch, ↓v_one, ↓v_more, ↓v_call, ↓v_fld, ↓v_meth, ↓v_make, ↓v_bi, ↓v_bm, ↓v_idx, ↓v_slc, ↓v_lst, ↓v_tup, ↓v_dic0, ↓v_xfl, ↓v_xis, ↓v_nil, ↓v_cons, ↓v_no, ↓v_so, ↓v_oneN, ↓v_oneI, ↓v_of, ↓v_rng1, ↓v_rng2, ↓v_rng3, ↓v_walkT, ↓v_walkC, ↓v_walkS, ↓v_enum, ↓v_zip, ↓v_rev, ↓v_lof, ↓v_tst, ↓v_truB, ↓v_run, ↓s_set, ↓s_setI, ↓s_setF, ↓s_incF, ↓s_ret, ↓s_retN, ↓s_expr, ↓s_pass, ↓s_bad, ↓s_ite, ↓s_for, ↓s_while, ↓s_rai, ↓s_try, ↓s_nil, ↓s_cons, ↓s_hnil, ↓s_hcons, ↓s_setNm, ↓s_setTp, ↓s_memS, w_ok, w_ex, w_bad, w_bind, w_calm, w_st, w_nx, w_rt, w_xe, w_bd, w_then, w_catch, w_gone, w_fn, w_if, w_ifS, -List.append_assoc, getVar, List.getElem?_cons_zero, List.getElem?_cons_succ, List.getElem?_nil, p_add, p_sub, p_mul, p_mod, p_fdiv, p_pow, p_eq, p_ne, p_lt, p_le, p_gt, p_ge, p_isInt, p_isBool, p_min, p_max, p_lenC, p_lenT, p_isB, p_asg_nm, p_asg_tp, p_asgs_nil, p_asgs_nm, raiX, LIM, m_shr, m_shl1, m_int, m_intB, m_list, m_listT, m_listC, m_tupR, m_tupT, m_fld, m_gF, m_store, m_sF, m_addF, m_dF, m_isI, m_iI, m_getL, m_oL, m_isL, m_recv, m_walk, m_stays, m_truR, m_tOl, m_newL, m_alloc, m_len, m_lOl, m_lOd, m_app, m_ext, m_getC, m_ins, m_idx, m_xOl, m_xOd, m_idxT, m_idxC, m_at0, m_storeAt, m_sOd, m_key, m_keyS, m_non, m_nnon, isNon_non, isNon_int, isNon_str, isNon_tup, isNon_ref, m_getX, m_gXe, m_isX, m_iXe, m_at, m_slc, m_slcC, m_slcT, m_slcS, m_cat, m_rep, m_isList, get_set, get_app, ne_len, ne_len0, len_ne, len_ne0, se_2, se_3, se_4, es_2, es_3, es_4, ne_len2, ne_len3, len_ne2, len_ne3, putF, List.lookup]
  have cA : (h1 ++ [Ob.lst (intsW C)] ++ [Ob.lst []])[h1.length]? = some (.lst (intsW C)) := at_app at_new
  have dA : (h1 ++ [Ob.lst (intsW C)] ++ [Ob.lst []])[h1.length + 1]? = some (.lst []) := by
    have := at_new (h := h1 ++ [Ob.lst (intsW C)]) (o := .lst [])
    simpa [-List.append_assoc] using this
  have rA : (h1 ++ [Ob.lst (intsW C)] ++ [Ob.lst []])[r]? = some (.lst (intsW M)) := at_app (at_app hr)
  have l2 := l1.kp (h' := h1 ++ [Ob.lst (intsW C)] ++ [Ob.lst []]) (by repeat' first | exact Kp.rfl | assumption | refine keeps_app ?_ | refine keeps_set ?_ (by simp [*]))
  have kA : Kp [] h (h1 ++ [Ob.lst (intsW C)] ++ [Ob.lst []]) := by repeat' first | exact Kp.rfl | assumption | refine keeps_app ?_ | refine keeps_set ?_ (by simp [*])
  have ldA : h.length ≤ h1.length := k1.len
  have lrc : r < h1.length := at_lt hr
  generalize h1 ++ [Ob.lst (intsW C)] ++ [Ob.lst []] = h2 at *
  have fr : ∀ z : Nat, h.length ≤ z → z ∉ [p, fd, sd, tl, f2, s2, t2] := fun z hz => by
    have := at_lt li.x.f
    have := at_lt li.x.d
    have := at_lt li.x.e
    have := at_lt li.x.l
    have := at_lt li.f
    have := at_lt li.e
    have := at_lt li.t
    simp
    omega
  generalize h1.length = ca at *
  have nd := li.di
  simp [Dis] at nd
  rw [v_walkR cA]
  refine w_for0 (fun k env' h' => (∃ e15 e16, env' = [e0, some (.int s.room), some (.int s.lag), some (.ref p), some (.int s.base), some (.int s.top), some (.int (s.files (C.take k)).got), some (.ref f2), some (.ref s2), some (.ref t2), some (.int c), e11, some (.int s.sent.length), some (.ref ca), some (.ref (ca + 1)), e15, e16, some (.ref r)]) ∧ FI h2 ca f2 s C kv.length k h') ⟨⟨_, _, rfl⟩, Kp.rfl, dA, kv, l2.f, l2.a, Nat.le_refl _⟩ ?_ ?_ ?_
  · rintro i env' h' ⟨-, kk, -, -⟩
    exact p_stays (kk.at cA (by simp; exact fun z => fr ca ldA (by simp [z])))
  · rintro i x env' h' hx ⟨⟨e15, e16, rfl⟩, ⟨kk, hd, kv', hf, hh, hkl⟩⟩
    obtain ⟨k, hk, rfl⟩ := ints_get hx
    have km := List.mem_of_getElem? hk
    obtain ⟨k0, k1', k2, z, hz⟩ := hC3 k km
    have a1 : atW s.sent k = some (.int z) := by rw [m_at k0, hz]
    have e' := kk.at l2.e (by simp [nd]; exact fun z => fr _ (Nat.le_succ_of_le ldA) (by simp [z]))
    refine ⟨_, p_asg_nm, ?_⟩
    have il : i < C.length := (List.getElem?_eq_some_iff.mp hk).1
    have hcl := hC.2
    have hkl2 := li.kl
    have md := hi.files (C.take i) s hi.mid fun k hk => hC3 k (List.mem_of_mem_take hk)
    obtain ⟨md2, epl, efil⟩ := hi.one md k z k0 k1' k2 hz
    have snoc : C.take (i + 1) = C.take i ++ [k] := by rw [List.take_add_one, hk]; rfl
    have npA : ¬ f2 = ca + 1 := fun z => fr (ca + 1) (Nat.le_succ_of_le ldA) (by simp [z])
    have npA' : ¬ ca + 1 = f2 := Ne.symm npA
    have pl : (s.places (C.take i)).length < 100000 := by
      rw [places_len]
      have : (C.take i).length ≤ C.length := List.length_take_le' _ _
      omega
    have gg := file_got (s.files (C.take i)) k
    have tail : ∀ (h3 : Mem), h3 = h'.set (ca + 1) (.lst (s.places (C.take i) ++ [(s.files (C.take i)).place k])) → (xss t_law b_law_L2_1 [e0, some (.int s.room), some (.int s.lag), some (.ref p), some (.int s.base), some (.int s.top), some (.int (s.files (C.take i)).got), some (.ref f2), some (.ref s2), some (.ref t2), some (.int c), e11, some (.int s.sent.length), some (.ref ca), some (.ref (ca + 1)), some (.int k), e16, some (.ref r)] h3).wp (p := ⟨(fun env' h' => (∃ e15 e16, env' = [e0, some (.int s.room), some (.int s.lag), some (.ref p), some (.int s.base), some (.int s.top), some (.int (s.files (C.take (i + 1))).got), some (.ref f2), some (.ref s2), some (.ref t2), some (.int c), e11, some (.int s.sent.length), some (.ref ca), some (.ref (ca + 1)), e15, e16, some (.ref r)]) ∧ FI h2 ca f2 s C kv.length (i + 1) h'), (fun _ _ => False), (fun _ _ _ => False)⟩) := by
      rintro h3 rfl
      have e3 := at_set_ne (p := Ob.lst (s.places (C.take i) ++ [(s.files (C.take i)).place k])) (show ¬ ca + 1 = s2 from fun z => fr _ (Nat.le_succ_of_le ldA) (by simp [z])) e'
      have f3 := at_set_ne (p := Ob.lst (s.places (C.take i) ++ [(s.files (C.take i)).place k])) npA' hf
      have d3 := at_set (p := Ob.lst (s.places (C.take i) ++ [(s.files (C.take i)).place k])) hd
      have k3 : Kp [ca + 1, f2] h2 (h'.set (ca + 1) (.lst (s.places (C.take i) ++ [(s.files (C.take i)).place k]))) := keeps_set kk (by simp)
      generalize h'.set (ca + 1) (.lst (s.places (C.take i) ++ [(s.files (C.take i)).place k])) = h3 at *
      simp [b_law_L2_1, ↓v_var, ↓v_lit, ↓v_glo, ↓v_op, ↓v_neg, v_negI, ↓v_not, ↓v_and, ↓v_or, ↓v_isB, ↓v_ch, ↓v_one, ↓v_more, ↓v_call, ↓v_fld, ↓v_meth, ↓v_make, ↓v_bi, ↓v_bm, ↓v_idx, ↓v_slc, ↓v_lst, ↓v_tup, ↓v_dic0, ↓v_xfl, ↓v_xis, ↓v_nil, ↓v_cons, ↓v_no, ↓v_so, ↓v_oneN, ↓v_oneI, ↓v_of, ↓v_rng1, ↓v_rng2, ↓v_rng3, ↓v_walkT, ↓v_walkC, ↓v_walkS, ↓v_enum, ↓v_zip, ↓v_rev, ↓v_lof, ↓v_tst, ↓v_truB, ↓v_run, ↓s_set, ↓s_setI, ↓s_setF, ↓s_incF, ↓s_ret, ↓s_retN, ↓s_expr, ↓s_pass, ↓s_bad, ↓s_ite, ↓s_for, ↓s_while, ↓s_rai, ↓s_try, ↓s_nil, ↓s_cons, ↓s_hnil, ↓s_hcons, ↓s_setNm, ↓s_setTp, ↓s_memS, w_ok, w_ex, w_bad, w_bind, w_calm, w_st, w_nx, w_rt, w_xe, w_bd, w_then, w_catch, w_gone, w_fn, w_if, w_ifS, -List.append_assoc, getVar, List.getElem?_cons_zero, List.getElem?_cons_succ, List.getElem?_nil, p_add, p_sub, p_mul, p_mod, p_fdiv, p_pow, p_eq, p_ne, p_lt, p_le, p_gt, p_ge, p_isInt, p_isBool, p_min, p_max, p_lenC, p_lenT, p_isB, p_asg_nm, p_asg_tp, p_asgs_nil, p_asgs_nm, raiX, LIM, m_shr, m_shl1, m_int, m_intB, m_list, m_listT, m_listC, m_tupR, m_tupT, m_fld, m_gF, m_store, m_sF, m_addF, m_dF, m_isI, m_iI, m_getL, m_oL, m_isL, m_recv, m_walk, m_stays, m_truR, m_tOl, m_newL, m_alloc, m_len, m_lOl, m_lOd, m_app, m_ext, m_getC, m_ins, m_idx, m_xOl, m_xOd, m_idxT, m_idxC, m_at0, m_storeAt, m_sOd, m_key, m_keyS, m_non, m_nnon, isNon_non, isNon_int, isNon_str, isNon_tup, isNon_ref, m_getX, m_gXe, m_isX, m_iXe, m_at, m_slc, m_slcC, m_slcT, m_slcS, m_cat, m_rep, m_isList, get_set, get_app, ne_len, ne_len0, len_ne, len_ne0, se_2, se_3, se_4, es_2, es_3, es_4, ne_len2, ne_len3, len_ne2, len_ne3, putF, List.lookup, e3, a1, f3, show kv'.length < 100000 by omega]
      have kq := put_len (kvs := kv') (k := .int z) (v := .bl true)
      have hh2 : ∀ j, hasI (putKW kv' (.int z) (.bl true)) j = hasI ((s.files (C.take i)).file k).fil j := fun j => by
        rw [has_put, efil, hh]
      have d4 := at_set_ne (p := Ob.dic (putKW kv' (.int z) (.bl true))) npA d3
      have f4 := at_set (p := Ob.dic (putKW kv' (.int z) (.bl true))) f3
      have k4 : Kp [ca + 1, f2] h2 (h3.set f2 (.dic (putKW kv' (.int z) (.bl true)))) := keeps_set k3 (by simp)
      generalize putKW kv' (.int z) (.bl true) = kw at *
      generalize h3.set f2 (.dic kw) = h4 at *
      have ead : adv kw (s.files (C.take i)).got = ((s.files (C.take i)).file k).got := by
        refine adv_eq gg (fun j a b => ?_) ?_
        · rw [hh2]
          refine md2.f2 j ?_ b
          have := md.g0
          have := hi.od
          omega
        · rw [hh2]
          exact md2.f3
      have c0 := cnt_le (kvs := kw) (g := (s.files (C.take i)).got)
      refine w_while (c := fun env h => tst t_law c_law_2 env h) (I := fun env h' => h' = h4 ∧ ∃ g, adv kw g = adv kw (s.files (C.take i)).got ∧ env = [e0, some (.int s.room), some (.int s.lag), some (.ref p), some (.int s.base), some (.int s.top), some (.int g), some (.ref f2), some (.ref s2), some (.ref t2), some (.int c), e11, some (.int s.sent.length), some (.ref ca), some (.ref (ca + 1)), some (.int k), e16, some (.ref r)]) (m := fun (env : Env) (_ : Mem) => match env[6]? with
        | some (some (W.int z)) => cnt kw z
        | _ => 0) ?_ WL ⟨rfl, _, rfl, rfl⟩ (by simp [WL]; omega)
      rintro env h5 ⟨rfl, g, hg, rfl⟩
      simp [c_law_2, ↓v_var, ↓v_lit, ↓v_glo, ↓v_op, ↓v_neg, v_negI, ↓v_not, ↓v_and, ↓v_or, ↓v_isB, ↓v_ch, ↓v_one, ↓v_more, ↓v_call, ↓v_fld, ↓v_meth, ↓v_make, ↓v_bi, ↓v_bm, ↓v_idx, ↓v_slc, ↓v_lst, ↓v_tup, ↓v_dic0, ↓v_xfl, ↓v_xis, ↓v_nil, ↓v_cons, ↓v_no, ↓v_so, ↓v_oneN, ↓v_oneI, ↓v_of, ↓v_rng1, ↓v_rng2, ↓v_rng3, ↓v_walkT, ↓v_walkC, ↓v_walkS, ↓v_enum, ↓v_zip, ↓v_rev, ↓v_lof, ↓v_tst, ↓v_truB, ↓v_run, ↓s_set, ↓s_setI, ↓s_setF, ↓s_incF, ↓s_ret, ↓s_retN, ↓s_expr, ↓s_pass, ↓s_bad, ↓s_ite, ↓s_for, ↓s_while, ↓s_rai, ↓s_try, ↓s_nil, ↓s_cons, ↓s_hnil, ↓s_hcons, ↓s_setNm, ↓s_setTp, ↓s_memS, w_ok, w_ex, w_bad, w_bind, w_calm, w_st, w_nx, w_rt, w_xe, w_bd, w_then, w_catch, w_gone, w_fn, w_if, w_ifS, -List.append_assoc, getVar, List.getElem?_cons_zero, List.getElem?_cons_succ, List.getElem?_nil, p_add, p_sub, p_mul, p_mod, p_fdiv, p_pow, p_eq, p_ne, p_lt, p_le, p_gt, p_ge, p_isInt, p_isBool, p_min, p_max, p_lenC, p_lenT, p_isB, p_asg_nm, p_asg_tp, p_asgs_nil, p_asgs_nm, raiX, LIM, m_shr, m_shl1, m_int, m_intB, m_list, m_listT, m_listC, m_tupR, m_tupT, m_fld, m_gF, m_store, m_sF, m_addF, m_dF, m_isI, m_iI, m_getL, m_oL, m_isL, m_recv, m_walk, m_stays, m_truR, m_tOl, m_newL, m_alloc, m_len, m_lOl, m_lOd, m_app, m_ext, m_getC, m_ins, m_idx, m_xOl, m_xOd, m_idxT, m_idxC, m_at0, m_storeAt, m_sOd, m_key, m_keyS, m_non, m_nnon, isNon_non, isNon_int, isNon_str, isNon_tup, isNon_ref, m_getX, m_gXe, m_isX, m_iXe, m_at, m_slc, m_slcC, m_slcT, m_slcS, m_cat, m_rep, m_isList, get_set, get_app, ne_len, ne_len0, len_ne, len_ne0, se_2, se_3, se_4, es_2, es_3, es_4, ne_len2, ne_len3, len_ne2, len_ne3, putF, List.lookup, m_in f4]
      cases hx : hasI kw g with
      | true =>
        have hh' : (findK kw (.int g)).isSome = true := hx
        simp [hh', l_law_3, ↓v_var, ↓v_lit, ↓v_glo, ↓v_op, ↓v_neg, v_negI, ↓v_not, ↓v_and, ↓v_or, ↓v_isB, ↓v_ch, ↓v_one, ↓v_more, ↓v_call, ↓v_fld, ↓v_meth, ↓v_make, ↓v_bi, ↓v_bm, ↓v_idx, ↓v_slc, ↓v_lst, ↓v_tup, ↓v_dic0, ↓v_xfl, ↓v_xis, ↓v_nil, ↓v_cons, ↓v_no, ↓v_so, ↓v_oneN, ↓v_oneI, ↓v_of, ↓v_rng1, ↓v_rng2, ↓v_rng3, ↓v_walkT, ↓v_walkC, ↓v_walkS, ↓v_enum, ↓v_zip, ↓v_rev, ↓v_lof, ↓v_tst, ↓v_truB, ↓v_run, ↓s_set, ↓s_setI, ↓s_setF, ↓s_incF, ↓s_ret, ↓s_retN, ↓s_expr, ↓s_pass, ↓s_bad, ↓s_ite, ↓s_for, ↓s_while, ↓s_rai, ↓s_try, ↓s_nil, ↓s_cons, ↓s_hnil, ↓s_hcons, ↓s_setNm, ↓s_setTp, ↓s_memS, w_ok, w_ex, w_bad, w_bind, w_calm, w_st, w_nx, w_rt, w_xe, w_bd, w_then, w_catch, w_gone, w_fn, w_if, w_ifS, -List.append_assoc, getVar, List.getElem?_cons_zero, List.getElem?_cons_succ, List.getElem?_nil, p_add, p_sub, p_mul, p_mod, p_fdiv, p_pow, p_eq, p_ne, p_lt, p_le, p_gt, p_ge, p_isInt, p_isBool, p_min, p_max, p_lenC, p_lenT, p_isB, p_asg_nm, p_asg_tp, p_asgs_nil, p_asgs_nm, raiX, LIM, m_shr, m_shl1, m_int, m_intB, m_list, m_listT, m_listC, m_tupR, m_tupT, m_fld, m_gF, m_store, m_sF, m_addF, m_dF, m_isI, m_iI, m_getL, m_oL, m_isL, m_recv, m_walk, m_stays, m_truR, m_tOl, m_newL, m_alloc, m_len, m_lOl, m_lOd, m_app, m_ext, m_getC, m_ins, m_idx, m_xOl, m_xOd, m_idxT, m_idxC, m_at0, m_storeAt, m_sOd, m_key, m_keyS, m_non, m_nnon, isNon_non, isNon_int, isNon_str, isNon_tup, isNon_ref, m_getX, m_gXe, m_isX, m_iXe, m_at, m_slc, m_slcC, m_slcT, m_slcS, m_cat, m_rep, m_isList, get_set, get_app, ne_len, ne_len0, len_ne, len_ne0, se_2, se_3, se_4, es_2, es_3, es_4, ne_len2, ne_len3, len_ne2, len_ne3, putF, List.lookup]
        exact ⟨by rw [adv_step hx, hg], cnt_lt hx⟩
      | false =>
        have hh' : (findK kw (.int g)).isSome = false := hx
        rw [adv_no hx, ead] at hg
        simp [hh', ↓v_var, ↓v_lit, ↓v_glo, ↓v_op, ↓v_neg, v_negI, ↓v_not, ↓v_and, ↓v_or, ↓v_isB, ↓v_ch, ↓v_one, ↓v_more, ↓v_call, ↓v_fld, ↓v_meth, ↓v_make, ↓v_bi, ↓v_bm, ↓v_idx, ↓v_slc, ↓v_lst, ↓v_tup, ↓v_dic0, ↓v_xfl, ↓v_xis, ↓v_nil, ↓v_cons, ↓v_no, ↓v_so, ↓v_oneN, ↓v_oneI, ↓v_of, ↓v_rng1, ↓v_rng2, ↓v_rng3, ↓v_walkT, ↓v_walkC, ↓v_walkS, ↓v_enum, ↓v_zip, ↓v_rev, ↓v_lof, ↓v_tst, ↓v_truB, ↓v_run, ↓s_set, ↓s_setI, ↓s_setF, ↓s_incF, ↓s_ret, ↓s_retN, ↓s_expr, ↓s_pass, ↓s_bad, ↓s_ite, ↓s_for, ↓s_while, ↓s_rai, ↓s_try, ↓s_nil, ↓s_cons, ↓s_hnil, ↓s_hcons, ↓s_setNm, ↓s_setTp, ↓s_memS, w_ok, w_ex, w_bad, w_bind, w_calm, w_st, w_nx, w_rt, w_xe, w_bd, w_then, w_catch, w_gone, w_fn, w_if, w_ifS, -List.append_assoc, getVar, List.getElem?_cons_zero, List.getElem?_cons_succ, List.getElem?_nil, p_add, p_sub, p_mul, p_mod, p_fdiv, p_pow, p_eq, p_ne, p_lt, p_le, p_gt, p_ge, p_isInt, p_isBool, p_min, p_max, p_lenC, p_lenT, p_isB, p_asg_nm, p_asg_tp, p_asgs_nil, p_asgs_nm, raiX, LIM, m_shr, m_shl1, m_int, m_intB, m_list, m_listT, m_listC, m_tupR, m_tupT, m_fld, m_gF, m_store, m_sF, m_addF, m_dF, m_isI, m_iI, m_getL, m_oL, m_isL, m_recv, m_walk, m_stays, m_truR, m_tOl, m_newL, m_alloc, m_len, m_lOl, m_lOd, m_app, m_ext, m_getC, m_ins, m_idx, m_xOl, m_xOd, m_idxT, m_idxC, m_at0, m_storeAt, m_sOd, m_key, m_keyS, m_non, m_nnon, isNon_non, isNon_int, isNon_str, isNon_tup, isNon_ref, m_getX, m_gXe, m_isX, m_iXe, m_at, m_slc, m_slcC, m_slcT, m_slcS, m_cat, m_rep, m_isList, get_set, get_app, ne_len, ne_len0, len_ne, len_ne0, se_2, se_3, se_4, es_2, es_3, es_4, ne_len2, ne_len3, len_ne2, len_ne3, putF, List.lookup]
        rw [snoc, files_snoc, hg]
        refine ⟨rfl, k4, ?_, kw, f4, ?_, by omega⟩
        · rw [snoc, places_snoc]
          exact d4
        · rw [snoc, files_snoc]
          exact hh2
    simp [l_law_4, ↓v_var, ↓v_lit, ↓v_glo, ↓v_op, ↓v_neg, v_negI, ↓v_not, ↓v_and, ↓v_or, ↓v_isB, ↓v_ch, ↓v_one, ↓v_more, ↓v_call, ↓v_fld, ↓v_meth, ↓v_make, ↓v_bi, ↓v_bm, ↓v_idx, ↓v_slc, ↓v_lst, ↓v_tup, ↓v_dic0, ↓v_xfl, ↓v_xis, ↓v_nil, ↓v_cons, ↓v_no, ↓v_so, ↓v_oneN, ↓v_oneI, ↓v_of, ↓v_rng1, ↓v_rng2, ↓v_rng3, ↓v_walkT, ↓v_walkC, ↓v_walkS, ↓v_enum, ↓v_zip, ↓v_rev, ↓v_lof, ↓v_tst, ↓v_truB, ↓v_run, ↓s_set, ↓s_setI, ↓s_setF, ↓s_incF, ↓s_ret, ↓s_retN, ↓s_expr, ↓s_pass, ↓s_bad, ↓s_ite, ↓s_for, ↓s_while, ↓s_rai, ↓s_try, ↓s_nil, ↓s_cons, ↓s_hnil, ↓s_hcons, ↓s_setNm, ↓s_setTp, ↓s_memS, w_ok, w_ex, w_bad, w_bind, w_calm, w_st, w_nx, w_rt, w_xe, w_bd, w_then, w_catch, w_gone, w_fn, w_if, w_ifS, -List.append_assoc, getVar, List.getElem?_cons_zero, List.getElem?_cons_succ, List.getElem?_nil, p_add, p_sub, p_mul, p_mod, p_fdiv, p_pow, p_eq, p_ne, p_lt, p_le, p_gt, p_ge, p_isInt, p_isBool, p_min, p_max, p_lenC, p_lenT, p_isB, p_asg_nm, p_asg_tp, p_asgs_nil, p_asgs_nm, raiX, LIM, m_shr, m_shl1, m_int, m_intB, m_list, m_listT, m_listC, m_tupR, m_tupT, m_fld, m_gF, m_store, m_sF, m_addF, m_dF, m_isI, m_iI, m_getL, m_oL, m_isL, m_recv, m_walk, m_stays, m_truR, m_tOl, m_newL, m_alloc, m_len, m_lOl, m_lOd, m_app, m_ext, m_getC, m_ins, m_idx, m_xOl, m_xOd, m_idxT, m_idxC, m_at0, m_storeAt, m_sOd, m_key, m_keyS, m_non, m_nnon, isNon_non, isNon_int, isNon_str, isNon_tup, isNon_ref, m_getX, m_gXe, m_isX, m_iXe, m_at, m_slc, m_slcC, m_slcT, m_slcS, m_cat, m_rep, m_isList, get_set, get_app, ne_len, ne_len0, len_ne, len_ne0, se_2, se_3, se_4, es_2, es_3, es_4, ne_len2, ne_len3, len_ne2, len_ne3, putF, List.lookup, e', a1, hd, pl]
    refine ⟨fun q => ?_, fun q => ?_⟩
    · exact tail _ (by rw [epl, if_pos q])
    · exact tail _ (by rw [epl, if_neg (by omega)])
  · rintro env' h3 ⟨⟨e15', e16', rfl⟩, ⟨kk, hd, kv', hf, hh, hkl⟩⟩
    rw [ints_len, List.take_length] at *
    obtain ⟨b1, b2, b3, b4, b5, b6, b7⟩ := files_same C s
    have nca : ca ∉ [ca + 1, f2] := by simp; exact fun z => fr ca ldA (by simp [z])
    have nr : r ∉ [ca + 1, f2] := not2 (Nat.ne_of_lt (Nat.lt_succ_of_lt lrc)) fun z => fr r lr (by simp [z])
    have old : ∀ z ∈ [p, fd, sd, tl, f2, s2, t2], z < h.length := fun z hz => by
      refine Nat.lt_of_not_le fun q => fr z q hz
    have ncf : ∀ z ∈ [p, fd, sd, tl, s2, t2], z ∉ [ca + 1, f2] := fun z hz => by
      have hz : z = p ∨ z = fd ∨ z = sd ∨ z = tl ∨ z = s2 ∨ z = t2 := by simpa using hz
      have o : z < h.length := old z (by rcases hz with q | q | q | q | q | q <;> simp [q])
      refine not2 (Nat.ne_of_lt (Nat.lt_succ_of_lt (Nat.lt_of_lt_of_le o ldA))) ?_
      rcases hz with rfl | rfl | rfl | rfl | rfl | rfl <;> simp [nd]
    have c3 := kk.at cA nca
    have r3 := kk.at rA nr
    have x3 := l2.x.kp kk (ncf _ (by simp)) (ncf _ (by simp)) (ncf _ (by simp)) (ncf _ (by simp))
    have e3 := kk.at l2.e (ncf _ (by simp))
    have t3 := kk.at l2.t (ncf _ (by simp))
    have tl' : ((List.range n).map G).length = n := by simp
    simp [↓v_var, ↓v_lit, ↓v_glo, ↓v_op, ↓v_neg, v_negI, ↓v_not, ↓v_and, ↓v_or, ↓v_isB, ↓v_ch, ↓v_one, ↓v_more, ↓v_call, ↓v_fld, ↓v_meth, ↓v_make, ↓v_bi, ↓v_bm, ↓v_idx, ↓v_slc, ↓v_lst, ↓v_tup, ↓v_dic0, ↓v_xfl, ↓v_xis, ↓v_nil, ↓v_cons, ↓v_no, ↓v_so, ↓v_oneN, ↓v_oneI, ↓v_of, ↓v_rng1, ↓v_rng2, ↓v_rng3, ↓v_walkT, ↓v_walkC, ↓v_walkS, ↓v_enum, ↓v_zip, ↓v_rev, ↓v_lof, ↓v_tst, ↓v_truB, ↓v_run, ↓s_set, ↓s_setI, ↓s_setF, ↓s_incF, ↓s_ret, ↓s_retN, ↓s_expr, ↓s_pass, ↓s_bad, ↓s_ite, ↓s_for, ↓s_while, ↓s_rai, ↓s_try, ↓s_nil, ↓s_cons, ↓s_hnil, ↓s_hcons, ↓s_setNm, ↓s_setTp, ↓s_memS, w_ok, w_ex, w_bad, w_bind, w_calm, w_st, w_nx, w_rt, w_xe, w_bd, w_then, w_catch, w_gone, w_fn, w_if, w_ifS, -List.append_assoc, getVar, List.getElem?_cons_zero, List.getElem?_cons_succ, List.getElem?_nil, p_add, p_sub, p_mul, p_mod, p_fdiv, p_pow, p_eq, p_ne, p_lt, p_le, p_gt, p_ge, p_isInt, p_isBool, p_min, p_max, p_lenC, p_lenT, p_isB, p_asg_nm, p_asg_tp, p_asgs_nil, p_asgs_nm, raiX, LIM, m_shr, m_shl1, m_int, m_intB, m_list, m_listT, m_listC, m_tupR, m_tupT, m_fld, m_gF, m_store, m_sF, m_addF, m_dF, m_isI, m_iI, m_getL, m_oL, m_isL, m_recv, m_walk, m_stays, m_truR, m_tOl, m_newL, m_alloc, m_len, m_lOl, m_lOd, m_app, m_ext, m_getC, m_ins, m_idx, m_xOl, m_xOd, m_idxT, m_idxC, m_at0, m_storeAt, m_sOd, m_key, m_keyS, m_non, m_nnon, isNon_non, isNon_int, isNon_str, isNon_tup, isNon_ref, m_getX, m_gXe, m_isX, m_iXe, m_at, m_slc, m_slcC, m_slcT, m_slcS, m_cat, m_rep, m_isList, get_set, get_app, ne_len, ne_len0, len_ne, len_ne0, se_2, se_3, se_4, es_2, es_3, es_4, ne_len2, ne_len3, len_ne2, len_ne3, putF, List.lookup]
    refine w_map (fun w => match w with | .int k => .int (G k.toNat) | _ => .non) ?_
    have r3' := at_app (p := Ob.lst [W.int s.base]) r3
    have t3' := at_app (p := Ob.lst [W.int s.base]) t3
    simp only [↓v_var, ↓v_lit, ↓v_glo, ↓v_op, ↓v_neg, v_negI, ↓v_not, ↓v_and, ↓v_or, ↓v_isB, ↓v_ch, ↓v_one, ↓v_more, ↓v_call, ↓v_fld, ↓v_meth, ↓v_make, ↓v_bi, ↓v_bm, ↓v_idx, ↓v_slc, ↓v_lst, ↓v_tup, ↓v_dic0, ↓v_xfl, ↓v_xis, ↓v_nil, ↓v_cons, ↓v_no, ↓v_so, ↓v_oneN, ↓v_oneI, ↓v_of, ↓v_rng1, ↓v_rng2, ↓v_rng3, ↓v_walkT, ↓v_walkC, ↓v_walkS, ↓v_enum, ↓v_zip, ↓v_rev, ↓v_lof, ↓v_tst, ↓v_truB, ↓v_run, ↓s_set, ↓s_setI, ↓s_setF, ↓s_incF, ↓s_ret, ↓s_retN, ↓s_expr, ↓s_pass, ↓s_bad, ↓s_ite, ↓s_for, ↓s_while, ↓s_rai, ↓s_try, ↓s_nil, ↓s_cons, ↓s_hnil, ↓s_hcons, ↓s_setNm, ↓s_setTp, ↓s_memS, w_ok, w_ex, w_bad, w_bind, w_calm, w_st, w_nx, w_rt, w_xe, w_bd, w_then, w_catch, w_gone, w_fn, w_if, w_ifS, -List.append_assoc, getVar, List.getElem?_cons_zero, List.getElem?_cons_succ, List.getElem?_nil, p_add, p_sub, p_mul, p_mod, p_fdiv, p_pow, p_eq, p_ne, p_lt, p_le, p_gt, p_ge, p_isInt, p_isBool, p_min, p_max, p_lenC, p_lenT, p_isB, p_asg_nm, p_asg_tp, p_asgs_nil, p_asgs_nm, raiX, v_walkR r3']
    refine ⟨by rw [ints_len]; have := hM.2; unfold LIM; omega, p_stays r3', fun x hx => ?_, ?_⟩
    · obtain ⟨k, hk, rfl⟩ := List.mem_map.mp hx
      obtain ⟨k0, k1', k2⟩ := hM3 k hk
      have : atW (intsW ((List.range n).map G)) k = some (.int (G k.toNat)) := by
        rw [m_at k0]
        exact ints_at (by rw [List.getElem?_map, List.getElem?_range (by omega)]; rfl)
      refine ⟨_, p_asg_nm, ?_⟩
      simp [c_law_0, ↓v_var, ↓v_lit, ↓v_glo, ↓v_op, ↓v_neg, v_negI, ↓v_not, ↓v_and, ↓v_or, ↓v_isB, ↓v_ch, ↓v_one, ↓v_more, ↓v_call, ↓v_fld, ↓v_meth, ↓v_make, ↓v_bi, ↓v_bm, ↓v_idx, ↓v_slc, ↓v_lst, ↓v_tup, ↓v_dic0, ↓v_xfl, ↓v_xis, ↓v_nil, ↓v_cons, ↓v_no, ↓v_so, ↓v_oneN, ↓v_oneI, ↓v_of, ↓v_rng1, ↓v_rng2, ↓v_rng3, ↓v_walkT, ↓v_walkC, ↓v_walkS, ↓v_enum, ↓v_zip, ↓v_rev, ↓v_lof, ↓v_tst, ↓v_truB, ↓v_run, ↓s_set, ↓s_setI, ↓s_setF, ↓s_incF, ↓s_ret, ↓s_retN, ↓s_expr, ↓s_pass, ↓s_bad, ↓s_ite, ↓s_for, ↓s_while, ↓s_rai, ↓s_try, ↓s_nil, ↓s_cons, ↓s_hnil, ↓s_hcons, ↓s_setNm, ↓s_setTp, ↓s_memS, w_ok, w_ex, w_bad, w_bind, w_calm, w_st, w_nx, w_rt, w_xe, w_bd, w_then, w_catch, w_gone, w_fn, w_if, w_ifS, -List.append_assoc, getVar, List.getElem?_cons_zero, List.getElem?_cons_succ, List.getElem?_nil, p_add, p_sub, p_mul, p_mod, p_fdiv, p_pow, p_eq, p_ne, p_lt, p_le, p_gt, p_ge, p_isInt, p_isBool, p_min, p_max, p_lenC, p_lenT, p_isB, p_asg_nm, p_asg_tp, p_asgs_nil, p_asgs_nm, raiX, LIM, m_shr, m_shl1, m_int, m_intB, m_list, m_listT, m_listC, m_tupR, m_tupT, m_fld, m_gF, m_store, m_sF, m_addF, m_dF, m_isI, m_iI, m_getL, m_oL, m_isL, m_recv, m_walk, m_stays, m_truR, m_tOl, m_newL, m_alloc, m_len, m_lOl, m_lOd, m_app, m_ext, m_getC, m_ins, m_idx, m_xOl, m_xOd, m_idxT, m_idxC, m_at0, m_storeAt, m_sOd, m_key, m_keyS, m_non, m_nnon, isNon_non, isNon_int, isNon_str, isNon_tup, isNon_ref, m_getX, m_gXe, m_isX, m_iXe, m_at, m_slc, m_slcC, m_slcT, m_slcS, m_cat, m_rep, m_isList, get_set, get_app, ne_len, ne_len0, len_ne, len_ne0, se_2, se_3, se_4, es_2, es_3, es_4, ne_len2, ne_len3, len_ne2, len_ne3, putF, List.lookup, wipe, t3', this]
    have eM : (intsW M).map (fun w => match w with | .int k => .int (G k.toNat) | _ => .non) = intsW (M.map fun k => G k.toNat) := by
      unfold intsW
      rw [List.map_map, List.map_map]
      rfl
    rw [eM]
    have ml := hM.2
    have k3a : Kp [] h3 (h3 ++ [Ob.lst [W.int s.base]] ++ [Ob.lst (intsW (M.map fun k => G k.toNat))]) := by repeat' first | exact Kp.rfl | assumption | refine keeps_app ?_ | refine keeps_set ?_ (by simp [*])
    have qa : (h3 ++ [Ob.lst [W.int s.base]] ++ [Ob.lst (intsW (M.map fun k => G k.toNat))])[h3.length]? = some (.lst [W.int s.base]) := at_app at_new
    have qb : (h3 ++ [Ob.lst [W.int s.base]] ++ [Ob.lst (intsW (M.map fun k => G k.toNat))])[(h3 ++ [Ob.lst [W.int s.base]]).length]? = some (.lst (intsW (M.map fun k => G k.toNat))) := at_new
    generalize (h3 ++ [Ob.lst [W.int s.base]]).length = lb at *
    generalize h3 ++ [Ob.lst [W.int s.base]] ++ [Ob.lst (intsW (M.map fun k => G k.toNat))] = h3b at *
    have k3c : Kp [] h3 (h3b ++ [Ob.lst (intsW (s.base :: M.map fun k => G k.toNat))]) := keeps_app k3a
    have hbb : s.bb M = mxs G M s.base := hi.bb M hM3
    have mx : biS .max [.ref h3b.length] (h3b ++ [Ob.lst (intsW (s.base :: M.map fun k => G k.toNat))]) = .ok (.int (s.bb M)) (h3b ++ [Ob.lst (intsW (s.base :: M.map fun k => G k.toNat))]) := by
      rw [p_maxI at_new, maxL_mxs, hbb]
    have eb : W.int s.base :: intsW (M.map fun k => G k.toNat) = intsW (s.base :: M.map fun k => G k.toNat) := rfl
    have c3 := k3c.at c3 (by simp)
    have r3 := k3c.at r3 (by simp)
    have x3 := x3.kp k3c (by simp) (by simp) (by simp) (by simp)
    have e3 := k3c.at e3 (by simp)
    have t3 := k3c.at t3 (by simp)
    have f3 := k3c.at hf (by simp)
    have d3 := k3c.at hd (by simp)
    simp [↓v_var, ↓v_lit, ↓v_glo, ↓v_op, ↓v_neg, v_negI, ↓v_not, ↓v_and, ↓v_or, ↓v_isB, ↓v_ch, ↓v_one, ↓v_more, ↓v_call, ↓v_fld, ↓v_meth, ↓v_make, ↓v_bi, ↓v_bm, ↓v_idx, ↓v_slc, ↓v_lst, ↓v_tup, ↓v_dic0, ↓v_xfl, ↓v_xis, ↓v_nil, ↓v_cons, ↓v_no, ↓v_so, ↓v_oneN, ↓v_oneI, ↓v_of, ↓v_rng1, ↓v_rng2, ↓v_rng3, ↓v_walkT, ↓v_walkC, ↓v_walkS, ↓v_enum, ↓v_zip, ↓v_rev, ↓v_lof, ↓v_tst, ↓v_truB, ↓v_run, ↓s_set, ↓s_setI, ↓s_setF, ↓s_incF, ↓s_ret, ↓s_retN, ↓s_expr, ↓s_pass, ↓s_bad, ↓s_ite, ↓s_for, ↓s_while, ↓s_rai, ↓s_try, ↓s_nil, ↓s_cons, ↓s_hnil, ↓s_hcons, ↓s_setNm, ↓s_setTp, ↓s_memS, w_ok, w_ex, w_bad, w_bind, w_calm, w_st, w_nx, w_rt, w_xe, w_bd, w_then, w_catch, w_gone, w_fn, w_if, w_ifS, -List.append_assoc, getVar, List.getElem?_cons_zero, List.getElem?_cons_succ, List.getElem?_nil, p_add, p_sub, p_mul, p_mod, p_fdiv, p_pow, p_eq, p_ne, p_lt, p_le, p_gt, p_ge, p_isInt, p_isBool, p_min, p_max, p_lenC, p_lenT, p_isB, p_asg_nm, p_asg_tp, p_asgs_nil, p_asgs_nm, raiX, LIM, m_shr, m_shl1, m_int, m_intB, m_list, m_listT, m_listC, m_tupR, m_tupT, m_fld, m_gF, m_store, m_sF, m_addF, m_dF, m_isI, m_iI, m_getL, m_oL, m_isL, m_recv, m_walk, m_stays, m_truR, m_tOl, m_newL, m_alloc, m_len, m_lOl, m_lOd, m_app, m_ext, m_getC, m_ins, m_idx, m_xOl, m_xOd, m_idxT, m_idxC, m_at0, m_storeAt, m_sOd, m_key, m_keyS, m_non, m_nnon, isNon_non, isNon_int, isNon_str, isNon_tup, isNon_ref, m_getX, m_gXe, m_isX, m_iXe, m_at, m_slc, m_slcC, m_slcT, m_slcS, m_cat, m_rep, m_isList, get_set, get_app, ne_len, ne_len0, len_ne, len_ne0, se_2, se_3, se_4, es_2, es_3, es_4, ne_len2, ne_len3, len_ne2, len_ne3, putF, List.lookup, qa, qb, ints_len, show M.length + 1 ≤ 100000 by omega, eb, mx]
    generalize h3b ++ [Ob.lst (intsW (s.base :: M.map fun k => G k.toNat))] = h4 at *
    have od := hi.od
    have bbl := hi.bbl M hM3
    have lrm := hi.rm
    have lrm2 := li.rm
    have lt9 := li.t9
    refine (item_ok c s.sent.length (s.bb M) s.top s.room h4 (by omega) (by omega) (by omega) lrm lrm2 (by omega) (by omega)).mn ?_
    rintro v h5 ⟨it, rfl, hit, k5⟩
    have c5 := k5.at c3 (by simp)
    have r5 := k5.at r3 (by simp)
    have d5 := k5.at d3 (by simp)
    have x5 := x3.kp k5 (by simp) (by simp) (by simp) (by simp)
    have e5 := k5.at e3 (by simp)
    have t5 := k5.at t3 (by simp)
    have f5 := k5.at f3 (by simp)
    have k35 : Kp [] h3 h5 := k3c.trans k5 (by simp)
    have vd : s.valid C M it = true := by
      have vC : s.okC C M = true := by
        unfold PS.okC
        rw [Bool.and_eq_true]
        refine ⟨List.all_eq_true.mpr fun k hk => ?_, List.all_eq_true.mpr fun k hk => ?_⟩
        · obtain ⟨k0, k1', k2, z, hz⟩ := hC3 k hk
          have nr : s.near k = true := by unfold PS.near; simp; omega
          unfold PS.canCome
          rw [nr, hz]
          rfl
        · obtain ⟨k0, k1', k2⟩ := hM3 k hk
          unfold PS.near
          simp
          omega
      unfold PS.valid
      rw [vC, Bool.true_and]
      cases it with
      | none => rfl
      | some z =>
        obtain ⟨z1, z2, z3⟩ := hit z rfl
        unfold PS.itOk
        simp only [decide_eq_true z1, decide_eq_true z2, decide_eq_true z3]
        rfl
    have hcl := hC.2
    have hfl := li.fl
    have hkl2 := li.kl
    have hst : s.told.length = s.sent.length := by rw [hi.td, nl]; simp
    simp [↓v_var, ↓v_lit, ↓v_glo, ↓v_op, ↓v_neg, v_negI, ↓v_not, ↓v_and, ↓v_or, ↓v_isB, ↓v_ch, ↓v_one, ↓v_more, ↓v_call, ↓v_fld, ↓v_meth, ↓v_make, ↓v_bi, ↓v_bm, ↓v_idx, ↓v_slc, ↓v_lst, ↓v_tup, ↓v_dic0, ↓v_xfl, ↓v_xis, ↓v_nil, ↓v_cons, ↓v_no, ↓v_so, ↓v_oneN, ↓v_oneI, ↓v_of, ↓v_rng1, ↓v_rng2, ↓v_rng3, ↓v_walkT, ↓v_walkC, ↓v_walkS, ↓v_enum, ↓v_zip, ↓v_rev, ↓v_lof, ↓v_tst, ↓v_truB, ↓v_run, ↓s_set, ↓s_setI, ↓s_setF, ↓s_incF, ↓s_ret, ↓s_retN, ↓s_expr, ↓s_pass, ↓s_bad, ↓s_ite, ↓s_for, ↓s_while, ↓s_rai, ↓s_try, ↓s_nil, ↓s_cons, ↓s_hnil, ↓s_hcons, ↓s_setNm, ↓s_setTp, ↓s_memS, w_ok, w_ex, w_bad, w_bind, w_calm, w_st, w_nx, w_rt, w_xe, w_bd, w_then, w_catch, w_gone, w_fn, w_if, w_ifS, -List.append_assoc, getVar, List.getElem?_cons_zero, List.getElem?_cons_succ, List.getElem?_nil, p_add, p_sub, p_mul, p_mod, p_fdiv, p_pow, p_eq, p_ne, p_lt, p_le, p_gt, p_ge, p_isInt, p_isBool, p_min, p_max, p_lenC, p_lenT, p_isB, p_asg_nm, p_asg_tp, p_asgs_nil, p_asgs_nm, raiX, LIM, m_shr, m_shl1, m_int, m_intB, m_list, m_listT, m_listC, m_tupR, m_tupT, m_fld, m_gF, m_store, m_sF, m_addF, m_dF, m_isI, m_iI, m_getL, m_oL, m_isL, m_recv, m_walk, m_stays, m_truR, m_tOl, m_newL, m_alloc, m_len, m_lOl, m_lOd, m_app, m_ext, m_getC, m_ins, m_idx, m_xOl, m_xOd, m_idxT, m_idxC, m_at0, m_storeAt, m_sOd, m_key, m_keyS, m_non, m_nnon, isNon_non, isNon_int, isNon_str, isNon_tup, isNon_ref, m_getX, m_gXe, m_isX, m_iXe, m_at, m_slc, m_slcC, m_slcT, m_slcS, m_cat, m_rep, m_isList, get_set, get_app, ne_len, ne_len0, len_ne, len_ne0, se_2, se_3, se_4, es_2, es_3, es_4, ne_len2, ne_len3, len_ne2, len_ne3, putF, List.lookup, x5.f]
    refine (play_ok x5 _ _ C M it c5 r5 hi.hs r0 hst (by omega) (by omega)).mono ?_ ?_
    case refine_2 =>
      rintro v h' ⟨q, -⟩
      rw [vd] at q
      cases q
    rintro v h6 ⟨-, q, rfl, lq, hq, x6, k6⟩
    have oldn : ∀ z : Nat, h.length ≤ z → z ∉ [p, fd, sd, tl] := fun z hz m => fr z hz (by
      have m : z = p ∨ z = fd ∨ z = sd ∨ z = tl := by simpa using m
      rcases m with m | m | m | m <;> simp [m])
    have d6 := k6.at d5 (oldn _ (by omega))
    have e6 := k6.at e5 (by simp [nd])
    have t6 := k6.at t5 (by simp [nd])
    have f6 := k6.at f5 (by simp [nd])
    have al := alike_ok hq d6 (ni_places C s)
    have tpe : ∀ h : Mem, op2 .eq (oW it) (.int s.top) h = .ok (.bl (decide (it = some s.top))) h := fun h => by
      cases it with
      | none => simp [oW, q_eq, q_ne, q_eqO, q_ref, q_tup, q_con, q_non, q_bl, q_int, q_str, List.mapM_cons, List.mapM_nil, PyData.eqv, PyData.eqvAll, -p_eq]
      | some z => simp [oW, p_eq]
    have x6f := x6.f
    have s9 : s.sent.length < 100000 := by omega
    have t9' : ((List.range n).map G).length < 100000 := by omega
    simp [↓v_var, ↓v_lit, ↓v_glo, ↓v_op, ↓v_neg, v_negI, ↓v_not, ↓v_and, ↓v_or, ↓v_isB, ↓v_ch, ↓v_one, ↓v_more, ↓v_call, ↓v_fld, ↓v_meth, ↓v_make, ↓v_bi, ↓v_bm, ↓v_idx, ↓v_slc, ↓v_lst, ↓v_tup, ↓v_dic0, ↓v_xfl, ↓v_xis, ↓v_nil, ↓v_cons, ↓v_no, ↓v_so, ↓v_oneN, ↓v_oneI, ↓v_of, ↓v_rng1, ↓v_rng2, ↓v_rng3, ↓v_walkT, ↓v_walkC, ↓v_walkS, ↓v_enum, ↓v_zip, ↓v_rev, ↓v_lof, ↓v_tst, ↓v_truB, ↓v_run, ↓s_set, ↓s_setI, ↓s_setF, ↓s_incF, ↓s_ret, ↓s_retN, ↓s_expr, ↓s_pass, ↓s_bad, ↓s_ite, ↓s_for, ↓s_while, ↓s_rai, ↓s_try, ↓s_nil, ↓s_cons, ↓s_hnil, ↓s_hcons, ↓s_setNm, ↓s_setTp, ↓s_memS, w_ok, w_ex, w_bad, w_bind, w_calm, w_st, w_nx, w_rt, w_xe, w_bd, w_then, w_catch, w_gone, w_fn, w_if, w_ifS, -List.append_assoc, getVar, List.getElem?_cons_zero, List.getElem?_cons_succ, List.getElem?_nil, p_add, p_sub, p_mul, p_mod, p_fdiv, p_pow, p_eq, p_ne, p_lt, p_le, p_gt, p_ge, p_isInt, p_isBool, p_min, p_max, p_lenC, p_lenT, p_isB, p_asg_nm, p_asg_tp, p_asgs_nil, p_asgs_nm, raiX, LIM, m_shr, m_shl1, m_int, m_intB, m_list, m_listT, m_listC, m_tupR, m_tupT, m_fld, m_gF, m_store, m_sF, m_addF, m_dF, m_isI, m_iI, m_getL, m_oL, m_isL, m_recv, m_walk, m_stays, m_truR, m_tOl, m_newL, m_alloc, m_len, m_lOl, m_lOd, m_app, m_ext, m_getC, m_ins, m_idx, m_xOl, m_xOd, m_idxT, m_idxC, m_at0, m_storeAt, m_sOd, m_key, m_keyS, m_non, m_nnon, isNon_non, isNon_int, isNon_str, isNon_tup, isNon_ref, m_getX, m_gXe, m_isX, m_iXe, m_at, m_slc, m_slcC, m_slcT, m_slcS, m_cat, m_rep, m_isList, get_set, get_app, ne_len, ne_len0, len_ne, len_ne0, se_2, se_3, se_4, es_2, es_3, es_4, ne_len2, ne_len3, len_ne2, len_ne3, putF, List.lookup, al, tpe, e6, t6, r0, nd, s9, t9', ints_len, show n < 100000 by omega]
    have nst : ¬ s2 = t2 ∧ ¬ t2 = s2 := ⟨by simp [nd], by simp [nd]⟩
    have st7 : ∀ (z : Nat) (o : Ob), ¬ s2 = z → ¬ t2 = z → h6[z]? = some o → ((List.set h6 s2 (Ob.lst (s.sent ++ [oW it]))).set t2 (Ob.lst (intsW ((List.range n).map G) ++ [W.int (s.files C).got])))[z]? = some o := fun z o n1 n2 e => at_set_ne n2 (at_set_ne n1 e)
    have e7 : ((List.set h6 s2 (Ob.lst (s.sent ++ [oW it]))).set t2 (Ob.lst (intsW ((List.range n).map G) ++ [W.int (s.files C).got])))[s2]? = some (.lst (s.sent ++ [oW it])) := at_set_ne nst.2 (at_set e6)
    have t7 : ((List.set h6 s2 (Ob.lst (s.sent ++ [oW it]))).set t2 (Ob.lst (intsW ((List.range n).map G) ++ [W.int (s.files C).got])))[t2]? = some (.lst (intsW ((List.range (n + 1)).map fun i => if i = n then (s.files C).got else G i))) := by
      have eg : (List.range (n + 1)).map (fun i => if i = n then (s.files C).got else G i) = (List.range n).map G ++ [(s.files C).got] := by
        rw [List.range_succ, List.map_append]
        congr 1
        · refine List.map_congr_left fun i hi' => ?_
          have := List.mem_range.mp hi'
          rw [if_neg (by omega)]
        · simp
      rw [eg, ← ints_snoc]
      exact at_set (at_set_ne nst.1 t6)
    have f7 := st7 f2 _ (by simp [nd]) (by simp [nd]) f6
    have x7 : PAt ((List.set h6 s2 (Ob.lst (s.sent ++ [oW it]))).set t2 (Ob.lst (intsW ((List.range n).map G) ++ [W.int (s.files C).got]))) p fd sd tl (s.played C M it) :=
      ⟨st7 p _ (by simp [nd]) (by simp [nd]) x6.f, st7 fd _ (by simp [nd]) (by simp [nd]) x6.d, st7 sd _ (by simp [nd]) (by simp [nd]) x6.e, st7 tl _ (by simp [nd]) (by simp [nd]) x6.l, x6.n⟩
    have k07 : Kp [p, fd, sd, tl, f2, s2, t2] h ((List.set h6 s2 (Ob.lst (s.sent ++ [oW it]))).set t2 (Ob.lst (intsW ((List.range n).map G) ++ [W.int (s.files C).got]))) := by
      have a1 : Kp [p, fd, sd, tl, f2, s2, t2] h h3 := (kA.sub (by simp)).trans kk (fun z hz => by
        rcases List.mem_cons.mp hz with rfl | hz
        · exact .inr (Nat.le_succ_of_le ldA)
        · exact .inl (by simp at hz; simp [hz]))
      have a2 : Kp [p, fd, sd, tl, f2, s2, t2] h h5 := a1.trans k35 (by simp)
      have a3 : Kp [p, fd, sd, tl, f2, s2, t2] h h6 := a2.trans k6 (fun z hz => .inl (by simp at hz ⊢; rcases hz with q | q | q | q <;> simp [q]))
      exact keeps_set (keeps_set a3 (by simp)) (by simp)
    generalize (List.set h6 s2 (Ob.lst (s.sent ++ [oW it]))).set t2 (Ob.lst (intsW ((List.range n).map G) ++ [W.int (s.files C).got])) = h7 at *
    have stn := stands_ok x7
    have tpn : s.top + (if it = some s.top then 1 else 0) = (s.played C M it).top := by
      show _ = if it = some s.top then s.top + 1 else s.top
      split <;> simp
    have hi' := hi.turn C M it hC3 hM3 hit
    have od' := hi'.od
    have pr : (s.played C M it).room = s.room := b2
    have pl : (s.played C M it).lag = s.lag := b3
    rw [tpn]
    rw [show (s.played C M it).base = s.bb M from rfl, show (s.played C M it).got = (s.files C).got from rfl] at stn od'
    rw [pr] at od'
    have tle : (s.played C M it).top ≤ s.top + 1 := by
      show (if it = some s.top then s.top + 1 else s.top) ≤ s.top + 1
      split <;> omega
    simp [↓v_var, ↓v_lit, ↓v_glo, ↓v_op, ↓v_neg, v_negI, ↓v_not, ↓v_and, ↓v_or, ↓v_isB, ↓v_ch, ↓v_one, ↓v_more, ↓v_call, ↓v_fld, ↓v_meth, ↓v_make, ↓v_bi, ↓v_bm, ↓v_idx, ↓v_slc, ↓v_lst, ↓v_tup, ↓v_dic0, ↓v_xfl, ↓v_xis, ↓v_nil, ↓v_cons, ↓v_no, ↓v_so, ↓v_oneN, ↓v_oneI, ↓v_of, ↓v_rng1, ↓v_rng2, ↓v_rng3, ↓v_walkT, ↓v_walkC, ↓v_walkS, ↓v_enum, ↓v_zip, ↓v_rev, ↓v_lof, ↓v_tst, ↓v_truB, ↓v_run, ↓s_set, ↓s_setI, ↓s_setF, ↓s_incF, ↓s_ret, ↓s_retN, ↓s_expr, ↓s_pass, ↓s_bad, ↓s_ite, ↓s_for, ↓s_while, ↓s_rai, ↓s_try, ↓s_nil, ↓s_cons, ↓s_hnil, ↓s_hcons, ↓s_setNm, ↓s_setTp, ↓s_memS, w_ok, w_ex, w_bad, w_bind, w_calm, w_st, w_nx, w_rt, w_xe, w_bd, w_then, w_catch, w_gone, w_fn, w_if, w_ifS, -List.append_assoc, getVar, List.getElem?_cons_zero, List.getElem?_cons_succ, List.getElem?_nil, p_add, p_sub, p_mul, p_mod, p_fdiv, p_pow, p_eq, p_ne, p_lt, p_le, p_gt, p_ge, p_isInt, p_isBool, p_min, p_max, p_lenC, p_lenT, p_isB, p_asg_nm, p_asg_tp, p_asgs_nil, p_asgs_nm, raiX, LIM, m_shr, m_shl1, m_int, m_intB, m_list, m_listT, m_listC, m_tupR, m_tupT, m_fld, m_gF, m_store, m_sF, m_addF, m_dF, m_isI, m_iI, m_getL, m_oL, m_isL, m_recv, m_walk, m_stays, m_truR, m_tOl, m_newL, m_alloc, m_len, m_lOl, m_lOd, m_app, m_ext, m_getC, m_ins, m_idx, m_xOl, m_xOd, m_idxT, m_idxC, m_at0, m_storeAt, m_sOd, m_key, m_keyS, m_non, m_nnon, isNon_non, isNon_int, isNon_str, isNon_tup, isNon_ref, m_getX, m_gXe, m_isX, m_iXe, m_at, m_slc, m_slcC, m_slcT, m_slcS, m_cat, m_rep, m_isList, get_set, get_app, ne_len, ne_len0, len_ne, len_ne0, se_2, se_3, se_4, es_2, es_3, es_4, ne_len2, ne_len3, len_ne2, len_ne3, putF, List.lookup, stn, od'.2.1, od'.2.2.1, od'.2.2.2]
    refine ⟨k07, s.played C M it, ⟨kv', _, _, _, { x := x7, f := f7, e := e7, t := t7, di := li.di, a := hh, kl := ?_, fl := ?_, sl := ?_, rm := ?_, t9 := ?_, hi := hi' }⟩, ?_, ?_, rfl, rfl, rfl⟩
    · omega
    · show (s.files C).fil.length ≤ _
      have := files_len C s
      omega
    · omega
    · rw [pr]
      exact lrm2
    · omega
    · exact pr
    · exact pl
theorem plain0 (ns : List Int) (hl : ns.length ≤ 63) : ∃ h', r_law [.con (ns.map .int)] [] = .ok (.bl true) h' := by
  obtain ⟨c0, e0⟩ := cell_at ns 0 (by omega)
  obtain ⟨c1, e1⟩ := cell_at ns 1 (by omega)
  obtain ⟨c2, e2⟩ := cell_at ns 2 (by omega)
  obtain ⟨rm, hrm, er⟩ := size_ok c0 9 60 [] (by omega) (by omega)
  obtain ⟨lg, hlg, eg⟩ := size_ok c1 8 60 [] (by omega) (by omega)
  obtain ⟨rg, hrg, eq⟩ := ring_ok c2 rm lg hrm hlg
  have rr : rm < rg := by
    have := hrg.1
    split at this <;> omega
  have main : (r_law [.con (ns.map .int)] []).wp (p := ⟨(fun v h' => v = .bl true), none_⟩) := by
    simp [r_law, f_law, ↓v_var, ↓v_lit, ↓v_glo, ↓v_op, ↓v_neg, v_negI, ↓v_not, ↓v_and, ↓v_or, ↓v_isB, ↓v_ch, ↓v_one, ↓v_more, ↓v_call, ↓v_fld, ↓v_meth, ↓v_make, ↓v_bi, ↓v_bm, ↓v_idx, ↓v_slc, ↓v_lst, ↓v_tup, ↓v_dic0, ↓v_xfl, ↓v_xis, ↓v_nil, ↓v_cons, ↓v_no, ↓v_so, ↓v_oneN, ↓v_oneI, ↓v_of, ↓v_rng1, ↓v_rng2, ↓v_rng3, ↓v_walkT, ↓v_walkC, ↓v_walkS, ↓v_enum, ↓v_zip, ↓v_rev, ↓v_lof, ↓v_tst, ↓v_truB, ↓v_run, ↓s_set, ↓s_setI, ↓s_setF, ↓s_incF, ↓s_ret, ↓s_retN, ↓s_expr, ↓s_pass, ↓s_bad, ↓s_ite, ↓s_for, ↓s_while, ↓s_rai, ↓s_try, ↓s_nil, ↓s_cons, ↓s_hnil, ↓s_hcons, ↓s_setNm, ↓s_setTp, ↓s_memS, w_ok, w_ex, w_bad, w_bind, w_calm, w_st, w_nx, w_rt, w_xe, w_bd, w_then, w_catch, w_gone, w_fn, w_if, w_ifS, -List.append_assoc, getVar, List.getElem?_cons_zero, List.getElem?_cons_succ, List.getElem?_nil, p_add, p_sub, p_mul, p_mod, p_fdiv, p_pow, p_eq, p_ne, p_lt, p_le, p_gt, p_ge, p_isInt, p_isBool, p_min, p_max, p_lenC, p_lenT, p_isB, p_asg_nm, p_asg_tp, p_asgs_nil, p_asgs_nm, raiX, LIM, m_shr, m_shl1, m_int, m_intB, m_list, m_listT, m_listC, m_tupR, m_tupT, m_fld, m_gF, m_store, m_sF, m_addF, m_dF, m_isI, m_iI, m_getL, m_oL, m_isL, m_recv, m_walk, m_stays, m_truR, m_tOl, m_newL, m_alloc, m_len, m_lOl, m_lOd, m_app, m_ext, m_getC, m_ins, m_idx, m_xOl, m_xOd, m_idxT, m_idxC, m_at0, m_storeAt, m_sOd, m_key, m_keyS, m_non, m_nnon, isNon_non, isNon_int, isNon_str, isNon_tup, isNon_ref, m_getX, m_gXe, m_isX, m_iXe, m_at, m_slc, m_slcC, m_slcT, m_slcS, m_cat, m_rep, m_isList, get_set, get_app, ne_len, ne_len0, len_ne, len_ne0, se_2, se_3, se_4, es_2, es_3, es_4, ne_len2, ne_len3, len_ne2, len_ne3, putF, List.lookup, e0, e1, e2, er, eg, eq]
    refine (pinit_ok 0 rg rm lg [.ins 0 []] rfl ⟨hrm, ⟨rr, hrg.2⟩, hlg⟩).mn ?_
    rintro v h1 ⟨rfl, fd, sd, tl, x, l1, l2, l3, k1⟩
    simp only [List.length_singleton] at l1 l2 l3
    simp [↓v_var, ↓v_lit, ↓v_glo, ↓v_op, ↓v_neg, v_negI, ↓v_not, ↓v_and, ↓v_or, ↓v_isB, ↓v_ch, ↓v_one, ↓v_more, ↓v_call, ↓v_fld, ↓v_meth, ↓v_make, ↓v_bi, ↓v_bm, ↓v_idx, ↓v_slc, ↓v_lst, ↓v_tup, ↓v_dic0, ↓v_xfl, ↓v_xis, ↓v_nil, ↓v_cons, ↓v_no, ↓v_so, ↓v_oneN, ↓v_oneI, ↓v_of, ↓v_rng1, ↓v_rng2, ↓v_rng3, ↓v_walkT, ↓v_walkC, ↓v_walkS, ↓v_enum, ↓v_zip, ↓v_rev, ↓v_lof, ↓v_tst, ↓v_truB, ↓v_run, ↓s_set, ↓s_setI, ↓s_setF, ↓s_incF, ↓s_ret, ↓s_retN, ↓s_expr, ↓s_pass, ↓s_bad, ↓s_ite, ↓s_for, ↓s_while, ↓s_rai, ↓s_try, ↓s_nil, ↓s_cons, ↓s_hnil, ↓s_hcons, ↓s_setNm, ↓s_setTp, ↓s_memS, w_ok, w_ex, w_bad, w_bind, w_calm, w_st, w_nx, w_rt, w_xe, w_bd, w_then, w_catch, w_gone, w_fn, w_if, w_ifS, -List.append_assoc, getVar, List.getElem?_cons_zero, List.getElem?_cons_succ, List.getElem?_nil, p_add, p_sub, p_mul, p_mod, p_fdiv, p_pow, p_eq, p_ne, p_lt, p_le, p_gt, p_ge, p_isInt, p_isBool, p_min, p_max, p_lenC, p_lenT, p_isB, p_asg_nm, p_asg_tp, p_asgs_nil, p_asgs_nm, raiX, LIM, m_shr, m_shl1, m_int, m_intB, m_list, m_listT, m_listC, m_tupR, m_tupT, m_fld, m_gF, m_store, m_sF, m_addF, m_dF, m_isI, m_iI, m_getL, m_oL, m_isL, m_recv, m_walk, m_stays, m_truR, m_tOl, m_newL, m_alloc, m_len, m_lOl, m_lOd, m_app, m_ext, m_getC, m_ins, m_idx, m_xOl, m_xOd, m_idxT, m_idxC, m_at0, m_storeAt, m_sOd, m_key, m_keyS, m_non, m_nnon, isNon_non, isNon_int, isNon_str, isNon_tup, isNon_ref, m_getX, m_gXe, m_isX, m_iXe, m_at, m_slc, m_slcC, m_slcT, m_slcS, m_cat, m_rep, m_isList, get_set, get_app, ne_len, ne_len0, len_ne, len_ne0, se_2, se_3, se_4, es_2, es_3, es_4, ne_len2, ne_len3, len_ne2, len_ne3, putF, List.lookup]
    have lx := at_lt x.f
    have lxd := at_lt x.d
    have lxs := at_lt x.e
    have lxl := at_lt x.l
    have hi0 : HI ⟨rg, rm, lg, 0, 0, 0, [], [], []⟩ 0 (fun _ => 0) (fun _ => 0) (fun _ => 0) := by
      refine ⟨rfl, rfl, hrm.1, hlg.1, hrg.1, rr, nofun, fun i j _ l => absurd l (Nat.not_lt_zero _), fun i l => absurd l (Nat.not_lt_zero _), fun i l => absurd l (Nat.not_lt_zero _), fun i l => absurd l (Nat.not_lt_zero _), fun i z e => by simp at e, fun l => absurd l (Nat.not_lt_zero _), ?_, nofun, fun j a b => ?_, rfl⟩
      · have := hrm.1
        simp
        omega
      · exact absurd (Int.lt_of_le_of_lt a b) (Int.lt_irrefl 0)
    have li0 : LI (h1 ++ [Ob.dic []] ++ [Ob.lst []] ++ [Ob.lst []] ++ [Ob.lst (cutW (ns.map .int) (some 3) (some 66))]) 0 fd sd tl h1.length (h1.length + 1) (h1.length + 1 + 1) [] ⟨rg, rm, lg, 0, 0, 0, [], [], []⟩ 0 (fun _ => 0) (fun _ => 0) (fun _ => 0) := by
      have nx := x.n
      refine ⟨x.kp (A := []) (by repeat' first | exact Kp.rfl | assumption | refine keeps_app ?_ | refine keeps_set ?_ (by simp [*])) (by simp) (by simp) (by simp) (by simp), ?_, ?_, ?_, ?_, fun _ => rfl, by simp, by simp, by simp, hrm.2, Int.le_refl _, hi0⟩
      · simp [get_app, -List.append_assoc, se_2, se_3]
      · simp [get_app, -List.append_assoc, se_2, se_3]
      · simp [get_app, -List.append_assoc, intsW]
      · have hne : h1 ≠ [] := List.length_pos_iff.mp (by omega)
        simp [Dis, hne] at nx ⊢
        omega
    have sc : (h1 ++ [Ob.dic []] ++ [Ob.lst []] ++ [Ob.lst []] ++ [Ob.lst (cutW (ns.map .int) (some 3) (some 66))])[h1.length + 1 + 1 + 1]? = some (.lst (intsW (cutW ns (some 3) (some 66)))) := by
      rw [← ints_cut]
      simp [get_app, -List.append_assoc, intsW]
    have ll := cut_len ns (some 3) (some 66)
    have cl : (cutW ns (some 3) (some 66)).length ≤ 63 := by omega
    generalize h1 ++ [Ob.dic []] ++ [Ob.lst []] ++ [Ob.lst []] ++ [Ob.lst (cutW (ns.map .int) (some 3) (some 66))] = h2 at *
    generalize cutW ns (some 3) (some 66) = cells at *
    rw [v_walkR sc]
    have l4 := at_lt sc
    have hn4 : h1.length + 1 + 1 + 1 = h1.length + 3 := rfl
    rw [hn4] at *
    refine w_for0 (fun k env h' => (∃ e11 e12 e13 e14 e15 e16 e17 e10, ∃ s kv n G B T, LI h' 0 fd sd tl h1.length (h1.length + 1) (h1.length + 1 + 1) kv s n G B T ∧ s.room = rm ∧ s.lag = lg ∧ n ≤ 3 * k ∧ env = [some (.con (ns.map .int)), some (.int rm), some (.int lg), some (.ref 0), some (.int s.base), some (.int s.top), some (.int s.got), some (.ref h1.length), some (.ref (h1.length + 1)), some (.ref (h1.length + 1 + 1)), e10, e11, e12, e13, e14, e15, e16, e17]) ∧ h'[h1.length + 3]? = some (.lst (intsW cells))) ⟨⟨_, _, _, _, _, _, _, _, _, _, _, _, _, _, li0, rfl, rfl, by simp, rfl⟩, sc⟩ ?_ ?_ ?_
    · rintro i env h' ⟨-, e⟩
      exact p_stays e
    · rintro i y env h' hy ⟨⟨e11, e12, e13, e14, e15, e16, e17, e10, s, kv, m, G, B, T, li, r1, r2, r4, rfl⟩, e⟩
      obtain ⟨c, hc, rfl⟩ := ints_get hy
      have il : i < cells.length := (List.getElem?_eq_some_iff.mp hc).1
      obtain ⟨rb, hrb⟩ := isrow_ok c
      refine ⟨_, p_asg_nm, ?_⟩
      have cnt : ∃ n : Int, 0 ≤ n ∧ n ≤ 3 ∧ atW [W.int (1 + c % 3), W.int 1] (if rb = true then 1 else 0) = some (.int n) := by
        cases rb with
        | true => exact ⟨1, by omega, by omega, rfl⟩
        | false => exact ⟨1 + c % 3, by omega, by omega, rfl⟩
      obtain ⟨n, n0, n3, hn⟩ := cnt
      simp [l_law_9, ↓v_var, ↓v_lit, ↓v_glo, ↓v_op, ↓v_neg, v_negI, ↓v_not, ↓v_and, ↓v_or, ↓v_isB, ↓v_ch, ↓v_one, ↓v_more, ↓v_call, ↓v_fld, ↓v_meth, ↓v_make, ↓v_bi, ↓v_bm, ↓v_idx, ↓v_slc, ↓v_lst, ↓v_tup, ↓v_dic0, ↓v_xfl, ↓v_xis, ↓v_nil, ↓v_cons, ↓v_no, ↓v_so, ↓v_oneN, ↓v_oneI, ↓v_of, ↓v_rng1, ↓v_rng2, ↓v_rng3, ↓v_walkT, ↓v_walkC, ↓v_walkS, ↓v_enum, ↓v_zip, ↓v_rev, ↓v_lof, ↓v_tst, ↓v_truB, ↓v_run, ↓s_set, ↓s_setI, ↓s_setF, ↓s_incF, ↓s_ret, ↓s_retN, ↓s_expr, ↓s_pass, ↓s_bad, ↓s_ite, ↓s_for, ↓s_while, ↓s_rai, ↓s_try, ↓s_nil, ↓s_cons, ↓s_hnil, ↓s_hcons, ↓s_setNm, ↓s_setTp, ↓s_memS, w_ok, w_ex, w_bad, w_bind, w_calm, w_st, w_nx, w_rt, w_xe, w_bd, w_then, w_catch, w_gone, w_fn, w_if, w_ifS, -List.append_assoc, getVar, List.getElem?_cons_zero, List.getElem?_cons_succ, List.getElem?_nil, p_add, p_sub, p_mul, p_mod, p_fdiv, p_pow, p_eq, p_ne, p_lt, p_le, p_gt, p_ge, p_isInt, p_isBool, p_min, p_max, p_lenC, p_lenT, p_isB, p_asg_nm, p_asg_tp, p_asgs_nil, p_asgs_nm, raiX, LIM, m_shr, m_shl1, m_int, m_intB, m_list, m_listT, m_listC, m_tupR, m_tupT, m_fld, m_gF, m_store, m_sF, m_addF, m_dF, m_isI, m_iI, m_getL, m_oL, m_isL, m_recv, m_walk, m_stays, m_truR, m_tOl, m_newL, m_alloc, m_len, m_lOl, m_lOd, m_app, m_ext, m_getC, m_ins, m_idx, m_xOl, m_xOd, m_idxT, m_idxC, m_at0, m_storeAt, m_sOd, m_key, m_keyS, m_non, m_nnon, isNon_non, isNon_int, isNon_str, isNon_tup, isNon_ref, m_getX, m_gXe, m_isX, m_iXe, m_at, m_slc, m_slcC, m_slcT, m_slcS, m_cat, m_rep, m_isList, get_set, get_app, ne_len, ne_len0, len_ne, len_ne0, se_2, se_3, se_4, es_2, es_3, es_4, ne_len2, ne_len3, len_ne2, len_ne3, putF, List.lookup, hrb, -m_at, hn]
      have e3 := at_app (p := .lst [.int (1 + c % 3), .int 1]) e
      have li3 := li.kp (h' := h' ++ [Ob.lst [W.int (1 + c % 3), W.int 1]]) (by repeat' first | exact Kp.rfl | assumption | refine keeps_app ?_ | refine keeps_set ?_ (by simp [*]))
      generalize h' ++ [Ob.lst [W.int (1 + c % 3), W.int 1]] = h3 at *
      rw [v_rngI (by omega) (by omega) (by omega) (by omega)]
      refine w_for0 (fun k env h' => (∃ e11 e12 e13 e14 e15 e16 e17, ∃ s kv m G B T, LI h' 0 fd sd tl h1.length (h1.length + 1) (h1.length + 1 + 1) kv s m G B T ∧ s.room = rm ∧ s.lag = lg ∧ m ≤ 3 * i + k ∧ env = [some (.con (ns.map .int)), some (.int rm), some (.int lg), some (.ref 0), some (.int s.base), some (.int s.top), some (.int s.got), some (.ref h1.length), some (.ref (h1.length + 1)), some (.ref (h1.length + 1 + 1)), some (.int c), e11, e12, e13, e14, e15, e16, e17]) ∧ h'[h1.length + 3]? = some (.lst (intsW cells))) ⟨⟨_, _, _, _, _, _, _, _, _, _, _, _, _, li3, r1, r2, r4, rfl⟩, e3⟩ ?_ ?_ ?_
      · rintro i env h' -
        exact none_stays
      · rintro j y env h4 hy ⟨⟨e11, e12, e13, e14, e15, e16, e17, s, kv, m, G, B, T, li, r1, r2, r4, rfl⟩, e⟩
        obtain ⟨hj, rfl⟩ := up_get hy
        refine ⟨_, p_asg_nm, ?_⟩
        subst r1 r2
        refine (turn_ok li c _ _ _ _ _ _ _ _ (by omega)).mono ?_ (fun _ _ z => z.elim) (fun _ _ _ z => z.elim)
        rintro env' h5 ⟨kp, s', kv', G', B', T', li', q2, q3, e12, e13, e14, e15, e16, e17, rfl⟩
        refine ⟨⟨_, _, _, _, _, _, _, s', kv', _, G', B', T', li', q2, q3, by omega, rfl⟩, kp.at e ?_⟩
        simp
        omega
      · rintro env h4 ⟨⟨e11, e12, e13, e14, e15, e16, e17, s, kv, m, G, B, T, li, r1, r2, r4, rfl⟩, e⟩
        rw [up_len] at r4
        rw [s_nil]
        exact ⟨⟨_, _, _, _, _, _, _, _, s, kv, m, G, B, T, li, r1, r2, by omega, rfl⟩, e⟩
    · rintro env h' -
      simp [↓v_var, ↓v_lit, ↓v_glo, ↓v_op, ↓v_neg, v_negI, ↓v_not, ↓v_and, ↓v_or, ↓v_isB, ↓v_ch, ↓v_one, ↓v_more, ↓v_call, ↓v_fld, ↓v_meth, ↓v_make, ↓v_bi, ↓v_bm, ↓v_idx, ↓v_slc, ↓v_lst, ↓v_tup, ↓v_dic0, ↓v_xfl, ↓v_xis, ↓v_nil, ↓v_cons, ↓v_no, ↓v_so, ↓v_oneN, ↓v_oneI, ↓v_of, ↓v_rng1, ↓v_rng2, ↓v_rng3, ↓v_walkT, ↓v_walkC, ↓v_walkS, ↓v_enum, ↓v_zip, ↓v_rev, ↓v_lof, ↓v_tst, ↓v_truB, ↓v_run, ↓s_set, ↓s_setI, ↓s_setF, ↓s_incF, ↓s_ret, ↓s_retN, ↓s_expr, ↓s_pass, ↓s_bad, ↓s_ite, ↓s_for, ↓s_while, ↓s_rai, ↓s_try, ↓s_nil, ↓s_cons, ↓s_hnil, ↓s_hcons, ↓s_setNm, ↓s_setTp, ↓s_memS, w_ok, w_ex, w_bad, w_bind, w_calm, w_st, w_nx, w_rt, w_xe, w_bd, w_then, w_catch, w_gone, w_fn, w_if, w_ifS, -List.append_assoc, getVar, List.getElem?_cons_zero, List.getElem?_cons_succ, List.getElem?_nil, p_add, p_sub, p_mul, p_mod, p_fdiv, p_pow, p_eq, p_ne, p_lt, p_le, p_gt, p_ge, p_isInt, p_isBool, p_min, p_max, p_lenC, p_lenT, p_isB, p_asg_nm, p_asg_tp, p_asgs_nil, p_asgs_nm, raiX, LIM, m_shr, m_shl1, m_int, m_intB, m_list, m_listT, m_listC, m_tupR, m_tupT, m_fld, m_gF, m_store, m_sF, m_addF, m_dF, m_isI, m_iI, m_getL, m_oL, m_isL, m_recv, m_walk, m_stays, m_truR, m_tOl, m_newL, m_alloc, m_len, m_lOl, m_lOd, m_app, m_ext, m_getC, m_ins, m_idx, m_xOl, m_xOd, m_idxT, m_idxC, m_at0, m_storeAt, m_sOd, m_key, m_keyS, m_non, m_nnon, isNon_non, isNon_int, isNon_str, isNon_tup, isNon_ref, m_getX, m_gXe, m_isX, m_iXe, m_at, m_slc, m_slcC, m_slcT, m_slcS, m_cat, m_rep, m_isList, get_set, get_app, ne_len, ne_len0, len_ne, len_ne0, se_2, se_3, se_4, es_2, es_3, es_4, ne_len2, ne_len3, len_ne2, len_ne3, putF, List.lookup]
  obtain ⟨v, h', e, rfl⟩ := main.get
  exact ⟨h', e⟩

end
section
open PySem L2 PySem.Spec PyProof.Rows
def top (i : Nat) : Stmt := PySem.Challenge.pw_slowroad_k35_whole_never_mistaken.main.body.getD i (.Pass ⟨0, 0, 0, 0⟩)
def inC (i j : Nat) : Stmt := match top i with
  | .ClassDef _ _ _ b _ _ _ _ _ _ _ => b.getD j (.Pass ⟨0, 0, 0, 0⟩)
  | s => s
def e__law_size : DE := ⟨0, "", 0, "_law_size", "_law_size", f__law_size, ["_law_cell", "_law_small", "_law_large"], ["_law_cell", "_law_small", "_law_large"], defArgs (top 20), defBody (top 20), defScope (top 20)⟩
def e_check_pair : DE := ⟨0, "", 1, "check_pair", "check_pair", f_check_pair, ["ring", "room", "lag"], ["ring", "room", "lag"], defArgs (top 10), defBody (top 10), defScope (top 10)⟩
def e_Pair___init__ : DE := ⟨1, "Pair", 0, "__init__", "Pair.__init__", f_Pair___init__, ["self", "ring", "room", "lag"], ["self", "ring", "room", "lag"], defArgs (inC 11 0), defBody (inC 11 0), defScope (inC 11 0)⟩
def e__law_cell_at : DE := ⟨0, "", 2, "_law_cell_at", "_law_cell_at", f__law_cell_at, ["_law_script", "_law_k"], ["_law_script", "_law_k"], defArgs (top 14), defBody (top 14), defScope (top 14)⟩
def e__law_ring : DE := ⟨0, "", 3, "_law_ring", "_law_ring", f__law_ring, ["_law_cell", "_law_room", "_law_lag", "_law_least"], ["_law_cell", "_law_room", "_law_lag"], defArgs (top 21), defBody (top 21), defScope (top 21)⟩
def e__law_is_row : DE := ⟨0, "", 4, "_law_is_row", "_law_is_row", f__law_is_row, ["_law_cell"], ["_law_cell"], defArgs (top 16), defBody (top 16), defScope (top 16)⟩
def e__law_mixed : DE := ⟨0, "", 5, "_law_mixed", "_law_mixed", f__law_mixed, ["_law_cell", "_law_k", "_law_number", "_law_turn"], ["_law_cell", "_law_k"], defArgs (top 15), defBody (top 15), defScope (top 15)⟩
def e__law_births : DE := ⟨0, "", 6, "_law_births", "_law_births", f__law_births, ["_law_number", "_law_now", "_law_lag", "_law_found", "_law_birth"], ["_law_number", "_law_now", "_law_lag"], defArgs (top 22), defBody (top 22), defScope (top 22)⟩
def e__law_digit : DE := ⟨0, "", 7, "_law_digit", "_law_digit", f__law_digit, ["_law_cell", "_law_k", "_law_number"], ["_law_cell", "_law_k"], defArgs (top 17), defBody (top 17), defScope (top 17)⟩
def e__law_picked : DE := ⟨0, "", 8, "_law_picked", "_law_picked", f__law_picked, ["_law_cell", "_law_k", "_law_now", "_law_lag", "_law_found", "_law_j", "_law_birth"], ["_law_cell", "_law_k", "_law_now", "_law_lag"], defArgs (top 18), defBody (top 18), defScope (top 18)⟩
def e__law_drawn : DE := ⟨0, "", 9, "_law_drawn", "_law_drawn", f__law_drawn, ["_law_cell", "_law_now", "_law_lag", "_law_number", "_law_comings"], ["_law_cell", "_law_now", "_law_lag"], defArgs (top 19), defBody (top 19), defScope (top 19)⟩
def e__law_item : DE := ⟨0, "", 10, "_law_item", "_law_item", f__law_item, ["_law_cell", "_law_now", "_law_base", "_law_top", "_law_room", "_law_number", "_law_some"], ["_law_cell", "_law_now", "_law_base", "_law_top", "_law_room"], defArgs (top 23), defBody (top 23), defScope (top 23)⟩
def e__law_whole : DE := ⟨0, "", 11, "_law_whole", "_law_whole", f__law_whole, ["_law_found"], ["_law_found"], defArgs (top 13), defBody (top 13), defScope (top 13)⟩
def e__law_alike : DE := ⟨0, "", 12, "_law_alike", "_law_alike", f__law_alike, ["_law_found", "_law_due", "_law_place"], ["_law_found", "_law_due"], defArgs (top 25), defBody (top 25), defScope (top 25)⟩
def e_Pair_is_near : DE := ⟨1, "Pair", 1, "is_near", "Pair.is_near", f_Pair_is_near, ["self", "birth", "now"], ["self", "birth"], defArgs (inC 11 1), defBody (inC 11 1), defScope (inC 11 1)⟩
def e_Pair_check_comings : DE := ⟨1, "Pair", 2, "check_comings", "Pair.check_comings", f_Pair_check_comings, ["self", "comings", "answers", "now", "birth"], ["self", "comings", "answers"], defArgs (inC 11 2), defBody (inC 11 2), defScope (inC 11 2)⟩
def e_ahead : DE := ⟨0, "", 13, "ahead", "ahead", f_ahead, ["ring", "one", "other"], ["ring", "one", "other"], defArgs (top 5), defBody (top 5), defScope (top 5)⟩
def e_Pair_base_behind : DE := ⟨1, "Pair", 3, "base_behind", "Pair.base_behind", f_Pair_base_behind, ["self", "answers", "base", "birth", "far"], ["self", "answers"], defArgs (inC 11 3), defBody (inC 11 3), defScope (inC 11 3)⟩
def e_Pair_file_one : DE := ⟨1, "Pair", 4, "file_one", "Pair.file_one", f_Pair_file_one, ["self", "birth", "far", "place"], ["self", "birth"], defArgs (inC 11 4), defBody (inC 11 4), defScope (inC 11 4)⟩
def e_Pair_play : DE := ⟨1, "Pair", 5, "play", "Pair.play", f_Pair_play, ["self", "comings", "answers", "item", "now", "base", "places", "birth"], ["self", "comings", "answers", "item"], defArgs (inC 11 5), defBody (inC 11 5), defScope (inC 11 5)⟩
def e__law_stands : DE := ⟨0, "", 14, "_law_stands", "_law_stands", f__law_stands, ["_law_pair", "_law_base", "_law_top", "_law_got"], ["_law_pair", "_law_base", "_law_top", "_law_got"], defArgs (top 24), defBody (top 24), defScope (top 24)⟩
def e_law : DE := ⟨0, "", 15, "law", "law", f_law, ["_law_script", "_law_room", "_law_lag", "_law_pair", "_law_base", "_law_top", "_law_got", "_law_come", "_law_sent", "_law_told", "_law_cell", "_law_turn", "_law_now", "_law_comings", "_law_due", "_law_birth", "_law_item_here", "_law_answers"], ["_law_script"], defArgs (top 26), defBody (top 26), defScope (top 26)⟩
def below : List DE := [e__law_stands, e_Pair_play, e_Pair_file_one, e_Pair_base_behind, e_ahead, e_Pair_check_comings, e_Pair_is_near, e__law_alike, e__law_whole, e__law_item, e__law_drawn, e__law_picked, e__law_digit, e__law_births, e__law_mixed, e__law_is_row, e__law_ring, e__law_cell_at, e_Pair___init__, e_check_pair, e__law_size]
def x_BadTurn : DE := ⟨4, "BadTurn", 0, "__init__", "BadTurn.__init__", ⟨0, 0, .nil⟩, ["self", "words", "turn"], ["self", "words", "turn"], defArgs (inC 3 0), defBody (inC 3 0), defScope (inC 3 0)⟩
def lw : LW := ⟨e_law :: below, [("GREATEST_RING", (.int 1000000)), ("GREATEST_ROOM", (.int 60)), ("GREATEST_LAG", (.int 60))], [(0, "Pair")], [(0, 0), (0, 1), (0, 2), (0, 3), (0, 4), (0, 5), (0, 6), (0, 7), (0, 8)], ["ring", "room", "lag", "base", "top", "got", "filed", "sendings", "answers_told", "turn"], [(1, ⟨"RoadError", none, [1, 2, 3]⟩), (2, ⟨"BadPair", none, [2]⟩), (3, ⟨"BadTurn", some [9], [3]⟩)], [9], [x_BadTurn]⟩
theorem bx_BadTurn : BndOk x_BadTurn := fun _ _ _ _ _ _ us hl => match us, hl with | [_, _, _], _ => rfl
theorem bx : AllB lw.xi := (.cons bx_BadTurn .nil)
theorem b__law_size : BndOk e__law_size := fun _ _ _ _ _ _ us hl => match us, hl with | [_, _, _], _ => rfl
theorem b_check_pair : BndOk e_check_pair := fun _ _ _ _ _ _ us hl => match us, hl with | [_, _, _], _ => rfl
theorem b_Pair___init__ : BndOk e_Pair___init__ := fun _ _ _ _ _ _ us hl => match us, hl with | [_, _, _, _], _ => rfl
theorem b__law_cell_at : BndOk e__law_cell_at := fun _ _ _ _ _ _ us hl => match us, hl with | [_, _], _ => rfl
theorem b__law_ring : BndOk e__law_ring := fun _ _ _ _ _ _ us hl => match us, hl with | [_, _, _], _ => rfl
theorem b__law_is_row : BndOk e__law_is_row := fun _ _ _ _ _ _ us hl => match us, hl with | [_], _ => rfl
theorem b__law_mixed : BndOk e__law_mixed := fun _ _ _ _ _ _ us hl => match us, hl with | [_, _], _ => rfl
theorem b__law_births : BndOk e__law_births := fun _ _ _ _ _ _ us hl => match us, hl with | [_, _, _], _ => rfl
theorem b__law_digit : BndOk e__law_digit := fun _ _ _ _ _ _ us hl => match us, hl with | [_, _], _ => rfl
theorem b__law_picked : BndOk e__law_picked := fun _ _ _ _ _ _ us hl => match us, hl with | [_, _, _, _], _ => rfl
theorem b__law_drawn : BndOk e__law_drawn := fun _ _ _ _ _ _ us hl => match us, hl with | [_, _, _], _ => rfl
theorem b__law_item : BndOk e__law_item := fun _ _ _ _ _ _ us hl => match us, hl with | [_, _, _, _, _], _ => rfl
theorem b__law_whole : BndOk e__law_whole := fun _ _ _ _ _ _ us hl => match us, hl with | [_], _ => rfl
theorem b__law_alike : BndOk e__law_alike := fun _ _ _ _ _ _ us hl => match us, hl with | [_, _], _ => rfl
theorem b_Pair_is_near : BndOk e_Pair_is_near := fun _ _ _ _ _ _ us hl => match us, hl with | [_, _], _ => rfl
theorem b_Pair_check_comings : BndOk e_Pair_check_comings := fun _ _ _ _ _ _ us hl => match us, hl with | [_, _, _], _ => rfl
theorem b_ahead : BndOk e_ahead := fun _ _ _ _ _ _ us hl => match us, hl with | [_, _, _], _ => rfl
theorem b_Pair_base_behind : BndOk e_Pair_base_behind := fun _ _ _ _ _ _ us hl => match us, hl with | [_, _], _ => rfl
theorem b_Pair_file_one : BndOk e_Pair_file_one := fun _ _ _ _ _ _ us hl => match us, hl with | [_, _], _ => rfl
theorem b_Pair_play : BndOk e_Pair_play := fun _ _ _ _ _ _ us hl => match us, hl with | [_, _, _, _], _ => rfl
theorem b__law_stands : BndOk e__law_stands := fun _ _ _ _ _ _ us hl => match us, hl with | [_, _, _, _], _ => rfl
theorem b_law : BndOk e_law := fun _ _ _ _ _ _ us hl => match us, hl with | [_], _ => rfl
theorem bnd : AllB lw.L := (.cons b_law (.cons b__law_stands (.cons b_Pair_play (.cons b_Pair_file_one (.cons b_Pair_base_behind (.cons b_ahead (.cons b_Pair_check_comings (.cons b_Pair_is_near (.cons b__law_alike (.cons b__law_whole (.cons b__law_item (.cons b__law_drawn (.cons b__law_picked (.cons b__law_digit (.cons b__law_births (.cons b__law_mixed (.cons b__law_is_row (.cons b__law_ring (.cons b__law_cell_at (.cons b_Pair___init__ (.cons b_check_pair (.cons b__law_size .nil))))))))))))))))))))))
theorem chk : chkL lw.lf lw.L = true := by decide +kernel
def loose : List Str := ["ahead", "check_pair", "_law_whole", "_law_cell_at", "_law_mixed", "_law_is_row", "_law_digit", "_law_picked", "_law_drawn", "_law_size", "_law_ring", "_law_births", "_law_item", "_law_stands", "_law_alike", "GREATEST_RING", "GREATEST_ROOM", "GREATEST_LAG", "Pair", "RoadError", "BadPair", "BadTurn"]
abbrev Rw : PySem.W.OpenRow := PySem.W.OpenLaw.row PySem.Challenge.rw_slowroad_k35_whole_never_mistaken
abbrev fa : List He.Fa := lw.fa
abbrev fn : List He.DefD := lw.ds
abbrev ex : PySem.W.Frag → Bool := exL lw
abbrev hk : PySem.W.Hook := hookM 5 fa fn ex
def ob (s : PySem.W.SharedT) : AlM := obsMG 5 fa fn ex (HandSHeadRun.getT s)
theorem ob_eq (s : PySem.W.SharedT) : ob s = hk.obs s.abs := obsMG_eq (HandSHeadRun.getT_eq s)
theorem head (w : World) : HandSHeadRun.RunEq Rw (PySem.W.view Rw.prog [26]) hk ob 20000 loose w := by
  intro os
  kernel_rfl
end
theorem plain (ns : List Int) (hl : ns.length ≤ 63) : ∃ h', run e_law.df (tabOf below) [.con (ns.map .int)] [] = .ok (.bl true) h' := plain0 ns hl
end DM
open PySem PySem.Calls PySem.W PyProof.Rows
theorem PySem.Challenge.cw_slowroad_k35_whole_never_mistaken_holds : PySem.Challenge.rw_slowroad_k35_whole_never_mistaken.Holds := by
  w_on; o_law
  refine HandSHeadRun.head_any (r := OpenLaw.row PySem.Challenge.rw_slowroad_k35_whole_never_mistaken) (q := view (OpenLaw.row PySem.Challenge.rw_slowroad_k35_whole_never_mistaken).prog [26]) (H := DM.hk) (ob := DM.ob) (M := 20000) (loose := DM.loose) (d := HandSHeadRun.topDef (OpenLaw.row PySem.Challenge.rw_slowroad_k35_whole_never_mistaken).prog 26) (kwd := []) DM.ob_eq
    (by kernel_rfl) (fun s => by kernel_rfl) DM.head (by kernel_rfl) (by kernel_rfl) (by kernel_rfl) (by rfl) (by first | assumption | decide +kernel) (by decide +kernel) ⟨rfl, rfl, rfl, rfl, rfl, by decide +kernel⟩ ?hw ?hc
  case hw => w_witness2
  case hc =>
    refine DM.law_end (l := PySem.Challenge.rw_slowroad_k35_whole_never_mistaken) (n := 63) (k := 2 * DM.below.length + 3) (x := "_law_script") rfl (by decide) (by kernel_rfl) ⟨rfl, by decide, by decide⟩ ?F
    intro w mg fa h Y G hmg0
    have hmg : mg ("law" : PySem.Str) = some (.ref fa) := by
      have e : (HandSHeadRun.topDef (OpenLaw.row PySem.Challenge.rw_slowroad_k35_whole_never_mistaken).prog 26).name = ("law" : PySem.Str) := by kernel_rfl
      rw [← e]
      exact hmg0
    exact DM.law_F (P := (PySem.Challenge.rw_slowroad_k35_whole_never_mistaken).prog) (n := 63) (l := DM.lw) (dl := DM.e_law) (r := DM.below) rfl rfl rfl DM.bnd DM.bx (by decide +kernel) (by decide) (by decide +kernel) (by decide +kernel) DM.chk DM.plain w mg fa h Y G hmg
