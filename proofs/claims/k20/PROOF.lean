import PyProof.Rows.All
import Wide.All
import OpenK.AllK
import Wide.FinOn
import PySem.PyData
import PyProof.P3Statements
import HandS.ForMost
import HandS.ForExc
import HandS.Style
import HandS.Deep
import HandS.SortInts
import HandS.TupAny
import HandS.TupMul
import HandS.IsInst
import HandS.Wide
import HandS.Zip
import HandS.DictTup
import HandS.CallSlots
import HandS.Conv
import HandS.TupLen
import HandS.SetFor
import HandS.EndBits
import KE.KSortedM
import HandS.Lambda
import KE.GoesEnum
import HandS.WordsExc
import HandS.Defaults
import PySem.Challenge.RW_crowdswap_k20_corners
set_option Elab.async false
set_option linter.all false
set_option maxRecDepth 100000
set_option maxHeartbeats 4000000
/-! Cs1 -/
/-! Cs1: a small language with weakest preconditions: values, heap, expressions E, statements S. Nothing of the model but its texts and data. -/
namespace CS
open PySem

inductive Val where
  | non | bl (b : Bool) | int (i : Int) | str (s : Str) | tup (vs : List Val) | rol (vs : List Val) | ref (a : Nat) | fn (f : Str) | ty (t : String) | cl (c : Str)

inductive Obj where
  | list (vs : List Val)
  | dict (lk : Bool) (kvs : List (Val × Val))
  | inst (C : Str) (fs : List (Str × Val))

abbrev HS := Nat → Option Obj
def HS.up (h : HS) (a : Nat) (o : Obj) : HS := fun b => if b = a then some o else h b
abbrev Env := List (Option Val)
abbrev PV := Val → HS → Prop
structure Exn where
  c : Str
  fs : List (Str × Val)
abbrev PX := Exn → HS → Prop
abbrev FS := List Val → HS → PV → PX → Prop

/-! ### operators -/
inductive Op2 where
  | add | sub | mul | fdiv | mod | pow | xor
  deriving DecidableEq
inductive Cmp where
  | eq | ne | lt | le | gt | ge | is | nis | mem | nmem
  deriving DecidableEq
inductive BI where
  | len | list | tuple | sorted | sum | all | min | max | int | dict
  deriving DecidableEq
inductive BM where
  | append | extend | pop | clear | count | index | items | values | get | dpop | update | setdefault
  deriving DecidableEq
inductive BT where
  | none | bool | int | str | tuple | list | dict
  deriving DecidableEq
def BT.name : BT → String
  | .none => "NoneType" | .bool => "bool" | .int => "int" | .str => "str" | .tuple => "tuple" | .list => "list" | .dict => "dict"
def BT.sub : BT → BT → Bool
  | .bool, .int => true
  | a, b => decide (a = b)
inductive Ty where
  | b (n : BT) | o (c : Str)

mutual
inductive E where
  | var (i : Nat)
  | lit (v : Val)
  | glob (x : Str) (v : Val)
  | op (o : Op2) (a b : E)
  | neg (a : E)
  | not (a : E)
  | and (a b : E)
  | or (a b : E)
  | cmp (o : Cmp) (a b : E)
  | chain (o p : Cmp) (a b c : E)
  | isi (a : E) (t : Ty)
  | ifx (c : C) (a b : E)
  | tup (es : Es)
  | lst (es : Es)
  | dct (ks : Ks)
  | ix (a i : E)
  | sl (a : E) (lo hi : OE)
  | rev (a : E)
  | call (f : Str) (es : Es)
  | bi (f : BI) (es : Es)
  | mk (c : Str) (es : Es) (ds : List Val)
  | meth (c m : Str) (o : E) (es : Es)
  | bm (m : BM) (o : E) (es : Es)
  | attr (c : Str) (o : E) (f : Str)
  | lc (elt : E) (g : G) (s : Src) (t : OC) (own : List Nat)
inductive Es where
  | nil | cons (e : E) (es : Es)
inductive Ks where
  | nil | cons (k v : E) (r : Ks)
inductive OE where
  | no | so (e : E)
inductive C where
  | val (e : E)
  | cmp (o : Cmp) (a b : E)
  | chain (o p : Cmp) (a b c : E)
  | not (c : C)
  | and (a b : C)
  | or (a b : C)
inductive OC where
  | no | so (c : C)
inductive Src where
  | ex (e : E)
  | rng1 (a : E)
  | rng2 (a b : E)
  | rng3 (a b c : E)
  | enum (e : E)
  | zip (a b : E)
  | items (e : E)
inductive G where
  | name (i : Nat)
  | tup (gs : Gs)
  | sub (o i : E)
  | attr (c : Str) (o : E) (f : Str)
inductive Gs where
  | nil | cons (g : G) (gs : Gs)
end
mutual
inductive S where
  | set (g : G) (e : E)
  | augn (i : Nat) (o : Op2) (e : E)
  | augs (a i : E) (o : Op2) (e : E)
  | ex (e : E)
  | ret (e : E)
  | retN
  | iff (c : C) (a b : Ss)
  | for_ (g : G) (s : Src) (b : Ss)
  | whil (c : C) (b : Ss)
  | brk
  | pass
  | raise (c : Str) (es : Es)
  | try_ (b : Ss) (hs : Hs)
inductive Ss where
  | nil | cons (s : S) (ss : Ss)
inductive Hs where
  | nil | cons (c : Str) (i : Option Nat) (b : Ss) (r : Hs)
end

/-! ### what values are worth -/
def cap : Nat := 16777216
def truth (h : HS) : Val → Option Bool
  | .non => some false
  | .bl b => some b
  | .int i => some (i != 0)
  | .tup vs => some (!vs.isEmpty)
  | .rol vs => some (!vs.isEmpty)
  | .ref a => match h a with
    | some (.list vs) => some (!vs.isEmpty)
    | _ => none
  | _ => none
def listAt (h : HS) (a : Nat) : Option (List Val) := match h a with
  | some (.list vs) => some vs
  | _ => none
/-- a list's or a tuple's items -/
def seqOf (h : HS) : Val → Option (List Val)
  | .tup vs => some vs
  | .rol vs => some vs
  | .ref a => listAt h a
  | _ => none
def toD (h : HS) : Nat → Val → Option PyData
  | _, .non => some .none
  | _, .bl b => some (.bool b)
  | _, .int i => some (.int i)
  | _, .str s => if PyData.strOk s = true then some (.str s) else none
  | n + 1, .tup vs => (vs.mapM (toD h n)).map .tuple
  | n + 1, .rol vs => (vs.mapM (toD h n)).map .list
  | n + 1, .ref a => match listAt h a with
    | some vs => (vs.mapM (toD h n)).map .list
    | none => none
  | _, _ => none
def fuel : Nat := 20
def asInt : Val → Option Int
  | .int i => some i
  | _ => none
def asBool : Val → Option Bool
  | .bl b => some b
  | _ => none
def six (n d : Nat) : Option Int → Nat
  | none => d
  | some i => if i < 0 then (i + n).toNat else min i.toNat n
def cut (vs : List Val) (lo hi : Option Int) : List Val := (vs.drop (six vs.length 0 lo)).take (six vs.length vs.length hi - six vs.length 0 lo)
def ixAt (n : Nat) (i : Int) : Option Nat := if 0 ≤ i then (if i < n then some i.toNat else none) else if -(n : Int) ≤ i then some (i + n).toNat else none
def itemAt (vs : List Val) (i : Int) : Option Val := (ixAt vs.length i).bind fun j => vs[j]?
def sortI (ns : List Int) : List Int := ns.mergeSort fun a b => decide (a ≤ b)
def minI : List Int → Option Int
  | [] => none
  | x :: xs => some (xs.foldl min x)
def maxI : List Int → Option Int
  | [] => none
  | x :: xs => some (xs.foldl max x)

mutual
def Val.beq : Val → Val → Bool
  | .non, .non => true
  | .bl a, .bl b => a == b
  | .int a, .int b => a == b
  | .str a, .str b => decide (a = b)
  | .tup a, .tup b => Val.beqs a b
  | .rol a, .rol b => Val.beqs a b
  | .ref a, .ref b => a == b
  | .fn a, .fn b => decide (a = b)
  | .ty a, .ty b => a == b
  | .cl a, .cl b => decide (a = b)
  | _, _ => false
def Val.beqs : List Val → List Val → Bool
  | [], [] => true
  | x :: xs, y :: ys => Val.beq x y && Val.beqs xs ys
  | _, _ => false
end

/-- a key: a tuple of ints and texts, not empty -/
def isKey : Val → Bool
  | .tup vs => !vs.isEmpty && vs.all fun v => match v with | .int _ => true | .str _ => true | _ => false
  | _ => false
def dget (kvs : List (Val × Val)) (k : Val) : Option Val := (kvs.find? fun p => p.1.beq k).map (·.2)
def dput (kvs : List (Val × Val)) (k v : Val) : List (Val × Val) :=
  if kvs.any fun p => p.1.beq k then kvs.map fun p => if p.1.beq k then (p.1, v) else p else kvs ++ [(k, v)]
def ddrop (kvs : List (Val × Val)) (k : Val) : List (Val × Val) := kvs.filter fun p => !p.1.beq k

/-- a new object at any free place -/
def new (h : HS) (o : Obj) (Q : PV) : Prop := ∀ p, h p = none → Q (.ref p) (h.up p o)

def op2 (o : Op2) (h : HS) (x y : Val) (Q : PV) : Prop := match o, x, y with
  | .add, .int i, .int j => Q (.int (i + j)) h
  | .sub, .int i, .int j => Q (.int (i - j)) h
  | .mul, .int i, .int j => ((-(2 ^ 64) < i ∧ i < 2 ^ 64) ∨ (-(2 ^ 64) < j ∧ j < 2 ^ 64)) ∧ Q (.int (i * j)) h
  | .fdiv, .int i, .int j => (j ≠ 0 ∧ j.natAbs < 1073741824) ∧ Q (.int (i.fdiv j)) h
  | .mod, .int i, .int j => j ≠ 0 ∧ Q (.int (i.fmod j)) h
  | .pow, .int i, .int j => (0 ≤ j ∧ j ≤ 1000000 ∧ i.natAbs < 2 ^ 64) ∧ Q (.int (i ^ j.toNat)) h
  | .add, .tup xs, .tup ys => xs.length + ys.length ≤ cap ∧ Q (.tup (xs ++ ys)) h
  | .add, .ref a, .ref b => (match h a, h b with
    | some (.list xs), some (.list ys) => xs.length + ys.length ≤ cap ∧ new h (.list (xs ++ ys)) Q
    | _, _ => False)
  | .add, .rol xs, .ref b => (match h b with
    | some (.list ys) => xs.length + ys.length ≤ cap ∧ new h (.list (xs ++ ys)) Q
    | _ => False)
  | .mul, .ref a, .int k => (match h a with
    | some (.list xs) => -(2 ^ 63) ≤ k ∧ k < 2 ^ 63 ∧ xs.length * k.toNat ≤ cap ∧ new h (.list (List.replicate k.toNat xs).flatten) Q
    | _ => False)
  | .mul, .tup xs, .int k => xs ≠ [] ∧ 2 ≤ k ∧ k ≤ 1000 ∧ xs.length ≤ 1000 ∧ Q (.tup (List.replicate k.toNat xs).flatten) h
  | _, _, _ => False
def isNon : Val → Bool
  | .non => true
  | _ => false
def cmp2 (o : Cmp) (h : HS) (x y : Val) (Q : Bool → Prop) : Prop := match o with
  | .eq => ∃ d e, toD h fuel x = some d ∧ toD h fuel y = some e ∧ Q (PyData.eqv d e)
  | .ne => ∃ d e, toD h fuel x = some d ∧ toD h fuel y = some e ∧ Q (!PyData.eqv d e)
  | .lt => ∃ i j, x = .int i ∧ y = .int j ∧ Q (decide (i < j))
  | .le => ∃ i j, x = .int i ∧ y = .int j ∧ Q (decide (i ≤ j))
  | .gt => ∃ i j, x = .int i ∧ y = .int j ∧ Q (decide (j < i))
  | .ge => ∃ i j, x = .int i ∧ y = .int j ∧ Q (decide (j ≤ i))
  | .is => y = .non ∧ Q (isNon x)
  | .nis => y = .non ∧ Q (!isNon x)
  | .mem => (match y with
    | .ref a => (match h a with
      | some (.dict _ kvs) => isKey x = true ∧ Q (dget kvs x).isSome
      | _ => ∃ d vs ds, toD h fuel x = some d ∧ listAt h a = some vs ∧ vs.mapM (toD h fuel) = some ds ∧ Q (ds.any fun z => PyData.eqv z d))
    | .tup vs => ∃ d ds, toD h fuel x = some d ∧ vs.mapM (toD h fuel) = some ds ∧ Q (ds.any fun z => PyData.eqv z d)
    | _ => False)
  | .nmem => (match y with
    | .ref a => (match h a with
      | some (.dict _ kvs) => isKey x = true ∧ Q (!(dget kvs x).isSome)
      | _ => ∃ d vs ds, toD h fuel x = some d ∧ listAt h a = some vs ∧ vs.mapM (toD h fuel) = some ds ∧ Q (!(ds.any fun z => PyData.eqv z d)))
    | .tup vs => ∃ d ds, toD h fuel x = some d ∧ vs.mapM (toD h fuel) = some ds ∧ Q (!(ds.any fun z => PyData.eqv z d))
    | _ => False)
def tyOf (cs : List Str) (h : HS) : Val → Option Ty
  | .non => some (.b .none)
  | .bl _ => some (.b .bool)
  | .int _ => some (.b .int)
  | .str _ => some (.b .str)
  | .tup _ => some (.b .tuple)
  | .rol _ => some (.b .list)
  | .ref a => (match h a with
    | some (.list _) => some (.b .list)
    | some (.dict false _) => some (.b .dict)
    | some (.dict true _) => none
    | some (.inst C _) => if cs.contains C = true then some (.o C) else none
    | none => none)
  | _ => none
def isT : Ty → Ty → Bool
  | .b a, .b n => a.sub n
  | .b _, .o _ => false
  | .o _, .b _ => false
  | .o c, .o d => decide (c = d)
def isI (cs : List Str) (h : HS) (t : Ty) (v : Val) : Option Bool := (tyOf cs h v).map fun u => isT u t

/-- subscripts -/
def ixS (h : HS) (x y : Val) (Q : PV) : Prop := match x with
  | .tup vs => ∃ i v, y = .int i ∧ itemAt vs i = some v ∧ Q v h
  | .ref a => (match h a with
    | some (.dict _ kvs) => isKey y = true ∧ ∃ v, dget kvs y = some v ∧ Q v h
    | _ => ∃ i vs v, y = .int i ∧ listAt h a = some vs ∧ itemAt vs i = some v ∧ Q v h)
  | _ => False
def setIx (h : HS) (x y v : Val) (K : HS → Prop) : Prop := match x with
  | .ref a => (match h a with
    | some (.dict lk kvs) => lk = false ∧ isKey y = true ∧ kvs.length < cap ∧ K (h.up a (.dict false (dput kvs y v)))
    | some (.list vs) => ∃ i j, y = .int i ∧ ixAt vs.length i = some j ∧ K (h.up a (.list (vs.set j v)))
    | _ => False)
  | _ => False
def optI : Option Val → Option (Option Int)
  | none => some none
  | some (.int i) => some (some i)
  | _ => none
def slS (h : HS) (x : Val) (i j : Option Int) (Q : PV) : Prop := match x with
  | .tup vs => Q (.tup (cut vs i j)) h
  | .ref a => ∃ vs, listAt h a = some vs ∧ new h (.list (cut vs i j)) Q
  | _ => False

def biS (f : BI) (args : List Val) (h : HS) (Q : PV) : Prop := match f, args with
  | .len, [.tup vs] => Q (.int vs.length) h
  | .len, [.rol vs] => Q (.int vs.length) h
  | .len, [.ref a] => (match h a with
    | some (.dict lk kvs) => lk = false ∧ Q (.int kvs.length) h
    | _ => ∃ vs, listAt h a = some vs ∧ Q (.int vs.length) h)
  | .list, [.tup vs] => new h (.list vs) Q
  | .list, [.rol vs] => new h (.list vs) Q
  | .list, [.ref a] => (match h a with
    | some (.dict _ kvs) => new h (.list (kvs.map (·.1))) Q
    | _ => ∃ vs, listAt h a = some vs ∧ new h (.list vs) Q)
  | .tuple, [x] => ∃ vs, seqOf h x = some vs ∧ Q (.tup vs) h
  | .sorted, [.ref a] => ∃ vs ns, listAt h a = some vs ∧ vs.mapM asInt = some ns ∧ new h (.list ((sortI ns).map .int)) Q
  | .sum, [.ref a] => ∃ vs ns, listAt h a = some vs ∧ vs.mapM asInt = some ns ∧ Q (.int ns.sum) h
  | .all, [.ref a] => ∃ vs bs, listAt h a = some vs ∧ vs.mapM asBool = some bs ∧ Q (.bl (bs.all id)) h
  | .min, [.int i, .int j] => Q (.int (min i j)) h
  | .max, [.int i, .int j] => Q (.int (max i j)) h
  | .min, [.ref a] => ∃ vs ns m, listAt h a = some vs ∧ vs.mapM asInt = some ns ∧ minI ns = some m ∧ Q (.int m) h
  | .max, [.ref a] => ∃ vs ns m, listAt h a = some vs ∧ vs.mapM asInt = some ns ∧ maxI ns = some m ∧ Q (.int m) h
  | .int, [.int i] => Q (.int i) h
  | .int, [.bl b] => Q (.int (if b then 1 else 0)) h
  | _, _ => False
def bmS (m : BM) (x : Val) (args : List Val) (h : HS) (Q : PV) : Prop := match m with
  | .append => ∃ a vs v, x = .ref a ∧ args = [v] ∧ h a = some (.list vs) ∧ vs.length < cap ∧ Q .non (h.up a (.list (vs ++ [v])))
  | .extend => ∃ a vs b ws, x = .ref a ∧ args = [.ref b] ∧ h a = some (.list vs) ∧ h b = some (.list ws) ∧ vs.length + ws.length ≤ cap ∧ Q .non (h.up a (.list (vs ++ ws)))
  | .pop => ∃ a vs, x = .ref a ∧ h a = some (.list vs) ∧ ((args = [] ∧ ∃ v, vs[vs.length - 1]? = some v ∧ Q v (h.up a (.list vs.dropLast))) ∨
      ∃ i j v, args = [.int i] ∧ ixAt vs.length i = some j ∧ vs[j]? = some v ∧ Q v (h.up a (.list (vs.eraseIdx j))))
  | .clear => ∃ a vs, x = .ref a ∧ args = [] ∧ h a = some (.list vs) ∧ Q .non (h.up a (.list []))
  | .count => ∃ a vs ns k, x = .ref a ∧ args = [.int k] ∧ h a = some (.list vs) ∧ vs.mapM asInt = some ns ∧ Q (.int (ns.count k : Nat)) h
  | _ => False

def fput (f : Str) (v : Val) : List (Str × Val) → List (Str × Val)
  | [] => [(f, v)]
  | (g, x) :: r => if g = f then (g, v) :: r else (g, x) :: fput f v r
def aug2 (o : Op2) (x y : Val) (K : Val → Prop) : Prop := match o, x, y with
  | .add, .int i, .int j => K (.int (i + j))
  | .sub, .int i, .int j => K (.int (i - j))
  | _, _, _ => False
/-- what the receiver must be -/
def bmT (m : BM) (h : HS) (x : Val) : Prop := match m with
  | .items => ∃ a kvs, x = .ref a ∧ h a = some (.dict false kvs)
  | .values => ∃ a kvs, x = .ref a ∧ h a = some (.dict false kvs)
  | .get => ∃ a kvs, x = .ref a ∧ h a = some (.dict false kvs)
  | .dpop => ∃ a kvs, x = .ref a ∧ h a = some (.dict false kvs)
  | .update => ∃ a kvs, x = .ref a ∧ h a = some (.dict false kvs)
  | .setdefault => ∃ a kvs, x = .ref a ∧ h a = some (.dict false kvs)
  | _ => ∃ a vs, x = .ref a ∧ h a = some (.list vs)

/-! ### loops -/
def wipe (env : Env) : List Nat → Env
  | [] => env
  | i :: r => wipe (env.set i none) r
def forW (step : Val → Env → HS → (Env → HS → Prop) → Prop) (ok : HS → Prop) : List Val → Env → HS → (Env → HS → Prop) → Prop
  | [], env, h, K => ok h ∧ K env h
  | x :: xs, env, h, K => ok h ∧ step x env h fun e1 h1 => forW step ok xs e1 h1 K
def lcW (step : Val → HS → (Option Val → HS → Prop) → Prop) (ok : HS → Prop) : List Val → HS → List Val → (List Val → HS → Prop) → Prop
  | [], h, acc, K => ok h ∧ K acc h
  | x :: xs, h, acc, K => ok h ∧ step x h fun y h1 => lcW step ok xs h1 (acc ++ y.toList) K

structure Dn where
  nx : Env → HS → Prop
  rt : PV
  bk : Env → HS → Prop
  ex : Env → PX

/-- the program's own defs, by name; a class's methods; a class's fields -/
structure Tab where
  cs : List Str
  fn : Str → FS
  me : Str → Str → FS

def Gs.len : Gs → Nat
  | .nil => 0
  | .cons _ gs => gs.len + 1
def rngV (a b : Int) : List Val := (List.range (b - a).toNat).map fun (k : Nat) => .int (a + (k : Int))
def rngC (a b c : Int) : List Val := (List.range (if 0 < c then ((b - a + c - 1) / c).toNat else ((a - b + (-c) - 1) / (-c)).toNat)).map fun (k : Nat) => .int (a + (k : Int) * c)
def okR (i : Int) : Prop := -(2 ^ 62) ≤ i ∧ i < 2 ^ 62
def stays (h : HS) : Val → HS → Prop
  | .ref a => fun h' => listAt h' a = listAt h a
  | _ => fun _ => True

mutual
def wE (T : Tab) : E → Env → HS → PV → PX → Prop
  | .var i, env, h, Q, _ => ∃ v, env[i]? = some (some v) ∧ Q v h
  | .lit v, _, h, Q, _ => Q v h
  | .glob _ v, _, h, Q, _ => Q v h
  | .op o a b, env, h, Q, X => wE T a env h (fun x h1 => wE T b env h1 (fun y h2 => op2 o h2 x y Q) X) X
  | .neg a, env, h, Q, X => wE T a env h (fun x h1 => ∃ i, x = .int i ∧ Q (.int (-i)) h1) X
  | .not a, env, h, Q, X => wE T a env h (fun x h1 => ∃ b, x = .bl b ∧ Q (.bl (!b)) h1) X
  | .and a b, env, h, Q, X => wE T a env h (fun x h1 => ∃ c, x = .bl c ∧ if c = true then wE T b env h1 Q X else Q (.bl false) h1) X
  | .or a b, env, h, Q, X => wE T a env h (fun x h1 => ∃ c, x = .bl c ∧ if c = true then Q (.bl true) h1 else wE T b env h1 Q X) X
  | .cmp o a b, env, h, Q, X => wE T a env h (fun x h1 => wE T b env h1 (fun y h2 => cmp2 o h2 x y fun c => Q (.bl c) h2) X) X
  | .chain o p a b c, env, h, Q, X => wE T a env h (fun x h1 => wE T b env h1 (fun y h2 => cmp2 o h2 x y fun k => if k = true then wE T c env h2 (fun z h3 => cmp2 p h3 y z fun k2 => Q (.bl k2) h3) X else Q (.bl false) h2) X) X
  | .isi a t, env, h, Q, X => wE T a env h (fun x h1 => ∃ b, isI T.cs h1 t x = some b ∧ Q (.bl b) h1) X
  | .ifx c a b, env, h, Q, X => wC T c env h (fun k h1 => if k = true then wE T a env h1 Q X else wE T b env h1 Q X) X
  | .tup es, env, h, Q, X => wEs T es env h (fun vs h1 => vs.length ≤ cap ∧ Q (.tup vs) h1) X
  | .lst es, env, h, Q, X => wEs T es env h (fun vs h1 => vs.length ≤ cap ∧ new h1 (.list vs) Q) X
  | .dct ks, env, h, Q, X => wKs T ks env h [] (fun kvs h1 => new h1 (.dict false kvs) Q) X
  | .ix a i, env, h, Q, X => wE T a env h (fun x h1 => wE T i env h1 (fun y h2 => ixS h2 x y Q) X) X
  | .sl a lo hi, env, h, Q, X => wE T a env h (fun x h1 => wO T lo env h1 (fun l h2 => ∃ i, optI l = some i ∧ wO T hi env h2 (fun r h3 => ∃ j, optI r = some j ∧ slS h3 x i j Q) X) X) X
  | .rev a, env, h, Q, X => wE T a env h (fun x h1 => ∃ p vs, x = .ref p ∧ listAt h1 p = some vs ∧ new h1 (.list vs.reverse) Q) X
  | .call f es, env, h, Q, X => wEs T es env h (fun vs h1 => T.fn f vs h1 Q X) X
  | .bi f es, env, h, Q, X => wEs T es env h (fun vs h1 => biS f vs h1 Q) X
  | .mk c es ds, env, h, Q, X => wEs T es env h (fun vs h1 => ∀ p, h1 p = none → T.me c "__init__" (.ref p :: (vs ++ ds)) (h1.up p (.inst c [])) (fun v h2 => v = .non ∧ Q (.ref p) h2) X) X
  | .meth c m o es, env, h, Q, X => wE T o env h (fun x h1 => ∃ a fs, x = .ref a ∧ h1 a = some (.inst c fs) ∧ fs.lookup m = none ∧ wEs T es env h1 (fun vs h2 => T.me c m (x :: vs) h2 Q X) X) X
  | .bm m o es, env, h, Q, X => wE T o env h (fun x h1 => bmT m h1 x ∧ wEs T es env h1 (fun vs h2 => bmS m x vs h2 Q) X) X
  | .attr c o f, env, h, Q, X => wE T o env h (fun x h1 => ∃ a fs v, x = .ref a ∧ h1 a = some (.inst c fs) ∧ fs.lookup f = some v ∧ Q v h1) X
  | .lc elt g s t own, env, h, Q, X => wSrc T s env h (fun vs ok h1 => vs.length ≤ cap ∧ lcW (fun x h2 K => wG T g x (wipe env own) h2 (fun e3 h3 => wOC T t e3 h3 (fun b h4 => if b = true then wE T elt e3 h4 (fun y h5 => K (some y) h5) (fun _ _ => False) else K none h4) (fun _ _ => False))) ok vs h1 [] (fun acc h2 => new h2 (.list acc) Q)) X
def wEs (T : Tab) : Es → Env → HS → (List Val → HS → Prop) → PX → Prop
  | .nil, _, h, Q, _ => Q [] h
  | .cons e es, env, h, Q, X => wE T e env h (fun v h1 => wEs T es env h1 (fun vs h2 => Q (v :: vs) h2) X) X
def wKs (T : Tab) : Ks → Env → HS → List (Val × Val) → (List (Val × Val) → HS → Prop) → PX → Prop
  | .nil, _, h, acc, Q, _ => Q acc h
  | .cons k v r, env, h, acc, Q, X => wE T k env h (fun x h1 => wE T v env h1 (fun y h2 => wKs T r env h2 (dput acc x y) Q X) X) X
def wO (T : Tab) : OE → Env → HS → (Option Val → HS → Prop) → PX → Prop
  | .no, _, h, Q, _ => Q none h
  | .so e, env, h, Q, X => wE T e env h (fun v h1 => Q (some v) h1) X
def wC (T : Tab) : C → Env → HS → (Bool → HS → Prop) → PX → Prop
  | .val e, env, h, Q, X => wE T e env h (fun v h1 => ∃ c, truth h1 v = some c ∧ Q c h1) X
  | .cmp o a b, env, h, Q, X => wE T a env h (fun x h1 => wE T b env h1 (fun y h2 => cmp2 o h2 x y fun c => Q c h2) X) X
  | .chain o p a b c, env, h, Q, X => wE T a env h (fun x h1 => wE T b env h1 (fun y h2 => cmp2 o h2 x y fun k => if k = true then wE T c env h2 (fun z h3 => cmp2 p h3 y z fun k2 => Q k2 h3) X else Q false h2) X) X
  | .not c, env, h, Q, X => wC T c env h (fun k h1 => Q (!k) h1) X
  | .and a b, env, h, Q, X => wC T a env h (fun k h1 => if k = true then wC T b env h1 Q X else Q false h1) X
  | .or a b, env, h, Q, X => wC T a env h (fun k h1 => if k = true then Q true h1 else wC T b env h1 Q X) X
def wOC (T : Tab) : OC → Env → HS → (Bool → HS → Prop) → PX → Prop
  | .no, _, h, Q, _ => Q true h
  | .so c, env, h, Q, X => wC T c env h Q X
def wSrc (T : Tab) : Src → Env → HS → (List Val → (HS → Prop) → HS → Prop) → PX → Prop
  | .ex e, env, h, K, X => wE T e env h (fun x h1 => ∃ vs, seqOf h1 x = some vs ∧ K vs (stays h1 x) h1) X
  | .rng1 a, env, h, K, X => wE T a env h (fun x h1 => ∃ i, x = .int i ∧ okR i ∧ K (rngV 0 i) (fun _ => True) h1) X
  | .rng2 a b, env, h, K, X => wE T a env h (fun x h1 => wE T b env h1 (fun y h2 => ∃ i j, x = .int i ∧ y = .int j ∧ okR i ∧ okR j ∧ K (rngV i j) (fun _ => True) h2) X) X
  | .rng3 a b c, env, h, K, X => wE T a env h (fun x h1 => wE T b env h1 (fun y h2 => wE T c env h2 (fun z h3 => ∃ i j k, x = .int i ∧ y = .int j ∧ z = .int k ∧ okR i ∧ okR j ∧ k ≠ 0 ∧ k.natAbs < 1000 ∧ K (rngC i j k) (fun _ => True) h3) X) X) X
  | .enum e, env, h, K, X => wE T e env h (fun x h1 => ∃ vs, seqOf h1 x = some vs ∧ K (vs.mapIdx fun k v => .tup [.int (k : Int), v]) (stays h1 x) h1) X
  | .zip a b, env, h, K, X => wE T a env h (fun x h1 => wE T b env h1 (fun y h2 => ∃ vs ws, seqOf h2 x = some vs ∧ seqOf h2 y = some ws ∧ K (vs.zipWith (fun v w => .tup [v, w]) ws) (fun h3 => stays h2 x h3 ∧ stays h2 y h3) h2) X) X
  | .items e, env, h, K, X => False
def wG (T : Tab) : G → Val → Env → HS → (Env → HS → Prop) → Prop
  | .name i, v, env, h, K => K (env.set i (some v)) h
  | .tup gs, v, env, h, K => ∃ vs, v = .tup vs ∧ vs.length = gs.len ∧ wGs T gs vs env h K
  | .sub o i, v, env, h, K => wE T o env h (fun x h1 => wE T i env h1 (fun y h2 => setIx h2 x y v fun h3 => K env h3) (fun _ _ => False)) (fun _ _ => False)
  | .attr c o f, v, env, h, K => wE T o env h (fun x h1 => ∃ a fs, x = .ref a ∧ h1 a = some (.inst c fs) ∧ fs.length < 900 ∧ K env (h1.up a (.inst c (fput f v fs)))) (fun _ _ => False)
def wGs (T : Tab) : Gs → List Val → Env → HS → (Env → HS → Prop) → Prop
  | .nil, vs, env, h, K => vs = [] ∧ K env h
  | .cons g gs, vs, env, h, K => ∃ v r, vs = v :: r ∧ wG T g v env h (fun e1 h1 => wGs T gs r e1 h1 K)
end

mutual
def wS (T : Tab) : S → Env → HS → Dn → Prop
  | .set g e, env, h, D => wE T e env h (fun v h1 => wG T g v env h1 D.nx) (D.ex env)
  | .augn i o e, env, h, D => ∃ x, env[i]? = some (some x) ∧ wE T e env h (fun y h1 => aug2 o x y fun z => D.nx (env.set i (some z)) h1) (D.ex env)
  | .augs a i o e, env, h, D => wE T a env h (fun x h1 => wE T i env h1 (fun y h2 => ∃ p j vs u, x = .ref p ∧ y = .int j ∧ listAt h2 p = some vs ∧ itemAt vs j = some u ∧ wE T e env h2 (fun w h4 => aug2 o u w fun z => setIx h4 x y z fun h6 => D.nx env h6) (D.ex env)) (D.ex env)) (D.ex env)
  | .ex e, env, h, D => wE T e env h (fun _ h1 => D.nx env h1) (D.ex env)
  | .ret e, env, h, D => wE T e env h D.rt (D.ex env)
  | .retN, _, h, D => D.rt .non h
  | .iff c a b, env, h, D => wC T c env h (fun k h1 => if k = true then wSs T a env h1 D else wSs T b env h1 D) (D.ex env)
  | .for_ g s b, env, h, D => wSrc T s env h (fun vs ok h1 => forW (fun x e2 h2 K => wG T g x e2 h2 (fun e3 h3 => wSs T b e3 h3 { nx := K, rt := D.rt, bk := D.nx, ex := D.ex })) ok vs env h1 D.nx) (D.ex env)
  | .whil c b, env, h, D => ∃ W : Nat → Env → HS → Prop, (∃ m, W m env h) ∧ ∀ m e1 h1, W m e1 h1 → wC T c e1 h1 (fun k h2 => if k = true then wSs T b e1 h2 { nx := fun e3 h3 => ∃ m', m' < m ∧ W m' e3 h3, rt := D.rt, bk := D.nx, ex := D.ex } else D.nx e1 h2) (D.ex e1)
  | .brk, env, h, D => D.bk env h
  | .pass, env, h, D => D.nx env h
  | .raise c es, env, h, D => False
  | .try_ b hs, env, h, D => False
def wSs (T : Tab) : Ss → Env → HS → Dn → Prop
  | .nil, env, h, D => D.nx env h
  | .cons s ss, env, h, D => wS T s env h { nx := fun e1 h1 => wSs T ss e1 h1 D, rt := D.rt, bk := D.bk, ex := D.ex }
end

def wDef (T : Tab) (n : Nat) (body : Ss) : FS := fun args h Q X =>
  wSs T body (args.map some ++ List.replicate (n - args.length) none) h { nx := fun _ h' => Q .non h', rt := Q, bk := fun _ _ => False, ex := fun _ => X }
def Sub (h h' : HS) : Prop := ∀ a o, h a = some o → h' a = some o
def ClQ (Q : PV) : PV := fun v h' => ∃ h, Sub h h' ∧ Q v h
def ClX (X : PX) : PX := fun e h' => ∃ h, Sub h h' ∧ X e h
/-- the body keeps the spec; what the body has made besides may be forgotten -/
def Keeps (T : Tab) (n k : Nat) (body : Ss) (sp : FS) : Prop := ∀ args h Q X, sp args h Q X → args.length = k ∧ wDef T n body args h (ClQ Q) (ClX X)
end CS

/-! Cs2 -/
/-! Cs2: how the small semantics lies in the hand layer's. -/
namespace CS
open PySem PySem.Spec PyProof.Rows L2

/-- the written part and the module's names -/
structure Lk where
  K : PySem.W.Frag
  mg : Str → Option Value

/-- a list that nobody writes -/
def RoL (L : Lk) (H : L2.Hp) (a : Addr) (ws : List V) : Prop :=
  (∃ od, H a = some (.frz od (.lst ws))) ∨
    ∃ (o : PySem.Obj) (its : Array Value) (n : Nat), L.K.lookup a = some o ∧ o.cls = .type "list" ∧ o.dict = none ∧ o.data = .seq its n ∧ its.size ≤ sizeLine ∧ Vals ws its.toList
theorem RoL.sq {L : Lk} {H : L2.Hp} {a : Addr} {ws : List V} : RoL L H a ws → SqL L.K H a ws
  | .inl h => .inl (.inr h)
  | .inr h => .inr h

mutual
inductive RV (L : Lk) (H : L2.Hp) : V → Val → Prop
  | non : RV L H .non .non
  | bl (b : Bool) : RV L H (.bl b) (.bl b)
  | int (i : Int) : RV L H (.int i) (.int i)
  | str (s : Str) : RV L H (.str s) (.str s)
  | tup {a : Addr} {ws : List V} {vs : List Val} : H a = some (.tup ws) → RVs L H ws vs → RV L H (.ref a) (.tup vs)
  | tup0 {a : Addr} : SqT L.K H a [] → RV L H (.ref a) (.tup [])
  | rol {a : Addr} {ws : List V} {vs : List Val} : RoL L H a ws → RVs L H ws vs → RV L H (.ref a) (.rol vs)
  | ref (a : Addr) : RV L H (.ref a) (.ref a)
  | fn {f : Str} {a : Addr} : L.mg f = some (.ref a) → RV L H (.ref a) (.fn f)
  | ty (n : String) : RV L H (.ty n) (.ty n)
  | cl {c : Str} {a : Addr} : L.mg c = some (.ref a) → RV L H (.ref a) (.cl c)
inductive RVs (L : Lk) (H : L2.Hp) : List V → List Val → Prop
  | nil : RVs L H [] []
  | cons {w : V} {v : Val} {ws : List V} {vs : List Val} : RV L H w v → RVs L H ws vs → RVs L H (w :: ws) (v :: vs)
end
theorem RVs.length {L : Lk} {H : L2.Hp} : ∀ {ws : List V} {vs : List Val}, RVs L H ws vs → ws.length = vs.length
  | _, _, .nil => rfl
  | _, _, .cons _ t => by rw [List.length_cons, List.length_cons, RVs.length t]
theorem RVs.get {L : Lk} {H : L2.Hp} : ∀ {ws : List V} {vs : List Val} {i : Nat} {v : Val}, RVs L H ws vs → vs[i]? = some v → ∃ w, ws[i]? = some w ∧ RV L H w v
  | _, _, _, _, .nil, e => by simp at e
  | _, _, 0, _, .cons r _, e => by simp at e; subst e; exact ⟨_, rfl, r⟩
  | _, _, i + 1, v, .cons _ t, e => by
    obtain ⟨w, h1, h2⟩ := RVs.get (i := i) (v := v) t (by simpa using e)
    exact ⟨w, by simpa using h1, h2⟩
theorem RVs.get' {L : Lk} {H : L2.Hp} : ∀ {ws : List V} {vs : List Val} {i : Nat} {w : V}, RVs L H ws vs → ws[i]? = some w → ∃ v, vs[i]? = some v ∧ RV L H w v
  | _, _, _, _, .nil, e => by simp at e
  | _, _, 0, _, .cons r _, e => by simp at e; subst e; exact ⟨_, rfl, r⟩
  | _, _, i + 1, v, .cons _ t, e => by
    obtain ⟨w, h1, h2⟩ := RVs.get' (i := i) (w := v) t (by simpa using e)
    exact ⟨w, by simpa using h1, h2⟩
theorem RVs.append {L : Lk} {H : L2.Hp} : ∀ {ws : List V} {vs : List Val} {ws' : List V} {vs' : List Val}, RVs L H ws vs → RVs L H ws' vs' → RVs L H (ws ++ ws') (vs ++ vs')
  | _, _, _, _, .nil, s => s
  | _, _, _, _, .cons r t, s => .cons r (RVs.append t s)
theorem RVs.take {L : Lk} {H : L2.Hp} : ∀ {ws : List V} {vs : List Val} (n : Nat), RVs L H ws vs → RVs L H (ws.take n) (vs.take n)
  | _, _, 0, _ => .nil
  | _, _, _ + 1, .nil => .nil
  | _, _, n + 1, .cons r t => .cons r (RVs.take n t)
theorem RVs.drop {L : Lk} {H : L2.Hp} : ∀ {ws : List V} {vs : List Val} (n : Nat), RVs L H ws vs → RVs L H (ws.drop n) (vs.drop n)
  | _, _, 0, r => r
  | _, _, _ + 1, .nil => .nil
  | _, _, n + 1, .cons _ t => RVs.drop n t
theorem RVs.set {L : Lk} {H : L2.Hp} {w : V} {v : Val} (r : RV L H w v) : ∀ {ws : List V} {vs : List Val} (i : Nat), RVs L H ws vs → RVs L H (ws.set i w) (vs.set i v)
  | _, _, _, .nil => .nil
  | _, _, 0, .cons _ t => .cons r t
  | _, _, i + 1, .cons q t => .cons q (RVs.set r i t)
theorem RVs.eraseIdx {L : Lk} {H : L2.Hp} : ∀ {ws : List V} {vs : List Val} (i : Nat), RVs L H ws vs → RVs L H (ws.eraseIdx i) (vs.eraseIdx i)
  | _, _, _, .nil => .nil
  | _, _, 0, .cons _ t => t
  | _, _, i + 1, .cons q t => .cons q (RVs.eraseIdx i t)
theorem RVs.reverse {L : Lk} {H : L2.Hp} : ∀ {ws : List V} {vs : List Val}, RVs L H ws vs → RVs L H ws.reverse vs.reverse
  | _, _, .nil => .nil
  | _, _, .cons r t => by rw [List.reverse_cons, List.reverse_cons]; exact (RVs.reverse t).append (.cons r .nil)
theorem RVs.dropLast {L : Lk} {H : L2.Hp} {ws : List V} {vs : List Val} (r : RVs L H ws vs) : RVs L H ws.dropLast vs.dropLast := by
  rw [List.dropLast_eq_take, List.dropLast_eq_take, r.length]; exact r.take _
theorem RVs.flat {L : Lk} {H : L2.Hp} {ws : List V} {vs : List Val} (r : RVs L H ws vs) : ∀ n : Nat, RVs L H (List.replicate n ws).flatten (List.replicate n vs).flatten
  | 0 => .nil
  | n + 1 => by rw [List.replicate_succ, List.replicate_succ, List.flatten_cons, List.flatten_cons]; exact r.append (RVs.flat r n)

/-- what never changes, stands -/
structure TExt (H H' : L2.Hp) : Prop where
  tup : ∀ b xs, H b = some (.tup xs) → H' b = some (.tup xs)
  ftup : ∀ b od xs, H b = some (.frz od (.tup xs)) → H' b = some (.frz od (.tup xs))
  flst : ∀ b od xs, H b = some (.frz od (.lst xs)) → H' b = some (.frz od (.lst xs))
theorem TExt.refl (H : L2.Hp) : TExt H H := ⟨fun _ _ h => h, fun _ _ _ h => h, fun _ _ _ h => h⟩
theorem TExt.trans {H H1 H2 : L2.Hp} (a : TExt H H1) (b : TExt H1 H2) : TExt H H2 :=
  ⟨fun c xs h => b.tup c xs (a.tup c xs h), fun c o xs h => b.ftup c o xs (a.ftup c o xs h), fun c o xs h => b.flst c o xs (a.flst c o xs h)⟩
theorem TExt.sqt {L : Lk} {H H' : L2.Hp} (e : TExt H H') {a : Addr} {ws : List V} : SqT L.K H a ws → SqT L.K H' a ws
  | .inl (.inl h) => .inl (.inl (e.tup _ _ h))
  | .inl (.inr ⟨o, h⟩) => .inl (.inr ⟨o, e.ftup _ _ _ h⟩)
  | .inr h => .inr h
theorem TExt.rol {L : Lk} {H H' : L2.Hp} (e : TExt H H') {a : Addr} {ws : List V} : RoL L H a ws → RoL L H' a ws
  | .inl ⟨o, h⟩ => .inl ⟨o, e.flst _ _ _ h⟩
  | .inr h => .inr h
mutual
theorem RV.ext {L : Lk} {H H' : L2.Hp} (e : TExt H H') : ∀ {w : V} {v : Val}, RV L H w v → RV L H' w v
  | _, _, .non => .non
  | _, _, .bl b => .bl b
  | _, _, .int i => .int i
  | _, _, .str s => .str s
  | _, _, .tup h t => .tup (e.tup _ _ h) (RVs.ext e t)
  | _, _, .tup0 h => .tup0 (e.sqt h)
  | _, _, .rol h t => .rol (e.rol h) (RVs.ext e t)
  | _, _, .ref a => .ref a
  | _, _, .fn h => .fn h
  | _, _, .ty n => .ty n
  | _, _, .cl h => .cl h
theorem RVs.ext {L : Lk} {H H' : L2.Hp} (e : TExt H H') : ∀ {ws : List V} {vs : List Val}, RVs L H ws vs → RVs L H' ws vs
  | _, _, .nil => .nil
  | _, _, .cons r t => .cons (RV.ext e r) (RVs.ext e t)
end
/-- an object written that is none of these -/
theorem TExt.upd_new {H : L2.Hp} {p : Addr} {o : HO} (h : H p = none) : TExt H (upd H p o) := by
  refine ⟨fun b xs e => ?_, fun b od xs e => ?_, fun b od xs e => ?_⟩ <;> rw [upd_ne (ne_of_none e h)] <;> exact e
def Mu : HO → Prop
  | .lst _ => True
  | .dK _ => True
  | .dT _ => True
  | .ins _ _ _ => True
  | _ => False
theorem TExt.upd_mut {H : L2.Hp} {p : Addr} {o u : HO} (h : H p = some u) (m : Mu u) : TExt H (upd H p o) := by
  refine ⟨fun b xs e => ?_, fun b od xs e => ?_, fun b od xs e => ?_⟩ <;>
    (rw [upd_ne (fun z => by rw [z, h] at e; cases e; exact m)]; exact e)

/-! ### objects -/
abbrev ofK : List Key → Val := fun ks => .tup (ks.map fun k => match k with | .inl i => .int i | .inr s => .str s)
def RKs (L : Lk) (H : L2.Hp) : List (List Key × V) → List (Val × Val) → Prop := Paired fun p q => q.1 = ofK p.1 ∧ RV L H p.2 q.2
def RFs (L : Lk) (H : L2.Hp) : List (Str × V) → List (Str × Val) → Prop := Paired fun p q => p.1 = q.1 ∧ RV L H p.2 q.2
def RO (L : Lk) (H : L2.Hp) (a : Addr) : Obj → Prop
  | .list vs => ∃ ws, H a = some (.lst ws) ∧ RVs L H ws vs
  | .dict false kvs => ∃ kws, H a = some (.dT kws) ∧ RKs L H kws kvs
  | .dict true kvs => ∃ od kws, H a = some (.frz od (.dT kws)) ∧ RKs L H kws kvs
  | .inst C fs => ∃ Ca dx fs', L.mg C = some (.ref Ca) ∧ H a = some (.ins Ca dx fs') ∧ RFs L H fs' fs
theorem RKs.ext {L : Lk} {H H' : L2.Hp} (e : TExt H H') {ks : List (List Key × V)} {kvs : List (Val × Val)} (r : RKs L H ks kvs) : RKs L H' ks kvs := L2.Paired.mapP r fun _ _ x => ⟨x.1, x.2.ext e⟩
theorem RFs.ext {L : Lk} {H H' : L2.Hp} (e : TExt H H') {fs : List (Str × V)} {gs : List (Str × Val)} (r : RFs L H fs gs) : RFs L H' fs gs := L2.Paired.mapP r fun _ _ x => ⟨x.1, x.2.ext e⟩
theorem RO.ext {L : Lk} {H H' : L2.Hp} (e : TExt H H') {a : Addr} {o : Obj} (k : H' a = H a) : RO L H a o → RO L H' a o := by
  intro r
  cases o with
  | list vs => obtain ⟨ws, h, t⟩ := r; exact ⟨ws, k.trans h, t.ext e⟩
  | dict lk kvs =>
    cases lk with
    | false => obtain ⟨ws, h, t⟩ := r; exact ⟨ws, k.trans h, t.ext e⟩
    | true => obtain ⟨od, ws, h, t⟩ := r; exact ⟨od, ws, k.trans h, t.ext e⟩
  | inst C fs => obtain ⟨Ca, dx, fs', m, h, t⟩ := r; exact ⟨Ca, dx, fs', m, k.trans h, t.ext e⟩
theorem RO.some {L : Lk} {H : L2.Hp} {a : Addr} {o : Obj} (r : RO L H a o) : H a ≠ none := by
  cases o with
  | list vs => obtain ⟨ws, h, t⟩ := r; rw [h]; simp
  | dict lk kvs =>
    cases lk with
    | false => obtain ⟨ws, h, t⟩ := r; rw [h]; simp
    | true => obtain ⟨od, ws, h, t⟩ := r; rw [h]; simp
  | inst C fs => obtain ⟨Ca, dx, fs', m, h, t⟩ := r; rw [h]; simp

def Rel (L : Lk) (h : HS) (H : L2.Hp) : Prop := ∀ a o, h a = some o → RO L H a o
theorem Rel.sub {L : Lk} {h h' : HS} {H : L2.Hp} (r : Rel L h' H) (s : Sub h h') : Rel L h H := fun a o e => r a o (s a o e)
theorem Rel.free {L : Lk} {h : HS} {H : L2.Hp} (r : Rel L h H) {p : Addr} (e : H p = none) : h p = none := by
  cases q : h p with
  | none => rfl
  | some o => exact absurd e (r p o q).some
theorem Rel.new {L : Lk} {h : HS} {H : L2.Hp} (r : Rel L h H) {p : Addr} {o : Obj} {u : HO} (e : H p = none) (n : RO L (upd H p u) p o) : Rel L (h.up p o) (upd H p u) := fun a x q => by
  unfold HS.up at q
  by_cases c : a = p
  · rw [if_pos c] at q; cases q; rw [c]; exact n
  · rw [if_neg c] at q; exact (r a x q).ext (.upd_new e) (upd_ne c)
theorem Rel.put {L : Lk} {h : HS} {H : L2.Hp} (r : Rel L h H) {p : Addr} {o : Obj} {u w : HO} (e : H p = some w) (m : Mu w) (n : RO L (upd H p u) p o) : Rel L (h.up p o) (upd H p u) := fun a x q => by
  unfold HS.up at q
  by_cases c : a = p
  · rw [if_pos c] at q; cases q; rw [c]; exact n
  · rw [if_neg c] at q; exact (r a x q).ext (.upd_mut e m) (upd_ne c)
/-- an object that is tracked besides -/
theorem Rel.more {L : Lk} {h : HS} {H : L2.Hp} (r : Rel L h H) {p : Addr} {u : HO} (e : H p = none) : Rel L h (upd H p u) := fun a x q =>
  (r a x q).ext (.upd_new e) (upd_ne fun c => by rw [r.free (c ▸ e)] at q; cases q)

/-! ### slots -/
def RE (L : Lk) (H : L2.Hp) (σ : L2.St) (env : Env) : Prop := σ.length = env.length ∧ ∀ (i : Nat) (v : Val), env[i]? = some (some v) → ∃ x : V, σ[i]? = some (some x) ∧ RV L H x v
theorem RE.ext {L : Lk} {H H' : L2.Hp} (e : TExt H H') {σ : L2.St} {env : Env} (r : RE L H σ env) : RE L H' σ env := ⟨r.1, fun i v q => let ⟨x, a, b⟩ := r.2 i v q; ⟨x, a, b.ext e⟩⟩
theorem RE.set {L : Lk} {H : L2.Hp} {σ : L2.St} {env : Env} (r : RE L H σ env) {i : Nat} {x : V} {v : Val} (q : RV L H x v) : RE L H (σ.set i (some x)) (env.set i (some v)) := by
  refine ⟨by simp [r.1], fun j u e => ?_⟩
  by_cases c : i = j
  · subst c
    by_cases hl : i < env.length
    · rw [List.getElem?_set_self hl] at e; cases e
      exact ⟨x, by rw [List.getElem?_set_self (by rw [r.1]; exact hl)], q⟩
    · rw [List.getElem?_eq_none (by simpa using hl)] at e; cases e
  · rw [List.getElem?_set_ne c] at e ⊢
    exact r.2 j u e
theorem RE.wipe {L : Lk} {H : L2.Hp} {σ : L2.St} : ∀ {env : Env} (own : List Nat), RE L H σ env → RE L H (L2.wipe σ own) (CS.wipe env own) := by
  intro env own r
  have key : ∀ (own : List Nat) (env : Env), (CS.wipe env own).length = env.length ∧ ∀ i v, (CS.wipe env own)[i]? = some (some v) → env[i]? = some (some v) ∧ i ∉ own := by
    intro own
    induction own with
    | nil => intro env; exact ⟨rfl, fun i v h => ⟨h, by simp⟩⟩
    | cons a t ih =>
      intro env
      obtain ⟨h1, h2⟩ := ih (env.set a none)
      refine ⟨by rw [CS.wipe, h1, List.length_set], fun i v h => ?_⟩
      obtain ⟨h3, h4⟩ := h2 i v h
      by_cases c : a = i
      · subst c
        by_cases hl : a < env.length
        · rw [List.getElem?_set_self hl] at h3; cases h3
        · rw [List.getElem?_eq_none (by simpa using hl)] at h3; cases h3
      · rw [List.getElem?_set_ne c] at h3
        exact ⟨h3, by simp only [List.mem_cons, not_or]; exact ⟨fun e => c e.symm, h4⟩⟩
  have key2 : ∀ (own : List Nat) (i : Nat) (x : V), σ[i]? = some (some x) → i ∉ own → (L2.wipe σ own)[i]? = some (some x) := by
    intro own
    induction own with
    | nil => intro i x h _; exact h
    | cons a t ih =>
      intro i x h hn
      simp only [List.mem_cons, not_or] at hn
      show ((L2.wipe σ t).set a none)[i]? = _
      rw [List.getElem?_set_ne (fun e => hn.1 e.symm)]
      exact ih i x h hn.2
  obtain ⟨k1, k2⟩ := key own env
  refine ⟨by rw [L2.wipe_length, r.1, k1], fun i v e => ?_⟩
  obtain ⟨e1, e2⟩ := k2 i v e
  obtain ⟨x, a, b⟩ := r.2 i v e1
  exact ⟨x, key2 own i x a e2, b⟩

/-! ### a step -/
/-- what is tracked besides stays as it is -/
def Fr (h : HS) (H : L2.Hp) (h' : HS) (H' : L2.Hp) : Prop := ∀ b o, h b = none → H b = some o → H' b = some o ∧ h' b = none
structure Stp (L : Lk) (h : HS) (H : L2.Hp) (h' : HS) (H' : L2.Hp) : Prop where
  ext : TExt H H'
  rel : Rel L h' H'
  fr : Fr h H h' H'
theorem Stp.refl {L : Lk} {h : HS} {H : L2.Hp} (r : Rel L h H) : Stp L h H h H := ⟨.refl H, r, fun _ _ a b => ⟨b, a⟩⟩
theorem Stp.trans {L : Lk} {h h1 h2 : HS} {H H1 H2 : L2.Hp} (a : Stp L h H h1 H1) (b : Stp L h1 H1 h2 H2) : Stp L h H h2 H2 :=
  ⟨a.ext.trans b.ext, b.rel, fun c o x y => let ⟨p, q⟩ := a.fr c o x y; b.fr c o q p⟩
theorem Stp.new {L : Lk} {h : HS} {H : L2.Hp} (r : Rel L h H) {p : Addr} {o : Obj} {u : HO} (e : H p = none) (n : RO L (upd H p u) p o) : Stp L h H (h.up p o) (upd H p u) :=
  ⟨.upd_new e, r.new e n, fun b x hb hH => by
    have c : b ≠ p := ne_of_none hH e
    exact ⟨by rw [upd_ne c]; exact hH, by unfold HS.up; rw [if_neg c]; exact hb⟩⟩
theorem Stp.more {L : Lk} {h : HS} {H : L2.Hp} (r : Rel L h H) {p : Addr} {u : HO} (e : H p = none) : Stp L h H h (upd H p u) :=
  ⟨.upd_new e, r.more e, fun b x hb hH => ⟨by rw [upd_ne (ne_of_none hH e)]; exact hH, hb⟩⟩
theorem Stp.put {L : Lk} {h : HS} {H : L2.Hp} (r : Rel L h H) {p : Addr} {o o' : Obj} {u w : HO} (e0 : h p = some o') (e : H p = some w) (m : Mu w) (n : RO L (upd H p u) p o) : Stp L h H (h.up p o) (upd H p u) :=
  ⟨.upd_mut e m, r.put e m n, fun b x hb hH => by
    have c : b ≠ p := fun z => by rw [z, e0] at hb; cases hb
    exact ⟨by rw [upd_ne c]; exact hH, by unfold HS.up; rw [if_neg c]; exact hb⟩⟩
theorem Stp.drop {L : Lk} {h h1 h0 : HS} {H H1 : L2.Hp} (a : Stp L h H h1 H1) (s : Sub h0 h1) : Stp L h H h0 H1 :=
  ⟨a.ext, a.rel.sub s, fun c o x y => ⟨(a.fr c o x y).1, by
    cases q : h0 c with
    | none => rfl
    | some z => have := s c z q; rw [(a.fr c o x y).2] at this; cases this⟩⟩

/-! ### readings -/
def RX (L : Lk) (H : L2.Hp) (e : Exn) (c : Value) (d : Option Addr) : Prop := L.mg e.c = some c ∧ ∃ da fs, d = some da ∧ H da = some (.xd fs) ∧ RFs L H fs e.fs
/-- what a wish about exceptions follows from -/
def XW (L : Lk) (W : WX) (σ : L2.St) (h : HS) (H : L2.Hp) (X0 : PX) : Prop := ∀ e h' c d H', X0 e h' → Stp L h H h' H' → RX L H' e c d → W c d σ H'
theorem XW.ext {L : Lk} {W : WX} {σ : L2.St} {h h1 : HS} {H H1 : L2.Hp} {X0 : PX} (x : XW L W σ h H X0) (e : Stp L h H h1 H1) : XW L W σ h1 H1 X0 := fun a h' c d H' q t z => x a h' c d H' q (e.trans t) z
theorem XW.no {L : Lk} {W : WX} {σ : L2.St} {h : HS} {H : L2.Hp} : XW L W σ h H (fun _ _ => False) := fun _ _ _ _ _ q => q.elim
def QW (L : Lk) (Q : VK) (h : HS) (H : L2.Hp) (Q0 : PV) : Prop := ∀ v h' x H', Q0 v h' → Stp L h H h' H' → RV L H' x v → Q x H'
theorem QW.ext {L : Lk} {Q : VK} {h h1 : HS} {H H1 : L2.Hp} {Q0 : PV} (x : QW L Q h H Q0) (e : Stp L h H h1 H1) : QW L Q h1 H1 Q0 := fun v h' y H' q t z => x v h' y H' q (e.trans t) z
def BW (L : Lk) (Q : Bool → L2.Hp → Prop) (h : HS) (H : L2.Hp) (Q0 : Bool → HS → Prop) : Prop := ∀ b h' H', Q0 b h' → Stp L h H h' H' → Q b H'
theorem BW.ext {L : Lk} {Q : Bool → L2.Hp → Prop} {h h1 : HS} {H H1 : L2.Hp} {Q0 : Bool → HS → Prop} (x : BW L Q h H Q0) (e : Stp L h H h1 H1) : BW L Q h1 H1 Q0 := fun v h' H' q t => x v h' H' q (e.trans t)
def AW (L : Lk) (Q : List V → L2.Hp → Prop) (h : HS) (H : L2.Hp) (Q0 : List Val → HS → Prop) : Prop := ∀ vs h' xs H', Q0 vs h' → Stp L h H h' H' → RVs L H' xs vs → Q xs H'
theorem AW.ext {L : Lk} {Q : List V → L2.Hp → Prop} {h h1 : HS} {H H1 : L2.Hp} {Q0 : List Val → HS → Prop} (x : AW L Q h H Q0) (e : Stp L h H h1 H1) : AW L Q h1 H1 Q0 := fun v h' y H' q t z => x v h' y H' q (e.trans t) z
/-- an expression's reading by its weakest precondition -/
def tF (L : Lk) (W : WX) (m : Env → HS → PV → PX → Prop) : TE := fun σ H Q => ∃ env h Q0 X0, RE L H σ env ∧ Rel L h H ∧ m env h Q0 X0 ∧ QW L Q h H Q0 ∧ XW L W σ h H X0
def tFB (L : Lk) (W : WX) (m : Env → HS → (Bool → HS → Prop) → PX → Prop) : TT := fun σ H Q => ∃ env h Q0 X0, RE L H σ env ∧ Rel L h H ∧ m env h Q0 X0 ∧ BW L Q h H Q0 ∧ XW L W σ h H X0
def tFA (L : Lk) (W : WX) (m : Env → HS → (List Val → HS → Prop) → PX → Prop) : TA := fun σ H Q => ∃ env h Q0 X0, RE L H σ env ∧ Rel L h H ∧ m env h Q0 X0 ∧ AW L Q h H Q0 ∧ XW L W σ h H X0
/-- .. of values -/
theorem PE.imp {X : Cx} {e : Expr} {t t' : TE} (p : PE X e t) (h : ∀ σ H Q, t' σ H Q → t σ H Q) : PE X e t' := ⟨fun pins s σ H Q I q => p.run pins s σ H Q I (h σ H Q q)⟩
theorem PT.imp {X : Cx} {e : Expr} {t t' : TT} (p : PT X e t) (h : ∀ σ H Q, t' σ H Q → t σ H Q) : PT X e t' := ⟨fun pins s σ H Q I q => p.run pins s σ H Q I (h σ H Q q)⟩
theorem PW.imp {X : Cx} {e : Expr} {t t' : TT} (p : PW X e t) (h : ∀ σ H Q, t' σ H Q → t σ H Q) : PW X e t' := ⟨fun wh pins s σ H Q I q => p.run wh pins s σ H Q I (h σ H Q q)⟩
theorem PA.imp {X : Cx} {es : List Expr} {t t' : TA} (p : PA X es t) (h : ∀ σ H Q, t' σ H Q → t σ H Q) : PA X es t' := ⟨fun pos pins s σ H Q I q => p.run pos pins s σ H Q I (h σ H Q q)⟩
theorem PI.imp {X : Cx} {tg e : Expr} {t t' : TI} (p : PI X tg e t) (h : ∀ σ H Q, t' σ H Q → t σ H Q) : PI X tg e t' := ⟨fun pins s σ H Q I q => p.run pins s σ H Q I (h σ H Q q)⟩
theorem PG.imp {X : Cx} {tg : Expr} {t t' : TG} (p : PG X tg t) (h : ∀ v σ H Q, t' v σ H Q → t v σ H Q) : PG X tg t' := ⟨fun pins s σ H v u Q I r q => p.run pins s σ H v u Q I r (h v σ H Q q)⟩
theorem PS.imp {X : Cx} {st : Stmt} {t t' : TS} (p : PS X st t) (h : ∀ D σ H, t' D σ H → t D σ H) : PS X st t' := ⟨fun pins s σ H D I q => p.run pins s σ H D I (h D σ H q)⟩
theorem PSs.imp {X : Cx} {st : List Stmt} {t t' : TS} (p : PSs X st t) (h : ∀ D σ H, t' D σ H → t D σ H) : PSs X st t' := ⟨fun pins s σ H D I q => p.run pins s σ H D I (h D σ H q)⟩
end CS

/-! Cs3 -/
/-! Cs3: the small semantics' operations, by the hand layer's rules by values. -/
namespace CS
open PySem PySem.Spec PyProof.Rows L2
theorem cap_line : cap = sizeLine := by rw [sizeLine_eq]; rfl

/-! ### small inversions -/
section
variable {L : Lk} {H : L2.Hp}
theorem RV.int_inv {x : V} {i : Int} (r : RV L H x (.int i)) : x = .int i := by cases r; rfl
theorem RV.bl_inv {x : V} {i : Bool} (r : RV L H x (.bl i)) : x = .bl i := by cases r; rfl
theorem RV.non_inv {x : V} (r : RV L H x .non) : x = .non := by cases r; rfl
theorem RV.ref_inv {x : V} {a : Nat} (r : RV L H x (.ref a)) : x = .ref a := by cases r; rfl
theorem RV.tup_inv {x : V} {vs : List Val} (r : RV L H x (.tup vs)) : ∃ a ws, x = .ref a ∧ SqT L.K H a ws ∧ RVs L H ws vs := by
  cases r with
  | tup h t => exact ⟨_, _, rfl, .of h, t⟩
  | tup0 h => exact ⟨_, _, rfl, h, .nil⟩
theorem RV.rol_inv {x : V} {vs : List Val} (r : RV L H x (.rol vs)) : ∃ a ws, x = .ref a ∧ RoL L H a ws ∧ RVs L H ws vs := by cases r with | rol h t => exact ⟨_, _, rfl, h, t⟩
theorem RV.non_iff {x : V} {v : Val} (r : RV L H x v) : decide (x = .non) = isNon v := by
  cases r <;> first | rfl | simp [isNon]
theorem Rel.list {h : HS} (r : Rel L h H) {a : Nat} {vs : List Val} (e : h a = some (.list vs)) : ∃ ws, H a = some (.lst ws) ∧ RVs L H ws vs := r a _ e
theorem listAt_inv {h : HS} {a : Nat} {vs : List Val} (e : listAt h a = some vs) : h a = some (.list vs) := by
  unfold listAt at e
  split at e
  · rename_i ws q; cases e; exact q
  · cases e
theorem listAt_some {h : HS} {a : Nat} {vs : List Val} (e : h a = some (.list vs)) : listAt h a = some vs := by unfold listAt; rw [e]
theorem Rel.at {h : HS} (r : Rel L h H) {a : Nat} {vs : List Val} (e : listAt h a = some vs) : ∃ ws, H a = some (.lst ws) ∧ RVs L H ws vs := r.list (listAt_inv e)
/-- a new list, a new tuple -/
theorem QW.lst {h : HS} {Q : VK} {Q0 : PV} (q : QW L Q h H Q0) (r : Rel L h H) {p : Addr} {ws : List V} {vs : List Val} (e : H p = none) (n : new h (.list vs) Q0) (t : RVs L H ws vs) : Q (.ref p) (upd H p (.lst ws)) :=
  q _ _ _ _ (n p (r.free e)) (.new r e ⟨ws, upd_same, t.ext (.upd_new e)⟩) (.ref p)
theorem QW.tup {h : HS} {Q : VK} {Q0 : PV} (q : QW L Q h H Q0) (r : Rel L h H) {p : Addr} {ws : List V} {vs : List Val} (e : H p = none) (n : Q0 (.tup vs) h) (t : RVs L H ws vs) : Q (.ref p) (upd H p (.tup ws)) :=
  q _ _ _ _ n (.more r e) (.tup upd_same (t.ext (.upd_new e)))
theorem QW.here {h : HS} {Q : VK} {Q0 : PV} (q : QW L Q h H Q0) (r : Rel L h H) {x : V} {v : Val} (n : Q0 v h) (t : RV L H x v) : Q x H := q _ _ _ _ n (.refl r) t
theorem QW.put {h : HS} {Q : VK} {Q0 : PV} (q : QW L Q h H Q0) (r : Rel L h H) {p : Addr} {u w : HO} {o o' : Obj} {x : V} {v : Val} (e0 : h p = some o') (e : H p = some w) (m : Mu w) (n : Q0 v (h.up p o)) (t : RV L H x v) (ro : RO L (upd H p u) p o) : Q x (upd H p u) :=
  q _ _ _ _ n (.put r e0 e m ro) (t.ext (.upd_mut e m))

/-! ### ints, bools in lists -/
theorem RVs.ints : ∀ {vs : List Val} {ws : List V} {ns : List Int}, RVs L H ws vs → vs.mapM asInt = some ns → ws = ns.map V.int ∧ vs = ns.map Val.int
  | [], _, _, .nil, e => by cases e; exact ⟨rfl, rfl⟩
  | v :: vs, _, ns, .cons r t, e => by
    cases v with
    | int i =>
      simp only [List.mapM_cons, asInt, Option.bind_eq_bind, Option.bind_some] at e
      cases h : vs.mapM asInt with
      | none => rw [h] at e; cases e
      | some ms =>
        rw [h] at e; cases e
        obtain ⟨a, b⟩ := RVs.ints t h
        rw [r.int_inv, a, b]; exact ⟨rfl, rfl⟩
    | _ => simp [asInt] at e
theorem RVs.bls : ∀ {vs : List Val} {ws : List V} {ns : List Bool}, RVs L H ws vs → vs.mapM asBool = some ns → ws = ns.map V.bl ∧ vs = ns.map Val.bl
  | [], _, _, .nil, e => by cases e; exact ⟨rfl, rfl⟩
  | v :: vs, _, ns, .cons r t, e => by
    cases v with
    | bl i =>
      simp only [List.mapM_cons, asBool, Option.bind_eq_bind, Option.bind_some] at e
      cases h : vs.mapM asBool with
      | none => rw [h] at e; cases e
      | some ms =>
        rw [h] at e; cases e
        obtain ⟨a, b⟩ := RVs.bls t h
        rw [r.bl_inv, a, b]; exact ⟨rfl, rfl⟩
    | _ => simp [asBool] at e
theorem RVs.of_ints : ∀ ns : List Int, RVs L H (ns.map V.int) (ns.map Val.int)
  | [] => .nil
  | n :: ns => .cons (.int n) (RVs.of_ints ns)

/-! ### data -/
mutual
theorem toD_dp {h : HS} (r : Rel L h H) : ∀ (n : Nat) {x : V} {v : Val} {d : PyData}, RV L H x v → toD h n v = some d → Dp L.K H x d ∧ d.canLay0 = true ∧ d.depth ≤ n
  | n, _, .non, d, q, e => by
    cases q
    have e' : some PyData.none = some d := by rw [← e]; cases n <;> rfl
    cases e'; exact ⟨.non, rfl, Nat.zero_le _⟩
  | n, _, .bl b, d, q, e => by
    cases q
    have e' : some (PyData.bool b) = some d := by rw [← e]; cases n <;> rfl
    cases e'; exact ⟨.bl b, rfl, Nat.zero_le _⟩
  | n, _, .int b, d, q, e => by
    cases q
    have e' : some (PyData.int b) = some d := by rw [← e]; cases n <;> rfl
    cases e'; exact ⟨.int b, rfl, Nat.zero_le _⟩
  | n, _, .str b, d, q, e => by
    cases q
    have e' : (if PyData.strOk b = true then some (PyData.str b) else none) = some d := by rw [← e]; cases n <;> rfl
    by_cases hb : PyData.strOk b = true
    · rw [if_pos hb] at e'; cases e'; exact ⟨.str b, hb, Nat.zero_le _⟩
    · rw [if_neg hb] at e'; cases e'
  | 0, _, .tup vs, _, q, e => by simp [toD] at e
  | 0, _, .rol vs, _, q, e => by simp [toD] at e
  | 0, _, .ref a, _, q, e => by simp [toD] at e
  | n + 1, _, .tup vs, d, q, e => by
    obtain ⟨a, ws, rfl, hs, t⟩ := q.tup_inv
    simp only [toD] at e
    cases h2 : vs.mapM (toD h n) with
    | none => rw [h2] at e; cases e
    | some ds =>
      rw [h2] at e; cases e
      obtain ⟨a1, a2, a3⟩ := toD_dps r n t h2
      exact ⟨.tup hs a1, a2, by show PyData.depthAll ds + 1 ≤ n + 1; omega⟩
  | n + 1, _, .rol vs, d, q, e => by
    obtain ⟨a, ws, rfl, hs, t⟩ := q.rol_inv
    simp only [toD] at e
    cases h2 : vs.mapM (toD h n) with
    | none => rw [h2] at e; cases e
    | some ds =>
      rw [h2] at e; cases e
      obtain ⟨a1, a2, a3⟩ := toD_dps r n t h2
      exact ⟨.lst hs.sq a1, a2, by show PyData.depthAll ds + 1 ≤ n + 1; omega⟩
  | n + 1, _, .ref a, d, q, e => by
    cases q
    simp only [toD] at e
    cases h1 : listAt h a with
    | none => rw [h1] at e; cases e
    | some vs =>
      rw [h1] at e
      simp only at e
      obtain ⟨ws, hH, t⟩ := r.at h1
      cases h2 : vs.mapM (toD h n) with
      | none => rw [h2] at e; cases e
      | some ds =>
        rw [h2] at e; cases e
        obtain ⟨a1, a2, a3⟩ := toD_dps r n t h2
        exact ⟨.lst (.of hH) a1, a2, by show PyData.depthAll ds + 1 ≤ n + 1; omega⟩
  | 0, _, .fn f, _, q, e => by simp [toD] at e
  | 0, _, .ty f, _, q, e => by simp [toD] at e
  | 0, _, .cl f, _, q, e => by simp [toD] at e
  | n + 1, _, .fn f, _, q, e => by simp [toD] at e
  | n + 1, _, .ty f, _, q, e => by simp [toD] at e
  | n + 1, _, .cl f, _, q, e => by simp [toD] at e
theorem toD_dps {h : HS} (r : Rel L h H) : ∀ (n : Nat) {ws : List V} {vs : List Val} {ds : List PyData}, RVs L H ws vs → vs.mapM (toD h n) = some ds → DpAll L.K H ws ds ∧ PyData.canLayAll0 ds = true ∧ PyData.depthAll ds ≤ n
  | n, _, [], _, .nil, e => by cases e; exact ⟨.nil, rfl, Nat.zero_le _⟩
  | n, _, v :: vs, _, .cons q t, e => by
    simp only [List.mapM_cons, Option.bind_eq_bind] at e
    cases h1 : toD h n v with
    | none => rw [h1] at e; cases e
    | some d =>
      rw [h1] at e
      simp only [Option.bind_some] at e
      cases h2 : vs.mapM (toD h n) with
      | none => rw [h2] at e; cases e
      | some ds =>
        rw [h2] at e; cases e
        obtain ⟨a1, a2, a3⟩ := toD_dp r n q h1
        obtain ⟨b1, b2, b3⟩ := toD_dps r n t h2
        refine ⟨.cons a1 b1, ?_, ?_⟩
        · simp only [PyData.canLayAll0, a2, b2, Bool.and_self]
        · simp only [PyData.depthAll]; omega
end
theorem shaped_of {d : PyData} (a : d.canLay0 = true) (b : d.depth ≤ fuel) : SeqAt.shaped d = true := by
  unfold SeqAt.shaped
  rw [a, Bool.true_and]
  exact decide_eq_true (Nat.le_trans b (by decide))
theorem shaped_list {ds : List PyData} (a : PyData.canLayAll0 ds = true) (b : PyData.depthAll ds ≤ fuel) : SeqAt.shaped (.list ds) = true := by
  unfold SeqAt.shaped
  rw [show (PyData.list ds).canLay0 = true from a, Bool.true_and]
  exact decide_eq_true (by show PyData.depthAll ds + 1 ≤ 64; have : fuel = 20 := rfl; omega)
theorem shaped_tup {ds : List PyData} (a : PyData.canLayAll0 ds = true) (b : PyData.depthAll ds ≤ fuel) : SeqAt.shaped (.tuple ds) = true := by
  unfold SeqAt.shaped
  rw [show (PyData.tuple ds).canLay0 = true from a, Bool.true_and]
  exact decide_eq_true (by show PyData.depthAll ds + 1 ≤ 64; have : fuel = 20 := rfl; omega)
end

/-! ### operators -/
def rO2 (L : Lk) (o : Op2) : R2 := fun x y H Q => ∃ h vx vy Q0, Rel L h H ∧ RV L H x vx ∧ RV L H y vy ∧ op2 o h vx vy Q0 ∧ QW L Q h H Q0
def opOf : Op2 → Operator
  | .add => .Add | .sub => .Sub | .mul => .Mult | .fdiv => .FloorDiv | .mod => .Mod | .pow => .Pow | .xor => .BitXor
section
variable {X : Cx} {L : Lk}
/-- list + list, whatever lists -/
def rCatL (K : PySem.W.Frag) : R2 := fun x y H Q => ∃ l b xs zs, x = .ref l ∧ y = .ref b ∧ SqL K H l xs ∧ SqL K H b zs ∧ xs.length + zs.length ≤ sizeLine ∧ ∀ p, H p = none → Q (.ref p) (upd H p (.lst (xs ++ zs)))
theorem op_catL : OpR X (binaryOp .Add) (rCatL X.K) := by
  intro pins s σ H x y v u Q I rx ry hh
  obtain ⟨l, b, xs, zs, rfl, rfl, hl, hb, hz, q⟩ := hh
  cases rx
  cases ry
  obtain ⟨i1, r1, ⟨⟨c1, d1, t1, s1⟩, n1, o1, k1, e1, f1⟩, z1⟩ := I.list hl
  obtain ⟨i2, r2, ⟨⟨c2, d2, t2, s2⟩, n2, o2, k2, e2, f2⟩, z2⟩ := I.list hb
  simp only at k1 e1 f1 k2 e2 f2
  subst k1 e1 f1 k2 e2 f2
  have g1 := r1.length
  have g2 := r2.length
  have ea : i1.toArray ++ i2.toArray = (i1 ++ i2).toArray := by simp
  refine concat_meets ⟨_, o1, rfl⟩ ⟨_, o2, rfl⟩ noFill_list_add seq_list_add PySem.F.slot_list_add PySem.F.entry_list_add (PySem.F.args_list_add_2 _ _)
    (list_addW l b i1.toArray i2.toArray n1 n2 none none s1 s2 (by simp only [List.size_toArray]; omega)) ⟨o1, o2, ?_⟩
  rw [ea]
  refine ⟨.ref _, upd H s.heap.objs.size (.lst (xs ++ zs)), I.laid (t' := s.toks) (fun c o e => Heap.get?_push_of_some _ e) (Nat.le_refl _) ?_, rfl, q _ (I.hok.fresh (Nat.le_refl _))⟩
  exact ⟨by rw [List.length_append]; exact hz, _, 0, r1.append r2, Heap.get?_push_size _ rfl⟩
theorem op2_ok (hK : X.K = L.K) (o : Op2) : OpR X (binaryOp (opOf o)) (rO2 L o) := by
  intro pins s σ H x y v u Q I rx ry ⟨h, vx, vy, Q0, r, ax, ay, w, q⟩
  unfold op2 at w
  split at w
  · obtain rfl := ax.int_inv; obtain rfl := ay.int_inv; exact op_add pins s σ H _ _ v u Q I rx ry ⟨_, _, rfl, rfl, q.here r w (.int _)⟩
  · obtain rfl := ax.int_inv; obtain rfl := ay.int_inv; exact op_sub pins s σ H _ _ v u Q I rx ry ⟨_, _, rfl, rfl, q.here r w (.int _)⟩
  · obtain rfl := ax.int_inv; obtain rfl := ay.int_inv; exact op_mul pins s σ H _ _ v u Q I rx ry ⟨_, _, rfl, rfl, w.1, q.here r w.2 (.int _)⟩
  · obtain rfl := ax.int_inv; obtain rfl := ay.int_inv; exact op_fdivN pins s σ H _ _ v u Q I rx ry ⟨_, _, rfl, rfl, w.1, q.here r w.2 (.int _)⟩
  · obtain rfl := ax.int_inv; obtain rfl := ay.int_inv; exact op_modN pins s σ H _ _ v u Q I rx ry ⟨_, _, rfl, rfl, w.1, q.here r w.2 (.int _)⟩
  · obtain rfl := ax.int_inv; obtain rfl := ay.int_inv; exact op_pow pins s σ H _ _ v u Q I rx ry ⟨_, _, rfl, rfl, w.1, q.here r w.2 (.int _)⟩
  · rename_i xs ys
    obtain ⟨a, ws, rfl, h1, t1⟩ := ax.tup_inv
    obtain ⟨b, zs, rfl, h2, t2⟩ := ay.tup_inv
    have g1 := t1.length
    have g2 := t2.length
    refine op_catA pins s σ H _ _ v u Q I rx ry ⟨_, _, _, _, rfl, rfl, by rw [hK]; exact h1, by rw [hK]; exact h2, by rw [← cap_line]; omega, fun e => ?_, fun e1 e2 => ?_, fun e1 e2 p hp => q.tup r hp w.2 (t1.append t2)⟩
    · subst e
      have : xs = [] := List.eq_nil_of_length_eq_zero g1.symm
      subst this
      exact q.here r w.2 ay
    · subst e2
      have : ys = [] := List.eq_nil_of_length_eq_zero g2.symm
      subst this
      exact q.here r w.2 (by rw [List.append_nil]; exact ax)
  · rename_i a b
    split at w
    · rename_i xs ys e1 e2
      obtain ⟨ws, h1, t1⟩ := r.list e1
      obtain ⟨zs, h2, t2⟩ := r.list e2
      have g1 := t1.length
      have g2 := t2.length
      obtain rfl := ax.ref_inv
      obtain rfl := ay.ref_inv
      exact op_catL pins s σ H _ _ v u Q I rx ry ⟨_, _, _, _, rfl, rfl, .of h1, .of h2, by rw [← cap_line]; omega, fun p hp => q.lst r hp w.2 (t1.append t2)⟩
    · exact w.elim
  · rename_i xs b
    split at w
    · rename_i ys e2
      obtain ⟨a, ws, rfl, h1, t1⟩ := ax.rol_inv
      obtain ⟨zs, h2, t2⟩ := r.list e2
      have g1 := t1.length
      have g2 := t2.length
      obtain rfl := ay.ref_inv
      exact op_catL pins s σ H _ _ v u Q I rx ry ⟨_, _, _, _, rfl, rfl, by rw [hK]; exact h1.sq, .of h2, by rw [← cap_line]; omega, fun p hp => q.lst r hp w.2 (t1.append t2)⟩
    · exact w.elim
  · rename_i a k
    split at w
    · rename_i xs e1
      obtain ⟨ws, h1, t1⟩ := r.list e1
      have g1 := t1.length
      obtain rfl := ax.ref_inv
      obtain rfl := ay.int_inv
      exact op_rep pins s σ H _ _ v u Q I rx ry ⟨_, _, _, rfl, rfl, h1, w.1, w.2.1, by rw [← cap_line, g1]; exact w.2.2.1, fun p hp => q.lst r hp w.2.2.2 (t1.flat _)⟩
    · exact w.elim
  · rename_i xs k
    obtain ⟨a, ws, rfl, h1, t1⟩ := ax.tup_inv
    have g1 := t1.length
    obtain rfl := ay.int_inv
    exact op_repT pins s σ H _ _ v u Q I rx ry ⟨_, _, _, rfl, rfl, by rw [hK]; exact h1, (fun e => w.1 (List.eq_nil_of_length_eq_zero (by rw [← g1, e]; rfl))), w.2.1, w.2.2.1, by omega, fun p hp => q.tup r hp w.2.2.2.2 (t1.flat _)⟩
  · exact w.elim
end
end CS

/-! Cs4 -/
/-! Cs4: comparisons, subscripts, slices, dicts, built-ins by values. -/
namespace CS
open PySem PySem.Spec PyProof.Rows L2
/-! ### keys -/
def k1 : Key → Val
  | .inl i => .int i
  | .inr s => .str s
theorem ofK_eq (ks : List Key) : ofK ks = .tup (ks.map k1) := by
  show Val.tup _ = _
  congr 1
theorem beq_k1 : ∀ a b : Key, (k1 a).beq (k1 b) = decide (a = b)
  | .inl i, .inl j => by
    show (i == j) = _
    rw [← key_ll]
  | .inr x, .inr y => by
    show decide (x = y) = _
    rw [key_rr]
  | .inl i, .inr y => by
    show false = _
    rw [key_lr]
  | .inr x, .inl j => by
    show false = _
    rw [key_rl]
theorem beqs_k1 : ∀ a b : List Key, Val.beqs (a.map k1) (b.map k1) = decide (a = b)
  | [], [] => by simp [Val.beqs]
  | [], _ :: _ => by simp [Val.beqs]
  | _ :: _, [] => by simp [Val.beqs]
  | x :: xs, y :: ys => by
    show ((k1 x).beq (k1 y) && Val.beqs (xs.map k1) (ys.map k1)) = _
    rw [beq_k1, beqs_k1 xs ys]
    by_cases h1 : x = y <;> by_cases h2 : xs = ys <;> simp [h1, h2]
theorem beq_ofK (a b : List Key) : (ofK a).beq (ofK b) = decide (a = b) := by
  rw [ofK_eq, ofK_eq]
  exact beqs_k1 a b
section
variable {L : Lk} {H : L2.Hp}
theorem RVs.keys : ∀ {ws : List V} {vs : List Val}, RVs L H ws vs → (vs.all fun v => match v with | .int _ => true | .str _ => true | _ => false) = true → ∃ ks : List Key, ws = ks.map kV ∧ vs = ks.map k1
  | _, _, .nil, _ => ⟨[], rfl, rfl⟩
  | _, _, .cons r t, e => by
    rw [List.all_cons, Bool.and_eq_true] at e
    obtain ⟨ks, a, b⟩ := RVs.keys t e.2
    cases r with
    | int i => exact ⟨.inl i :: ks, by rw [a]; rfl, by rw [b]; rfl⟩
    | str s => exact ⟨.inr s :: ks, by rw [a]; rfl, by rw [b]; rfl⟩
    | _ => exact absurd e.1 (by simp)
theorem RV.key {x : V} {v : Val} (r : RV L H x v) (e : isKey v = true) : ∃ (ks : List Key) (b : Addr), x = .ref b ∧ H b = some (.tup (ks.map kV)) ∧ v = ofK ks := by
  cases r with
  | @tup a ws vs h t =>
    have e' : (!vs.isEmpty && vs.all fun v => match v with | .int _ => true | .str _ => true | _ => false) = true := e
    rw [Bool.and_eq_true] at e'
    obtain ⟨ks, q1, q2⟩ := t.keys e'.2
    exact ⟨ks, a, rfl, by rw [h, q1], by rw [ofK_eq, q2]⟩
  | tup0 h => simp [isKey] at e
  | _ => simp [isKey] at e
theorem RKs.get {k : List Key} : ∀ {kws : List (List Key × V)} {kvs : List (Val × Val)}, RKs L H kws kvs → (valV kws k = none ∧ dget kvs (ofK k) = none) ∨ ∃ w v, valV kws k = some w ∧ dget kvs (ofK k) = some v ∧ RV L H w v
  | _, _, .nil => .inl ⟨rfl, rfl⟩
  | p :: ps, q :: qs, .cons r t => by
    have b : q.1.beq (ofK k) = decide (p.1 = k) := by rw [r.1]; exact beq_ofK _ _
    by_cases e : p.1 = k
    · refine .inr ⟨p.2, q.2, valV_pos e, ?_, r.2⟩
      unfold dget
      rw [List.find?_cons, b, decide_eq_true e]; rfl
    · have e1 : valV (p :: ps) k = valV ps k := valV_neg e
      have e2 : dget (q :: qs) (ofK k) = dget qs (ofK k) := by
        unfold dget
        rw [List.find?_cons, b, decide_eq_false e]
      rw [e1, e2]
      exact RKs.get t
theorem RKs.isSome {k : List Key} {kws : List (List Key × V)} {kvs : List (Val × Val)} (r : RKs L H kws kvs) : (valV kws k).isSome = (dget kvs (ofK k)).isSome := by
  rcases r.get (k := k) with ⟨a, b⟩ | ⟨w, v, a, b, _⟩ <;> rw [a, b] <;> rfl
theorem RKs.length {kws : List (List Key × V)} {kvs : List (Val × Val)} (r : RKs L H kws kvs) : kws.length = kvs.length := Paired.length r
theorem RKs.any {k : List Key} : ∀ {kws : List (List Key × V)} {kvs : List (Val × Val)}, RKs L H kws kvs → (kws.any fun kv => decide (kv.1 = k)) = kvs.any fun p => p.1.beq (ofK k)
  | _, _, .nil => rfl
  | p :: ps, q :: qs, .cons r t => by
    have b : q.1.beq (ofK k) = decide (p.1 = k) := by rw [r.1]; exact beq_ofK _ _
    rw [List.any_cons, List.any_cons, b, RKs.any t]
theorem RKs.repl {k : List Key} {w : V} {v : Val} (rv : RV L H w v) : ∀ {kws : List (List Key × V)} {kvs : List (Val × Val)}, RKs L H kws kvs → RKs L H (kws.map fun kv => if kv.1 = k then (kv.1, w) else kv) (kvs.map fun p => if p.1.beq (ofK k) then (p.1, v) else p)
  | _, _, .nil => .nil
  | p :: ps, q :: qs, .cons r t => by
    have b : q.1.beq (ofK k) = decide (p.1 = k) := by rw [r.1]; exact beq_ofK _ _
    rw [List.map_cons, List.map_cons, b]
    refine .cons ?_ (RKs.repl rv t)
    by_cases e : p.1 = k
    · rw [if_pos e, if_pos (by simp [e])]; exact ⟨r.1, rv⟩
    · rw [if_neg e, if_neg (by simp [e])]; exact r
theorem RKs.snoc {k : List Key} {w : V} {v : Val} (rv : RV L H w v) : ∀ {kws : List (List Key × V)} {kvs : List (Val × Val)}, RKs L H kws kvs → RKs L H (kws ++ [(k, w)]) (kvs ++ [(ofK k, v)])
  | _, _, .nil => .cons ⟨rfl, rv⟩ .nil
  | p :: ps, q :: qs, .cons r t => .cons r (RKs.snoc rv t)
theorem RKs.put {k : List Key} {w : V} {v : Val} (rv : RV L H w v) {kws : List (List Key × V)} {kvs : List (Val × Val)} (r : RKs L H kws kvs) : RKs L H (putK kws k w) (dput kvs (ofK k) v) := by
  unfold putK dput
  rw [← r.any]
  split
  · exact r.repl rv
  · exact r.snoc rv
theorem RKs.drop {k : List Key} : ∀ {kws : List (List Key × V)} {kvs : List (Val × Val)}, RKs L H kws kvs → RKs L H (dropK kws k) (ddrop kvs (ofK k))
  | _, _, .nil => .nil
  | p :: ps, q :: qs, .cons r t => by
    have b : q.1.beq (ofK k) = decide (p.1 = k) := by rw [r.1]; exact beq_ofK _ _
    have ih := RKs.drop (k := k) t
    unfold dropK ddrop at ih ⊢
    rw [List.filter_cons, List.filter_cons, b]
    by_cases e : p.1 = k
    · simp only [e, ne_eq, not_true_eq_false, decide_false, decide_true, Bool.not_true, Bool.false_eq_true, if_false]; exact ih
    · simp only [e, ne_eq, not_false_eq_true, decide_true, decide_false, Bool.not_false, if_true]; exact .cons r ih
theorem RKs.rd {h : HS} (r : Rel L h H) {a : Nat} {lk : Bool} {kvs : List (Val × Val)} (e : h a = some (.dict lk kvs)) : ∃ kws, Rd H a (.dT kws) ∧ RKs L H kws kvs := by
  have := r a _ e
  cases lk with
  | false => obtain ⟨ws, q, t⟩ := this; exact ⟨ws, .inl q, t⟩
  | true => obtain ⟨od, ws, q, t⟩ := this; exact ⟨ws, .inr ⟨od, q⟩, t⟩
end

/-! ### comparisons -/
def cmpOf : Cmp → CmpOp
  | .eq => .Eq | .ne => .NotEq | .lt => .Lt | .le => .LtE | .gt => .Gt | .ge => .GtE | .is => .Is | .nis => .IsNot | .mem => .In | .nmem => .NotIn
def rC2 (L : Lk) (o : Cmp) : R2 := fun x y H Q => ∃ h vx vy K, Rel L h H ∧ RV L H x vx ∧ RV L H y vy ∧ cmp2 o h vx vy K ∧ ∀ c, K c → Q (.bl c) H
section
variable {X : Cx} {L : Lk}
def rInT (K : PySem.W.Frag) (neg : Bool) : R2 := fun x y H Q => ∃ d ds, Dp K H x d ∧ Dp K H y (.tuple ds) ∧ SeqAt.shaped d = true ∧ SeqAt.shaped (.tuple ds) = true ∧ Q (.bl (if neg then !ds.any fun z => PyData.eqv z d else ds.any fun z => PyData.eqv z d)) H
theorem room_in2 {A : Around} {d : PyData} {n : Nat} (hd : SeqAt.shaped d = true) (hu : A.units + 65 < cLine) : A.units + 1 + min n d.depth < cLine := by
  have h1 := SeqAt.depth_of_shaped hd
  have h2 : min n d.depth ≤ d.depth := Nat.min_le_right _ _
  omega
theorem op_inT (hu : X.A.units + 65 < cLine) : OpR X (compareOp .In) (rInT X.K false) := by
  intro pins s σ H x y v u Q I rx ry ⟨d, ds, hd, he, sd, se, q⟩
  obtain ⟨as, r1⟩ := Dp.reads I d x v hd rx
  obtain ⟨bs, r2⟩ := Dp.reads I (.tuple ds) y u he ry
  exact SeqAt.in_tuple_reads r2 r1 (SeqAt.canLay_of_shaped se) (SeqAt.canLay_of_shaped sd) (room_in2 sd hu) ⟨.bl _, H, I, rfl, q⟩
theorem op_ninT (hu : X.A.units + 65 < cLine) : OpR X (compareOp .NotIn) (rInT X.K true) := by
  intro pins s σ H x y v u Q I rx ry ⟨d, ds, hd, he, sd, se, q⟩
  obtain ⟨as, r1⟩ := Dp.reads I d x v hd rx
  obtain ⟨bs, r2⟩ := Dp.reads I (.tuple ds) y u he ry
  exact SeqAt.notIn_tuple_reads r2 r1 (SeqAt.canLay_of_shaped se) (SeqAt.canLay_of_shaped sd) (room_in2 sd hu) ⟨.bl _, H, I, rfl, q⟩
theorem op_inDic (hu : X.A.units + 1 < cLine) : OpR X (compareOp .In) (fun x y H Q => ∃ a o, y = .ref a ∧ DGet H a x o ∧ Q (.bl o.isSome) H) := by
  intro pins s σ H x y v u Q I rx ry ⟨a, o, e, g, q⟩
  subst e
  cases ry
  exact d_in hu I g rx fun s' J => ⟨.bl _, H, J, rfl, q⟩
theorem op_ninDic (hu : X.A.units + 1 < cLine) : OpR X (compareOp .NotIn) (fun x y H Q => ∃ a o, y = .ref a ∧ DGet H a x o ∧ Q (.bl (!o.isSome)) H) := by
  intro pins s σ H x y v u Q I rx ry ⟨a, o, e, g, q⟩
  subst e
  cases ry
  exact d_notIn hu I g rx fun s' J => ⟨.bl _, H, J, rfl, q⟩
theorem DGet.rd {H : L2.Hp} {a b : Addr} {kws : List (List Key × V)} {k : List Key} (e : Rd H a (.dT kws)) (eb : H b = some (.tup (k.map kV))) : DGet H a (.ref b) (valV kws k) := .inr ⟨kws, k, b, e, rfl, eb, rfl⟩
theorem cmp2_ok (hK : X.K = L.K) (hu : X.A.units + 65 < cLine) (o : Cmp) : OpR X (compareOp (cmpOf o)) (rC2 L o) := by
  intro pins s σ H x y v u Q I rx ry ⟨h, vx, vy, K, r, ax, ay, w, q⟩
  cases o with
  | eq =>
    obtain ⟨d, e, e1, e2, w⟩ := w
    obtain ⟨d1, d2, d3⟩ := toD_dp r _ ax e1
    obtain ⟨f1, f2, f3⟩ := toD_dp r _ ay e2
    exact op_eqD (by omega) pins s σ H x y v u Q I rx ry ⟨d, e, by rw [hK]; exact d1, by rw [hK]; exact f1, shaped_of d2 d3, shaped_of f2 f3, q _ w⟩
  | ne =>
    obtain ⟨d, e, e1, e2, w⟩ := w
    obtain ⟨d1, d2, d3⟩ := toD_dp r _ ax e1
    obtain ⟨f1, f2, f3⟩ := toD_dp r _ ay e2
    exact op_neD (by omega) pins s σ H x y v u Q I rx ry ⟨d, e, by rw [hK]; exact d1, by rw [hK]; exact f1, shaped_of d2 d3, shaped_of f2 f3, q _ w⟩
  | lt =>
    obtain ⟨i, j, rfl, rfl, w⟩ := w
    obtain rfl := ax.int_inv; obtain rfl := ay.int_inv
    exact op_lt pins s σ H _ _ v u Q I rx ry ⟨i, j, rfl, rfl, q _ w⟩
  | le =>
    obtain ⟨i, j, rfl, rfl, w⟩ := w
    obtain rfl := ax.int_inv; obtain rfl := ay.int_inv
    exact op_le pins s σ H _ _ v u Q I rx ry ⟨i, j, rfl, rfl, q _ w⟩
  | gt =>
    obtain ⟨i, j, rfl, rfl, w⟩ := w
    obtain rfl := ax.int_inv; obtain rfl := ay.int_inv
    exact op_gt pins s σ H _ _ v u Q I rx ry ⟨i, j, rfl, rfl, q _ w⟩
  | ge =>
    obtain ⟨i, j, rfl, rfl, w⟩ := w
    obtain rfl := ax.int_inv; obtain rfl := ay.int_inv
    exact op_ge pins s σ H _ _ v u Q I rx ry ⟨i, j, rfl, rfl, q _ w⟩
  | is =>
    obtain ⟨rfl, w⟩ := w
    exact op_isN pins s σ H _ _ v u Q I rx ry ⟨ay.non_inv, q _ (by rw [ax.non_iff]; exact w)⟩
  | nis =>
    obtain ⟨rfl, w⟩ := w
    refine op_notN pins s σ H _ _ v u Q I rx ry ⟨ay.non_inv, q _ ?_⟩
    rw [ax.non_iff]
    exact w
  | mem =>
    simp only [cmp2] at w
    split at w
    · rename_i a
      obtain rfl := ay.ref_inv
      split at w
      · rename_i lk kvs e
        obtain ⟨kws, hd, t⟩ := RKs.rd r e
        obtain ⟨ks, b, rfl, hb, rfl⟩ := ax.key w.1
        refine op_inDic (by omega) pins s σ H _ _ v u Q I rx ry ⟨a, _, rfl, DGet.rd hd hb, q _ ?_⟩
        rw [t.isSome]; exact w.2
      · obtain ⟨d, vs, ds, e1, e2, e3, w⟩ := w
        obtain ⟨d1, d2, d3⟩ := toD_dp r _ ax e1
        obtain ⟨ws, hH, t⟩ := r.at e2
        obtain ⟨f1, f2, f3⟩ := toD_dps r _ t e3
        exact op_inD hu pins s σ H x _ v u Q I rx ry ⟨d, ds, by rw [hK]; exact d1, by rw [hK]; exact .lst (.of hH) f1, shaped_of d2 d3, shaped_list f2 f3, q _ w⟩
    · obtain ⟨d, ds, e1, e3, w⟩ := w
      obtain ⟨d1, d2, d3⟩ := toD_dp r _ ax e1
      obtain ⟨b, ws, rfl, hs, t⟩ := ay.tup_inv
      obtain ⟨f1, f2, f3⟩ := toD_dps r _ t e3
      exact op_inT hu pins s σ H x _ v u Q I rx ry ⟨d, ds, by rw [hK]; exact d1, by rw [hK]; exact .tup hs f1, shaped_of d2 d3, shaped_tup f2 f3, q _ w⟩
    · exact w.elim
  | nmem =>
    simp only [cmp2] at w
    split at w
    · rename_i a
      obtain rfl := ay.ref_inv
      split at w
      · rename_i lk kvs e
        obtain ⟨kws, hd, t⟩ := RKs.rd r e
        obtain ⟨ks, b, rfl, hb, rfl⟩ := ax.key w.1
        refine op_ninDic (by omega) pins s σ H _ _ v u Q I rx ry ⟨a, _, rfl, DGet.rd hd hb, q _ ?_⟩
        rw [t.isSome]; exact w.2
      · obtain ⟨d, vs, ds, e1, e2, e3, w⟩ := w
        obtain ⟨d1, d2, d3⟩ := toD_dp r _ ax e1
        obtain ⟨ws, hH, t⟩ := r.at e2
        obtain ⟨f1, f2, f3⟩ := toD_dps r _ t e3
        exact op_notInD hu pins s σ H x _ v u Q I rx ry ⟨d, ds, by rw [hK]; exact d1, by rw [hK]; exact .lst (.of hH) f1, shaped_of d2 d3, shaped_list f2 f3, q _ w⟩
    · obtain ⟨d, ds, e1, e3, w⟩ := w
      obtain ⟨d1, d2, d3⟩ := toD_dp r _ ax e1
      obtain ⟨b, ws, rfl, hs, t⟩ := ay.tup_inv
      obtain ⟨f1, f2, f3⟩ := toD_dps r _ t e3
      exact op_ninT hu pins s σ H x _ v u Q I rx ry ⟨d, ds, by rw [hK]; exact d1, by rw [hK]; exact .tup hs f1, shaped_of d2 d3, shaped_tup f2 f3, q _ w⟩
    · exact w.elim
end
end CS

/-! Cs5 -/
/-! Cs5: subscripts, slices, built-ins, methods by values. -/
namespace CS
open PySem PySem.Spec PyProof.Rows L2
theorem ixAt_eq (n : Nat) (i : Int) : ixAt n i = ixN n i := rfl
theorem six_eq (n d : Nat) (o : Option Int) : six n d o = HT.sIx n d o := by
  cases o with
  | none => rfl
  | some i =>
    unfold six HT.sIx
    by_cases h : i < 0
    · simp only [h, if_true]
    · simp only [h, if_false]
section
variable {L : Lk} {H : L2.Hp}
theorem RVs.item {ws : List V} {vs : List Val} (t : RVs L H ws vs) {i : Int} {v : Val} (e : itemAt vs i = some v) : ∃ w, atI ws i = some w ∧ RV L H w v := by
  unfold itemAt at e
  unfold atI
  rw [t.length, ← ixAt_eq]
  cases q : ixAt vs.length i with
  | none => rw [q] at e; cases e
  | some j => rw [q] at e; exact t.get e
theorem RVs.cut {ws : List V} {vs : List Val} (t : RVs L H ws vs) (lo hi : Option Int) : RVs L H (cutV ws lo hi) (cut vs lo hi) := by
  unfold cutV CS.cut
  rw [t.length, six_eq, six_eq]
  exact (t.drop _).take _
end
def rIx (L : Lk) : R2 := fun x y H Q => ∃ h vx vy Q0, Rel L h H ∧ RV L H x vx ∧ RV L H y vy ∧ ixS h vx vy Q0 ∧ QW L Q h H Q0
section
variable {X : Cx} {L : Lk}
theorem ix_dic (hu : X.A.units + 1 < cLine) : IxR X (fun x y H Q => ∃ a v, x = .ref a ∧ DGet H a y (some v) ∧ Q v H) := by
  intro value slice pins s σ H x y v u Q I rx ry ⟨a, w, ex, g, q⟩ hs
  subst ex
  cases rx
  exact tail_any (ops := [.ref a, u]) (dict_typeIs I g) PySem.F.slot_dict_getitem.lookup (d_getItem hu I g ry fun w' s' J rw' => ⟨w, H, J, rw', q⟩) hs
theorem ix_ok (hK : X.K = L.K) (hu : X.A.units + 65 < cLine) : IxR X (rIx L) := by
  intro value slice pins s σ H x y v u Q I rx ry ⟨h, vx, vy, Q0, r, ax, ay, w, q⟩ hs
  unfold ixS at w
  split at w
  · obtain ⟨i, z, rfl, e, w⟩ := w
    obtain ⟨a, ws, rfl, h1, t⟩ := ax.tup_inv
    obtain rfl := ay.int_inv
    obtain ⟨g, e2, rg⟩ := t.item e
    exact ix_tup value slice pins s σ H _ _ v u Q I rx ry ⟨a, ws, i, g, rfl, rfl, by rw [hK]; exact h1, e2, q.here r w rg⟩ hs
  · rename_i a
    obtain rfl := ax.ref_inv
    split at w
    · rename_i lk kvs e
      obtain ⟨hk, z, e2, w⟩ := w
      obtain ⟨kws, hd, t⟩ := RKs.rd r e
      obtain ⟨ks, b, rfl, hb, rfl⟩ := ay.key hk
      rcases t.get (k := ks) with ⟨_, e3⟩ | ⟨g, z', e3, e4, rg⟩
      · rw [e3] at e2; cases e2
      · rw [e4] at e2; cases e2
        exact ix_dic (by omega) value slice pins s σ H _ _ v u Q I rx ry ⟨a, g, rfl, by rw [← e3]; exact DGet.rd hd hb, q.here r w rg⟩ hs
    · obtain ⟨i, vs, z, rfl, e1, e2, w⟩ := w
      obtain ⟨ws, hH, t⟩ := r.at e1
      obtain rfl := ay.int_inv
      obtain ⟨g, e3, rg⟩ := t.item e2
      exact ix_list value slice pins s σ H _ _ v u Q I rx ry ⟨a, ws, i, g, rfl, rfl, .of hH, e3, q.here r w rg⟩ hs
  · exact w.elim
/-- o[i] = v -/
def rSet (L : Lk) : V → V → V → L2.Hp → (L2.Hp → Prop) → Prop := fun o i v H Q => ∃ h vo vi vv K, Rel L h H ∧ RV L H o vo ∧ RV L H i vi ∧ RV L H v vv ∧ setIx h vo vi vv K ∧ ∀ h' H', K h' → Stp L h H h' H' → Q H'
theorem set_ok (hu : X.A.units + 65 < cLine) : PSet X (rSet L) := by
  intro pins s σ H o i v ov iv u Q I ro ri rv ⟨h, vo, vi, vv, K, r, ao, ai, av, w, q⟩
  unfold setIx at w
  split at w
  · rename_i a
    obtain rfl := ao.ref_inv
    split at w
    · rename_i lk kvs e
      obtain ⟨rfl, hk, hl, w⟩ := w
      obtain ⟨kws, hd, t⟩ := (show ∃ kws, H a = some (.dT kws) ∧ RKs L H kws kvs from r a _ e)
      obtain ⟨ks, b, rfl, hb, rfl⟩ := ai.key hk
      cases ro
      refine d_setItem (by omega) I (DPut.t hd hb (by rw [t.length, ← cap_line]; exact hl)) ri rv fun s' J => ⟨_, J, q _ _ w (.put r e hd True.intro ⟨_, upd_same, ?_⟩)⟩
      exact (RKs.put av t).ext (.upd_mut hd True.intro)
    · rename_i vs e
      obtain ⟨k, j, rfl, e2, w⟩ := w
      obtain ⟨ws, hH, t⟩ := r.list e
      obtain rfl := ai.int_inv
      refine set_list pins s σ H _ _ v ov iv u Q I ro ri rv ⟨a, ws, k, j, rfl, rfl, hH, by rw [t.length]; exact e2, q _ _ w (.put r e hH True.intro ⟨_, upd_same, ?_⟩)⟩
      exact (RVs.set av j t).ext (.upd_mut hH True.intro)
    · exact w.elim
  · exact w.elim
/-- slices -/
def rSl (L : Lk) : V → Option Int → Option Int → L2.Hp → VK → Prop := fun x lo hi H Q => ∃ h vx Q0, Rel L h H ∧ RV L H x vx ∧ QW L Q h H Q0 ∧ match vx with
  | .tup vs => Q0 (.tup (cut vs lo hi)) h
  | .ref a => ∃ vs, listAt h a = some vs ∧ new h (.list (cut vs lo hi)) Q0
  | _ => False
theorem sl_ok (hK : X.K = L.K) : SlR X (rSl L) := by
  intro pins s σ H x v vl vu lo hi sl Q I rx hs pl pu ⟨h, vx, Q0, r, ax, q, w⟩
  cases vx with
  | tup vs =>
    obtain ⟨a, ws, rfl, h1, t⟩ := ax.tup_inv
    refine sl_tupA pins s σ H _ v vl vu lo hi sl Q I rx hs pl pu ⟨a, ws, rfl, by rw [hK]; exact h1, fun ⟨e1, e2⟩ => ?_, fun _ p hp => q.tup r hp w (t.cut lo hi)⟩
    refine q.here r w ?_
    have : cut vs lo hi = vs := by
      unfold cut
      rw [six_eq, six_eq, ← t.length, e1, e2]
      rw [List.drop_zero, t.length]
      exact List.take_of_length_le (by omega)
    rw [this]; exact ax
  | ref a =>
    obtain ⟨vs, e, w⟩ := w
    obtain ⟨ws, hH, t⟩ := r.at e
    obtain rfl := ax.ref_inv
    exact sl_list pins s σ H _ v vl vu lo hi sl Q I rx hs pl pu ⟨a, ws, rfl, .of hH, fun p hp => q.lst r hp w (t.cut lo hi)⟩
  | _ => exact w.elim
end
end CS

/-! Cs6 -/
/-! Cs6: built-ins, methods, truth, isinstance by values. -/
namespace CS
open PySem PySem.Spec PyProof.Rows L2
section
variable {L : Lk} {H : L2.Hp}
theorem RVs.one {xs : List V} {v : Val} (r : RVs L H xs [v]) : ∃ x, xs = [x] ∧ RV L H x v := by
  cases r with | cons a b => cases b; exact ⟨_, rfl, a⟩
theorem RVs.two {xs : List V} {v w : Val} (r : RVs L H xs [v, w]) : ∃ x y, xs = [x, y] ∧ RV L H x v ∧ RV L H y w := by
  cases r with | cons a b => obtain ⟨y, rfl, q⟩ := b.one; exact ⟨_, y, rfl, a, q⟩
theorem RVs.nil_inv {xs : List V} (r : RVs L H xs []) : xs = [] := by cases r; rfl
/-- the keys of a dict, each at the place of its tuple -/
theorem RKs.keysAt : ∀ {kws : List (List Key × V)} {kvs : List (Val × Val)} {bs : List Addr}, RKs L H kws kvs → IsKeys H kws bs → RVs L H (bs.map V.ref) (kvs.map (·.1))
  | _, _, _, .nil, .nil => .nil
  | p :: ps, q :: qs, b :: bs, .cons r t, .cons e k => by
    refine .cons ?_ (RKs.keysAt t k)
    show RV L H (.ref b) q.1
    rw [r.1, ofK_eq]
    refine .tup e ?_
    have : ∀ ks : List Key, RVs L H (ks.map kV) (ks.map k1) := by
      intro ks
      induction ks with
      | nil => exact .nil
      | cons k ks ih => cases k with
        | inl i => exact .cons (.int i) ih
        | inr s => exact .cons (.str s) ih
    exact this _
end
theorem sortI_perm (ns : List Int) : (sortI ns).Perm ns := List.mergeSort_perm ns _
theorem sortI_pw (ns : List Int) : (sortI ns).Pairwise (· ≤ ·) := by
  have h := List.pairwise_mergeSort (le := fun a b : Int => decide (a ≤ b)) (by intro a b c h1 h2; simp only [decide_eq_true_eq] at *; omega) (by intro a b; simp only [Bool.or_eq_true, decide_eq_true_eq]; omega) ns
  exact h.imp (by intro a b h; exact of_decide_eq_true h)
theorem foldl_min_le : ∀ (xs : List Int) (x : Int), xs.foldl min x ≤ x ∧ ∀ y ∈ xs, xs.foldl min x ≤ y
  | [], x => ⟨Int.le_refl x, by simp⟩
  | y :: ys, x => by
    obtain ⟨h1, h2⟩ := foldl_min_le ys (min x y)
    rw [List.foldl_cons]
    refine ⟨by omega, fun z hz => ?_⟩
    rcases List.mem_cons.mp hz with rfl | hz
    · omega
    · exact h2 z hz
theorem foldl_min_mem : ∀ (xs : List Int) (x : Int), xs.foldl min x = x ∨ xs.foldl min x ∈ xs
  | [], x => .inl rfl
  | y :: ys, x => by
    rw [List.foldl_cons]
    rcases foldl_min_mem ys (min x y) with h | h
    · rw [h]
      by_cases c : x ≤ y
      · exact .inl (by omega)
      · exact .inr (by rw [show min x y = y by omega]; exact List.mem_cons_self ..)
    · exact .inr (List.mem_cons_of_mem _ h)
theorem foldl_max_ge : ∀ (xs : List Int) (x : Int), x ≤ xs.foldl max x ∧ ∀ y ∈ xs, y ≤ xs.foldl max x
  | [], x => ⟨Int.le_refl x, by simp⟩
  | y :: ys, x => by
    obtain ⟨h1, h2⟩ := foldl_max_ge ys (max x y)
    rw [List.foldl_cons]
    refine ⟨by omega, fun z hz => ?_⟩
    rcases List.mem_cons.mp hz with rfl | hz
    · omega
    · exact h2 z hz
theorem foldl_max_mem : ∀ (xs : List Int) (x : Int), xs.foldl max x = x ∨ xs.foldl max x ∈ xs
  | [], x => .inl rfl
  | y :: ys, x => by
    rw [List.foldl_cons]
    rcases foldl_max_mem ys (max x y) with h | h
    · rw [h]
      by_cases c : y ≤ x
      · exact .inl (by omega)
      · exact .inr (by rw [show max x y = y by omega]; exact List.mem_cons_self ..)
    · exact .inr (List.mem_cons_of_mem _ h)
theorem minI_spec {ns : List Int} {m : Int} (h : minI ns = some m) : m ∈ ns ∧ ∀ y ∈ ns, m ≤ y := by
  cases ns with
  | nil => cases h
  | cons x xs =>
    cases h
    obtain ⟨h1, h2⟩ := foldl_min_le xs x
    refine ⟨?_, fun y hy => ?_⟩
    · rcases foldl_min_mem xs x with h | h
      · rw [h]; exact List.mem_cons_self ..
      · exact List.mem_cons_of_mem _ h
    · rcases List.mem_cons.mp hy with rfl | hy
      · exact h1
      · exact h2 y hy
theorem maxI_spec {ns : List Int} {m : Int} (h : maxI ns = some m) : m ∈ ns ∧ ∀ y ∈ ns, y ≤ m := by
  cases ns with
  | nil => cases h
  | cons x xs =>
    cases h
    obtain ⟨h1, h2⟩ := foldl_max_ge xs x
    refine ⟨?_, fun y hy => ?_⟩
    · rcases foldl_max_mem xs x with h | h
      · rw [h]; exact List.mem_cons_self ..
      · exact List.mem_cons_of_mem _ h
    · rcases List.mem_cons.mp hy with rfl | hy
      · exact h1
      · exact h2 y hy

def rBi (L : Lk) (f : BI) : List V → L2.Hp → VK → Prop := fun xs H Q => ∃ h vs Q0, Rel L h H ∧ RVs L H xs vs ∧ biS f vs h Q0 ∧ QW L Q h H Q0
def biVal : BI → Value
  | .len => .builtin "len" | .sorted => .builtin "sorted" | .sum => .builtin "sum" | .all => .builtin "all" | .min => .builtin "min" | .max => .builtin "max"
  | .list => .type "list" | .tuple => .type "tuple" | .int => .type "int" | .dict => .type "dict"
section
variable {X : Cx} {L : Lk}
theorem bi_ok (hK : X.K = L.K) (hc : X.calm = true) (f : BI) : CallR X (biVal f) (rBi L f) := by
  intro pins s σ H xs us Q I rx ⟨h, vs, Q0, r, ax, w, q⟩
  unfold biS at w
  split at w
  · obtain ⟨x, rfl, a⟩ := ax.one
    obtain ⟨b, ws, rfl, h1, t⟩ := a.tup_inv
    exact call_len_seq pins s σ H _ us Q I rx ⟨b, ws, rfl, .inr (by rw [hK]; exact h1), by rw [t.length]; exact q.here r w (.int _)⟩
  · obtain ⟨x, rfl, a⟩ := ax.one
    obtain ⟨b, ws, rfl, h1, t⟩ := a.rol_inv
    exact call_len_seq pins s σ H _ us Q I rx ⟨b, ws, rfl, .inl (by rw [hK]; exact h1.sq), by rw [t.length]; exact q.here r w (.int _)⟩
  · obtain ⟨x, rfl, a⟩ := ax.one
    rename_i p
    obtain rfl := a.ref_inv
    split at w
    · rename_i lk kvs e
      obtain ⟨rfl, w⟩ := w
      obtain ⟨kws, hd, t⟩ := (show ∃ kws, H p = some (.dT kws) ∧ RKs L H kws kvs from r p _ e)
      exact call_len_dT pins s σ H _ us Q I rx ⟨p, kws, rfl, hd, by rw [t.length]; exact q.here r w (.int _)⟩
    · obtain ⟨vs, e, w⟩ := w
      obtain ⟨ws, hH, t⟩ := r.at e
      exact call_len_seq pins s σ H _ us Q I rx ⟨p, ws, rfl, .inl (.of hH), by rw [t.length]; exact q.here r w (.int _)⟩
  · obtain ⟨x, rfl, a⟩ := ax.one
    obtain ⟨b, ws, rfl, h1, t⟩ := a.tup_inv
    exact call_list_of pins s σ H _ us Q I rx ⟨b, ws, rfl, .inr (by rw [hK]; exact h1), fun p hp => q.lst r hp w t⟩
  · obtain ⟨x, rfl, a⟩ := ax.one
    obtain ⟨b, ws, rfl, h1, t⟩ := a.rol_inv
    exact call_list_of pins s σ H _ us Q I rx ⟨b, ws, rfl, .inl (by rw [hK]; exact h1.sq), fun p hp => q.lst r hp w t⟩
  · obtain ⟨x, rfl, a⟩ := ax.one
    rename_i p
    obtain rfl := a.ref_inv
    split at w
    · rename_i lk kvs e
      obtain ⟨kws, hd, t⟩ := RKs.rd r e
      exact call_list_dT hc pins s σ H _ us Q I rx ⟨p, kws, rfl, hd, fun p' bs hp' hk => q.lst r hp' w (RKs.keysAt t hk)⟩
    · obtain ⟨vs, e, w⟩ := w
      obtain ⟨ws, hH, t⟩ := r.at e
      exact call_list_of pins s σ H _ us Q I rx ⟨p, ws, rfl, .inl (.of hH), fun p' hp' => q.lst r hp' w t⟩
  · obtain ⟨x, rfl, a⟩ := ax.one
    obtain ⟨vs, e, w⟩ := w
    rename_i v
    cases v with
    | tup vs' =>
      cases e
      obtain ⟨b, ws, rfl, h1, t⟩ := a.tup_inv
      exact call_tuple_of pins s σ H _ us Q I rx ⟨b, ws, rfl, .inr ⟨by rw [hK]; exact h1, q.here r w a⟩⟩
    | rol vs' =>
      cases e
      obtain ⟨b, ws, rfl, h1, t⟩ := a.rol_inv
      exact call_tuple_of pins s σ H _ us Q I rx ⟨b, ws, rfl, .inl ⟨by rw [hK]; exact h1.sq, fun p hp => q.tup r hp w t⟩⟩
    | ref p =>
      obtain rfl := a.ref_inv
      obtain ⟨ws, hH, t⟩ := r.at (show listAt h p = some vs from e)
      exact call_tuple_of pins s σ H _ us Q I rx ⟨p, ws, rfl, .inl ⟨.of hH, fun p hp => q.tup r hp w t⟩⟩
    | _ => cases e
  · obtain ⟨x, rfl, a⟩ := ax.one
    obtain ⟨vs, ns, e, e2, w⟩ := w
    obtain rfl := a.ref_inv
    obtain ⟨ws, hH, t⟩ := r.at e
    obtain ⟨rfl, rfl⟩ := t.ints e2
    refine cr_sortedI pins s σ H _ us Q I rx ⟨_, ns, rfl, .of hH, fun ns' p hpm hpw hp => ?_⟩
    have : ns' = sortI ns := PySem.W.ksm_same (hpm.trans (sortI_perm ns).symm) hpw (sortI_pw ns)
    rw [this]
    exact q.lst r hp w (RVs.of_ints _)
  · obtain ⟨x, rfl, a⟩ := ax.one
    obtain ⟨vs, ns, e, e2, w⟩ := w
    obtain rfl := a.ref_inv
    obtain ⟨ws, hH, t⟩ := r.at e
    obtain ⟨rfl, rfl⟩ := t.ints e2
    exact cr_sum hc pins s σ H _ us Q I rx ⟨_, ns, rfl, .of hH, q.here r w (.int _)⟩
  · obtain ⟨x, rfl, a⟩ := ax.one
    obtain ⟨vs, ns, e, e2, w⟩ := w
    obtain rfl := a.ref_inv
    obtain ⟨ws, hH, t⟩ := r.at e
    obtain ⟨rfl, rfl⟩ := t.bls e2
    exact cr_all hc pins s σ H _ us Q I rx ⟨_, ns, rfl, .of hH, q.here r w (.bl _)⟩
  · obtain ⟨x, y, rfl, a, b⟩ := ax.two
    rename_i i j
    obtain rfl := a.int_inv; obtain rfl := b.int_inv
    exact call_min2 hc pins s σ H _ us Q I rx ⟨i, j, rfl, q.here r (by rw [show (if j < i then j else i) = min i j by split <;> omega]; exact w) (.int _)⟩
  · obtain ⟨x, y, rfl, a, b⟩ := ax.two
    rename_i i j
    obtain rfl := a.int_inv; obtain rfl := b.int_inv
    exact call_max2 hc pins s σ H _ us Q I rx ⟨i, j, rfl, q.here r (by rw [show (if j > i then j else i) = max i j by split <;> omega]; exact w) (.int _)⟩
  · obtain ⟨x, rfl, a⟩ := ax.one
    obtain ⟨vs, ns, m, e, e2, e3, w⟩ := w
    obtain rfl := a.ref_inv
    obtain ⟨ws, hH, t⟩ := r.at e
    obtain ⟨rfl, rfl⟩ := t.ints e2
    obtain ⟨m1, m2⟩ := minI_spec e3
    refine cr_min hc pins s σ H _ us Q I rx ⟨_, ns, rfl, .of hH, List.length_pos_of_mem m1, fun m' k1 k2 => ?_⟩
    have : m' = m := Int.le_antisymm (k2 m m1) (m2 m' k1)
    rw [this]; exact q.here r w (.int _)
  · obtain ⟨x, rfl, a⟩ := ax.one
    obtain ⟨vs, ns, m, e, e2, e3, w⟩ := w
    obtain rfl := a.ref_inv
    obtain ⟨ws, hH, t⟩ := r.at e
    obtain ⟨rfl, rfl⟩ := t.ints e2
    obtain ⟨m1, m2⟩ := maxI_spec e3
    refine cr_max hc pins s σ H _ us Q I rx ⟨_, ns, rfl, .of hH, List.length_pos_of_mem m1, fun m' k1 k2 => ?_⟩
    have : m' = m := Int.le_antisymm (m2 m' k1) (k2 m m1)
    rw [this]; exact q.here r w (.int _)
  · obtain ⟨x, rfl, a⟩ := ax.one
    obtain rfl := a.int_inv
    exact call_int1 pins s σ H _ us Q I rx (.inl ⟨_, rfl, q.here r w (.int _)⟩)
  · obtain ⟨x, rfl, a⟩ := ax.one
    obtain rfl := a.bl_inv
    exact call_int1 pins s σ H _ us Q I rx (.inr ⟨_, rfl, q.here r w (.int _)⟩)
  · exact w.elim

/-! ### methods -/
def rBm (L : Lk) (m : BM) : V → List V → L2.Hp → VK → Prop := fun x xs H Q => ∃ h vx vs Q0, Rel L h H ∧ RV L H x vx ∧ RVs L H xs vs ∧ bmS m vx vs h Q0 ∧ QW L Q h H Q0
theorem lst_bound {H : L2.Hp} {pins : List (Addr × PySem.Obj)} {σ : L2.St} {s : Shared} (I : Inv X pins σ H s) {a : Addr} {ws : List V} (e : H a = some (.lst ws)) : ws.length ≤ sizeLine := by
  obtain ⟨z, _⟩ := (show ObjOk X.prog X.w H s.heap a (.lst ws) from I.hok a _ e)
  exact z
theorem mt_app (L : Lk) : MtR X "list.append" (rBm L .append) := by
  intro pins s σ H x xs v us Q I rx rxs ⟨h, vx, vs, Q0, r, ax, b, w, q⟩
  obtain ⟨a, vs, v, rfl, rfl, e, hl, w⟩ := w
  obtain rfl := ax.ref_inv
  obtain ⟨y, rfl, ry⟩ := b.one
  obtain ⟨ws, hH, t⟩ := r.list e
  exact mt_append pins s σ H _ _ _ us Q I rx rxs ⟨a, ws, y, rfl, rfl, hH, by rw [t.length, ← cap_line]; exact hl, q.put r e hH True.intro w .non ⟨_, upd_same, (t.append (.cons ry .nil)).ext (.upd_mut hH True.intro)⟩⟩
theorem mt_ext (L : Lk) : MtR X "list.extend" (rBm L .extend) := by
  intro pins s σ H x xs v us Q I rx rxs ⟨h, vx, vs, Q0, r, ax, b, w, q⟩
  obtain ⟨a, vs, c, zs, rfl, rfl, e, e2, hl, w⟩ := w
  obtain rfl := ax.ref_inv
  obtain ⟨y, rfl, ry⟩ := b.one
  obtain rfl := ry.ref_inv
  obtain ⟨ws, hH, t⟩ := r.list e
  obtain ⟨ws2, hH2, t2⟩ := r.list e2
  exact mt_extend pins s σ H _ _ _ us Q I rx rxs ⟨a, c, ws, ws2, rfl, rfl, hH, hH2, by rw [t.length, t2.length, ← cap_line]; exact hl, q.put r e hH True.intro w .non ⟨_, upd_same, (t.append t2).ext (.upd_mut hH True.intro)⟩⟩
theorem mt_popL (L : Lk) : MtR X "list.pop" (rBm L .pop) := by
  intro pins s σ H x xs v us Q I rx rxs ⟨h, vx, vs, Q0, r, ax, b, w, q⟩
  obtain ⟨a, vs, rfl, e, w⟩ := w
  obtain rfl := ax.ref_inv
  obtain ⟨ws, hH, t⟩ := r.list e
  rcases w with ⟨rfl, z, e2, w⟩ | ⟨i, j, z, rfl, e2, e3, w⟩
  · obtain rfl := b.nil_inv
    obtain ⟨g, e4, rg⟩ := t.get e2
    exact mt_pop pins s σ H _ _ _ us Q I rx rxs ⟨a, ws, g, rfl, rfl, hH, by rw [t.length]; exact e4, q.put r e hH True.intro w rg ⟨_, upd_same, t.dropLast.ext (.upd_mut hH True.intro)⟩⟩
  · obtain ⟨y, rfl, ry⟩ := b.one
    obtain rfl := ry.int_inv
    obtain ⟨g, e4, rg⟩ := t.get e3
    rw [ixAt_eq, ← t.length] at e2
    obtain ⟨s1, s2, s3, s4⟩ := ixN_seq e2
    have hb := lst_bound I hH
    rw [sizeLine_eq] at hb
    exact mt_popAt pins s σ H _ _ _ us Q I rx rxs ⟨a, ws, i, j, g, rfl, rfl, hH, by omega, by omega, s1, e4, q.put r e hH True.intro w rg ⟨_, upd_same, (t.eraseIdx j).ext (.upd_mut hH True.intro)⟩⟩
theorem mt_clr (L : Lk) : MtR X "list.clear" (rBm L .clear) := by
  intro pins s σ H x xs v us Q I rx rxs ⟨h, vx, vs, Q0, r, ax, b, w, q⟩
  obtain ⟨a, vs, rfl, rfl, e, w⟩ := w
  obtain rfl := ax.ref_inv
  obtain rfl := b.nil_inv
  obtain ⟨ws, hH, t⟩ := r.list e
  exact mt_clear pins s σ H _ _ _ us Q I rx rxs ⟨a, ws, rfl, rfl, hH, q.put r e hH True.intro w .non ⟨_, upd_same, .nil⟩⟩
theorem mt_cnt (hK : X.K = L.K) : MtR X "list.count" (rBm L .count) := by
  intro pins s σ H x xs v us Q I rx rxs ⟨h, vx, vs, Q0, r, ax, b, w, q⟩
  obtain ⟨a, vs, ns, k, rfl, rfl, e, e2, w⟩ := w
  obtain rfl := ax.ref_inv
  obtain ⟨y, rfl, ry⟩ := b.one
  obtain rfl := ry.int_inv
  obtain ⟨ws, hH, t⟩ := r.list e
  obtain ⟨rfl, rfl⟩ := t.ints e2
  exact mt_lcount pins s σ H _ _ _ us Q I rx rxs ⟨a, ns, k, rfl, rfl, .of hH, q.here r w (.int _)⟩

/-! ### truth -/
theorem truth_ok (hK : X.K = L.K) {h : HS} {H : L2.Hp} {x : V} {v : Val} {c : Bool} (r : Rel L h H) (a : RV L H x v) (e : truth h v = some c) : TruV X.K x H c := by
  cases v with
  | non => cases e; obtain rfl := a.non_inv; exact rfl
  | bl b => cases e; obtain rfl := a.bl_inv; exact rfl
  | int i => cases e; obtain rfl := a.int_inv; exact rfl
  | tup vs =>
    cases e
    obtain ⟨b, ws, rfl, h1, t⟩ := a.tup_inv
    exact .inr (.inl ⟨ws, by rw [hK]; exact h1, by cases t <;> rfl⟩)
  | rol vs =>
    cases e
    obtain ⟨b, ws, rfl, h1, t⟩ := a.rol_inv
    exact .inl ⟨ws, by rw [hK]; exact h1.sq, by cases t <;> rfl⟩
  | ref p =>
    obtain rfl := a.ref_inv
    simp only [truth] at e
    split at e
    · rename_i vs e1
      cases e
      obtain ⟨ws, hH, t⟩ := r.list e1
      exact .inl ⟨ws, .of hH, by cases t <;> rfl⟩
    · cases e
  | _ => cases e
/-- what a class of the program must have to be asked for -/
structure IsC (K : PySem.W.Frag) (C : Addr) : Prop where
  cl : Cls K C
  ha : PySem.W.findIn K (.ref C) "__class__" = some (some (.builtin "object.__class__"))
  hn : PySem.W.specialIn K (.builtin "object.__class__") "__get__" = some (some (.builtin "getset_descriptor.__get__"))
  htk : PySem.W.takesIn K (.builtin "object.__class__") = some true
  hm : PySem.W.mroIn K C (.type "object") = some true
def bTys : List BT := [.none, .bool, .int, .str, .tuple, .list, .dict]
theorem BT.mem (a : BT) : a ∈ bTys := by cases a <;> decide
theorem kitB_all : ∀ a ∈ bTys, ∀ b ∈ bTys, kitB a.name b.name = some (a.sub b) := by decide +kernel
end
end CS

/-! Cs7 -/
/-! Cs7: what the program's own terms must look like. -/
namespace CS
open PySem PySem.Spec PyProof.Rows L2
def plainA : Expr → Bool
  | .Starred _ _ => false
  | _ => true
theorem star_cons {e : Expr} {es : List Expr} {env : PySem.Env} (h : plainA e = true) : starEach (e :: es) env = (false, eval e env) :: starEach es env := by
  cases e <;> first | rfl | exact absurd h (by simp [plainA])
theorem star_back {pos : Pos} {env : PySem.Env} : ∀ {es : List Expr}, es.all plainA = true → (backTo pos (starEach es env)).any (·.1) = false
  | [], _ => rfl
  | e :: es, h => by
    rw [List.all_cons, Bool.and_eq_true] at h
    rw [star_cons h.1]
    show (false || (backTo pos (starEach es env)).any (·.1)) = false
    rw [star_back h.2]; rfl
/-- an expression that is tested by its value -/
def truA : Expr → Bool
  | .Name _ _ => true
  | .Call _ _ _ _ => true
  | .Attribute _ _ _ => true
  | .Subscript _ _ _ => true
  | .Constant _ _ _ => true
  | _ => false
theorem tru_is {a : Expr} {env : PySem.Env} (h : truA a = true) (whole : Sem Value) : isTrue a env whole = (do let v ← whole; standAt a.pos; holding [v] (truthy v)) := by
  cases a <;> first | rfl | exact absurd h (by simp [truA])
/-- an expression whose field is asked -/
def baseA : Expr → Bool
  | .Call _ (_ :: _) _ _ => true
  | .Call (.Attribute _ _ _) _ _ _ => true
  | .Call _ _ _ _ => false
  | _ => true
theorem base_is {o : Expr} {m : Str} {env : PySem.Env} {x : Sem Value} (h : baseA o = true) : attributeBase o m env x = x := by
  unfold attributeBase
  split
  · simp [baseA] at h
  · rfl
def noSl : Expr → Bool
  | .Slice _ _ _ _ => false
  | _ => true
theorem noSl_ix {i : Expr} (h : noSl i = true) : PlainIx i := by
  intro o v
  cases i <;> first | rfl | exact absurd h (by simp [noSl])
theorem noSl_aug {i : Expr} (h : noSl i = true) (ov iv new : Value) : augStore i ov iv new = (do holding [new, ov, iv] (setItem ov iv new); release [new, ov, iv] []; pure .next) := by
  cases i <;> first | rfl | exact absurd h (by simp [noSl])
def noComp : Expr → Bool
  | .ListComp _ _ _ _ => false
  | .SetComp _ _ _ _ => false
  | .DictComp _ _ _ _ _ => false
  | _ => true
theorem noComp_sw {e : Expr} {t : Option Expr} {l : Nat} {env : PySem.Env} (h : noComp e = true) : swapsWith e t l env = pure false := by
  cases e <;> first | rfl | exact absurd h (by simp [noComp])
theorem noComp_sole {e t : Expr} {l : Nat} {env : PySem.Env} (h : noComp e = true) : swapsWithSole [t] e l env = pure false := noComp_sw h
def noSet : Expr → Bool
  | .Set _ _ _ => false
  | _ => true
theorem noSet_it {e : Expr} {env : PySem.Env} (h : noSet e = true) (x : Value) : foldedSetIterable e env x = pure x := by
  cases e <;> first | rfl | exact absurd h (by simp [noSet])
theorem noSet_in {op : CmpOp} {b : Expr} (h : noSet b = true) : behindInMarks op b = false := by
  cases b <;> first | rfl | exact absurd h (by simp [noSet])
/-- a store whose value is no display of the same form -/
def noSwap : Expr → Expr → Bool
  | .Tuple _ _ _, .Tuple _ _ _ => false
  | .List _ _, .Tuple _ _ _ => false
  | _, _ => true
theorem noSwap_is {t e : Expr} {env : PySem.Env} (h : noSwap t e = true) : swappedStores [t] e env = pure none := by
  unfold swappedStores
  cases t <;> cases e <;> first | rfl | exact absurd h (by simp [noSwap])
theorem tgt_cons {e : Expr} {es : List Expr} {env : PySem.Env} (h : plainA e = true) : assignEach (e :: es) env = (false, assign e env) :: assignEach es env := by
  cases e <;> first | rfl | exact absurd h (by simp [plainA])
theorem tgt_len {env : PySem.Env} : ∀ {es : List Expr}, es.all plainA = true → (assignEach es env).length = es.length ∧ (assignEach es env).findIdx? (·.1) = none
  | [], _ => ⟨rfl, rfl⟩
  | e :: es, h => by
    rw [List.all_cons, Bool.and_eq_true] at h
    obtain ⟨a, b⟩ := tgt_len (env := env) h.2
    rw [tgt_cons h.1]
    refine ⟨by rw [List.length_cons, List.length_cons, a], ?_⟩
    rw [List.findIdx?_cons, b]; rfl
theorem sub_assign {o i : Expr} {pos : Pos} {env : PySem.Env} (h : noSl i = true) (v : Value) : assign (.Subscript o i pos) env v = (do
      let ov ← holding [v] (eval o env)
      let iv ← holding [v, ov] (eval i env)
      standAt pos
      holding [v, ov, iv] (setItem ov iv v)
      release [v, ov, iv] []) := by
  cases i <;> first | rfl | exact absurd h (by simp [noSl])
theorem star_all {pos : Pos} {env : PySem.Env} : ∀ {es : List Expr}, es.all plainA = true → (backTo pos (starEach es env)).all (fun x => !x.1) = true
  | [], _ => rfl
  | e :: es, h => by
    rw [List.all_cons, Bool.and_eq_true] at h
    rw [star_cons h.1]
    show (true && (backTo pos (starEach es env)).all (fun x => !x.1)) = true
    rw [star_all h.2]; rfl
theorem few_args {pos : Pos} {env : PySem.Env} {es : List Expr} (h : es.all plainA = true) (hl : es.length < 28) :
    ((backTo pos (starEach es env)).all (fun x => !x.1) && (backToKw pos (keywordEach [] env)).all (fun x => x.1.isSome) && decide (es.length + ([] : List Keyword).length + (if ([] : List Keyword).isEmpty then 0 else 1) < 30)) = true := by
  rw [star_all h, Bool.true_and]
  show (true && decide (es.length + 0 + 0 < 30)) = true
  rw [decide_eq_true (by omega)]; rfl
theorem meth_eval {o : Expr} {m : Str} {apos pos : Pos} {es : List Expr} {env : PySem.Env} (hb : baseA o = true) (hs : es.all plainA = true) (hn : es.length < 28) (hl : (apos.endLine == pos.line) = true) :
    eval (.Call (.Attribute o m apos) es [] pos) env = (do
      let ov ← eval o env
      standAt apos.atName
      let (f, first) ← holding [ov] (getMethod ov m (do return (← importBound o env).getD true))
      callWith pos f first (backTo pos (starEach es env)) (backToKw pos (keywordEach [] env))) := by
  have hform : methodCallForm (es.length + ([] : List Keyword).length) (backTo pos (starEach es env)) (backToKw pos (keywordEach [] env)) = true := few_args hs hn
  have hpos : methodCallPos true o env apos pos = pure pos := by unfold methodCallPos; simp [hl]
  rw [arm_eval_Call, base_is hb]
  unfold methodCall
  rw [hform, hpos]
  rfl
end CS

/-! Cs8 -/
/-! Cs8: the checker, what a context must have, expressions. -/
namespace CS
open PySem PySem.Spec PyProof.Rows L2
structure FI where
  ps : List Str
  lv : Nat
/-- a class: its methods, the ways to make it (__init__, the defaults that fill up) -/
structure ClI where
  ms : List (Str × FI)
  ini : List (FI × List Val)
structure Ctx where
  N : List Str
  sc : Scope
  k : Nat
  fns : List (Str × FI)
  cls : List (Str × ClI)
  flds : List Str
  gls : List (Str × Val)
  blt : List Str
  isc : List Str := []

def spOf (L : Lk) (sp : FS) : Sp := fun vs H Q E => ∃ args h Q0 X0, RVs L H vs args ∧ Rel L h H ∧ sp args h Q0 X0 ∧ QW L Q h H Q0 ∧ ∀ e h' c d H', X0 e h' → Stp L h H h' H' → RX L H' e c d → E c d H'
def FnT (P : Program) (w : World) (L : Lk) (base : Heap) (i : FI) (ds : List Val) (m : FS) (fa : Addr) : Prop :=
  ∃ fd dvs dus, FnOk P w L.K L.mg base (L2.CX P w) i.lv fa fd i.ps (spOf L m) ∧ Binds L.K fd i.ps dus ∧ Vals dvs dus ∧ ∀ H, RVs L H dvs ds
def GlV (L : Lk) (x : Str) : Val → Prop
  | .int i => ∃ t, L.mg x = some (.int i t)
  | .fn f => f = x ∧ ∃ a, L.mg x = some (.ref a)
  | .cl f => f = x ∧ ∃ a, L.mg x = some (.ref a)
  | _ => False
structure ClT (P : Program) (w : World) (L : Lk) (base : Heap) (G : Ctx) (T : Tab) (c : Str) (ms : ClI) (C : Addr) : Prop where
  mg : L.mg c = some (.ref C)
  is : Cls L.K C
  fl : ∀ f ∈ G.flds, NoAttr L.K C f
  me : ∀ m i, ms.ms.lookup m = some i → i.lv ≤ G.k ∧ ∃ fa, Meth L.K C m fa ∧ FnT P w L base i [] (T.me c m) fa
  nw : ∀ p ∈ ms.ini, p.1.lv + 1 ≤ G.k ∧ ∃ fa, Mk L.K C fa ∧ FnT P w L base p.1 p.2 (T.me c "__init__") fa
  b1 : T.cs.contains c = true → IsC L.K C ∧ ∀ a : BT, PySem.W.kitOne L.K (.ref C) (.type a.name) = some false
  b2 : G.isc.contains c = true → ∀ a : BT, PySem.W.kitOne L.K (.type a.name) (.ref C) = some false
structure TabOk (P : Program) (w : World) (L : Lk) (base : Heap) (G : Ctx) (T : Tab) : Prop where
  fn : ∀ f i, G.fns.lookup f = some i → i.lv ≤ G.k ∧ ∃ fa, L.mg f = some (.ref fa) ∧ PySem.W.keepIn L.K (.ref fa) = true ∧ FnT P w L base i [] (T.fn f) fa
  cl : ∀ c ms, G.cls.lookup c = some ms → ∃ C, ClT P w L base G T c ms C
  cc : ∀ c d ms ns C D, G.cls.lookup c = some ms → G.cls.lookup d = some ns → T.cs.contains c = true → G.isc.contains d = true → c ≠ d → L.mg c = some (.ref C) → L.mg d = some (.ref D) → PySem.W.kitOne L.K (.ref C) (.ref D) = some false
  gl : ∀ x v, G.gls.lookup x = some v → GlV L x v
  bl : ∀ x ∈ G.blt, L.mg x = none
  cs : ∀ c, T.cs.contains c = true → ∃ ms, G.cls.lookup c = some ms
/-- where a term of the text stands -/
structure Good (X : Cx) (L : Lk) (T : Tab) (G : Ctx) (W : WX) : Prop where
  kind : X.env.scope.kind = .function
  hL : L = ⟨X.K, X.mg⟩
  calm : X.calm = true
  nd : X.N.Nodup
  N : X.N = G.N
  scl : ∀ x k, G.sc.names.lookup x = some k → X.env.scope.names.lookup x = some k ∨ (k = .free ∧ X.env.scope.names.lookup x = some .cell)
  fnc : ∀ x, G.sc.names.lookup x = some .cell → X.fn x = true
  tk : Takes X W
  own : PassesOwn (model X.prog X.w) X.A X.env X.xe
  room : Room G.k X.A
  tab : TabOk X.prog X.w L X.base G T

mutual
theorem Val.beq_eq : ∀ {a b : Val}, Val.beq a b = true → a = b
  | .non, b, h => by cases b <;> first | rfl | exact absurd h Bool.false_ne_true
  | .bl x, b, h => by cases b <;> first | exact absurd h Bool.false_ne_true | (rename_i y; rw [eq_of_beq (show (x == y) = true from h)])
  | .int x, b, h => by cases b <;> first | exact absurd h Bool.false_ne_true | (rename_i y; rw [eq_of_beq (show (x == y) = true from h)])
  | .str x, b, h => by cases b <;> first | exact absurd h Bool.false_ne_true | (rename_i y; rw [of_decide_eq_true (show decide (x = y) = true from h)])
  | .tup x, b, h => by cases b <;> first | exact absurd h Bool.false_ne_true | (rename_i y; rw [Val.beqs_eq (show Val.beqs x y = true from h)])
  | .rol x, b, h => by cases b <;> first | exact absurd h Bool.false_ne_true | (rename_i y; rw [Val.beqs_eq (show Val.beqs x y = true from h)])
  | .ref x, b, h => by cases b <;> first | exact absurd h Bool.false_ne_true | (rename_i y; rw [eq_of_beq (show (x == y) = true from h)])
  | .fn x, b, h => by cases b <;> first | exact absurd h Bool.false_ne_true | (rename_i y; rw [of_decide_eq_true (show decide (x = y) = true from h)])
  | .ty x, b, h => by cases b <;> first | exact absurd h Bool.false_ne_true | (rename_i y; rw [eq_of_beq (show (x == y) = true from h)])
  | .cl x, b, h => by cases b <;> first | exact absurd h Bool.false_ne_true | (rename_i y; rw [of_decide_eq_true (show decide (x = y) = true from h)])
theorem Val.beqs_eq : ∀ {a b : List Val}, Val.beqs a b = true → a = b
  | [], [], _ => rfl
  | [], _ :: _, h => absurd h Bool.false_ne_true
  | _ :: _, [], h => absurd h Bool.false_ne_true
  | x :: a, y :: b, h => by
    have h := Bool.and_eq_true_iff.mp (show (Val.beq x y && Val.beqs a b) = true from h)
    rw [Val.beq_eq h.1, Val.beqs_eq h.2]
end
def visB (sc : Scope) (x : Str) : Bool := match sc.names.lookup x with
  | some .local => true | some .cell => true | some .free => true | _ => false
def locB (sc : Scope) (x : Str) : Bool := match sc.names.lookup x with
  | some .local => true | some .cell => true | _ => false
def glB (sc : Scope) (x : Str) : Bool := decide (sc.names.lookup x = some .globalImplicit)
def okN (x : Str) : Bool := !(x == ("__debug__" : Str)) && !(x == ("__classdict__" : Str)) && decide (x ≠ "__name__")
section
variable {X : Cx} {L : Lk} {T : Tab} {G : Ctx} {W : WX}
theorem Good.vis (g : Good X L T G W) {x : Str} (h : visB G.sc x = true) : Vis X.env.scope x := by
  unfold visB at h
  split at h <;> first | exact absurd h Bool.false_ne_true | skip
  · rename_i e; rcases g.scl _ _ e with q | ⟨q, _⟩
    · exact .inl q
    · cases q
  · rename_i e; rcases g.scl _ _ e with q | ⟨q, _⟩
    · exact .inr (.inl q)
    · cases q
  · rename_i e; rcases g.scl _ _ e with q | ⟨_, q⟩
    · exact .inr (.inr q)
    · exact .inr (.inl q)
theorem Good.loc (g : Good X L T G W) {x : Str} (h : locB G.sc x = true) : Loc X.env.scope x ∧ (X.fn x = true ∨ X.env.scope.names.lookup x = some .local) := by
  unfold locB at h
  split at h <;> first | exact absurd h Bool.false_ne_true | skip
  · rename_i e; rcases g.scl _ _ e with q | ⟨q, _⟩
    · exact ⟨.inl q, .inr q⟩
    · cases q
  · rename_i e; rcases g.scl _ _ e with q | ⟨q, _⟩
    · exact ⟨.inr q, .inl (g.fnc _ e)⟩
    · cases q
theorem Good.gl (g : Good X L T G W) {x : Str} (h : glB G.sc x = true) : Gl X x := by
  rcases g.scl _ _ (of_decide_eq_true h) with q | ⟨q, _⟩
  · exact q
  · cases q
theorem okN_inv {x : Str} (h : okN x = true) : (x == ("__debug__" : Str)) = false ∧ (x == ("__classdict__" : Str)) = false ∧ x ≠ "__name__" := by
  unfold okN at h
  simp only [Bool.and_eq_true, Bool.not_eq_true', decide_eq_true_eq] at h
  exact ⟨h.1.1, h.1.2, h.2⟩
theorem Good.hu (g : Good X L T G W) : X.A.units + 65 < cLine := by have := g.room.un; omega
end

def biName : BI → Str
  | .len => "len" | .list => "list" | .tuple => "tuple" | .sorted => "sorted" | .sum => "sum" | .all => "all" | .min => "min" | .max => "max" | .int => "int" | .dict => "dict"
def bmName : BM → Str
  | .append => "append" | .extend => "extend" | .pop => "pop" | .clear => "clear" | .count => "count" | .index => "index" | .items => "items" | .values => "values" | .get => "get" | .dpop => "pop" | .update => "update" | .setdefault => "setdefault"
def bmB : BM → Bool
  | .append => true | .extend => true | .pop => true | .clear => true | .count => true
  | _ => false
def litB : Val → Const → Bool
  | .int i, .int j => decide (i = j)
  | .bl a, .bool b => decide (a = b)
  | .non, .none => true
  | .str s, .str t => decide (s = t)
  | _, _ => false
def glvB (G : Ctx) (x : Str) : Val → Bool
  | .int i => (match G.gls.lookup x with | some (.int j) => decide (i = j) | _ => false)
  | .fn f => decide (f = x) && (match G.gls.lookup x with | some (.fn g) => decide (f = g) | _ => false)
  | .cl f => decide (f = x) && (match G.gls.lookup x with | some (.cl g) => decide (f = g) | _ => false)
  | _ => false
def bltB (G : Ctx) (x : Str) : Bool := glB G.sc x && okN x && G.blt.contains x
def tyB (G : Ctx) : Ty → Expr → Bool
  | .b n, .Name x _ => decide (n ≠ .none) && decide (x = Str.ofString n.name) && bltB G x
  | .o c, .Name x _ => decide (x = c) && glB G.sc x && okN x && (G.cls.lookup c).isSome && G.isc.contains c
  | _, _ => false
/-! the slots of a target -/
mutual
def gSl : CS.G → List Nat
  | .name i => [i]
  | .tup gs => gsSl gs
  | .sub _ _ => []
  | .attr _ _ _ => []
def gsSl : CS.Gs → List Nat
  | .nil => []
  | .cons g gs => gSl g ++ gsSl gs
end
def isTupT : Expr → Bool
  | .Tuple _ _ _ => true
  | _ => false
def ownP (N : List Str) (own : List Nat) : List (Str × Nat) := own.map fun i => (N.getD i "", i)
def Ctx.blk (G : Ctx) (sc : Scope) : Ctx := { G with sc := sc }

mutual
def chkE (G : Ctx) : CS.E → Expr → Bool
  | .var i, .Name x _ => decide (G.N[i]? = some x) && visB G.sc x && okN x
  | .lit v, .Constant c _ _ => litB v c
  | .glob x v, .Name y _ => decide (x = y) && glB G.sc y && okN y && glvB G y v
  | .op o a b, .BinOp l p r _ => decide (opOf o = p) && chkE G a l && chkE G b r
  | .neg a, .UnaryOp p x _ => decide (p = .USub) && chkE G a x
  | .not a, .UnaryOp p x _ => decide (p = .Not) && chkE G a x
  | .and a b, .BoolOp p es _ => decide (p = .And) && (match es with
    | [x, y] => chkE G a x && chkE G b y
    | x :: y :: z :: r => chkE G a x && chkAnd G b (y :: z :: r)
    | _ => false)
  | .or a b, .BoolOp p es _ => decide (p = .Or) && (match es with
    | [x, y] => chkE G a x && chkE G b y
    | x :: y :: z :: r => chkE G a x && chkOr G b (y :: z :: r)
    | _ => false)
  | .cmp o a b, .Compare l ps rs _ => (match ps, rs with | [p], [r] => decide (cmpOf o = p) && noSet r && chkE G a l && chkE G b r | _, _ => false)
  | .chain o p a b c, .Compare l ps rs _ => (match ps, rs with | [p1, p2], [m, r] => decide (cmpOf o = p1) && decide (cmpOf p = p2) && noSet m && noSet r && chkE G a l && chkE G b m && chkE G c r | _, _ => false)
  | .isi a t, .Call f as ks _ => (match f, as, ks with | .Name x _, [l, r], [] => decide (x = "isinstance") && bltB G x && plainA l && plainA r && chkE G a l && tyB G t r | _, _, _ => false)
  | .ifx c a b, .IfExp t x y _ => chkC G c t && chkE G a x && chkE G b y
  | .tup es, .Tuple xs _ _ => chkEs G es xs
  | .lst es, .List xs _ => chkEs G es xs
  | .ix a i, .Subscript x y _ => noSl y && chkE G a x && chkE G i y
  | .sl a lo hi, .Subscript x s _ => (match s with | .Slice l h none _ => chkE G a x && chkO G lo l && chkO G hi h | _ => false)
  | .rev a, .Subscript x s _ => (match s with | .Slice none none (some (.UnaryOp .USub (.Constant (.int 1) _ _) _)) _ => chkE G a x | _ => false)
  | .call f es, .Call x as ks _ => (match x, as, ks with
    | .Name n _, _ :: _, [] => decide (n = f) && glB G.sc n && okN n && chkEs G es as && (G.fns.lookup f).isSome
    | _, _, _ => false)
  | .bi f es, .Call x as ks _ => (match x, as, ks with
    | .Name n _, _ :: _, [] => decide (n = biName f) && bltB G n && chkEs G es as
    | _, _, _ => false)
  | .mk c es ds, .Call x as ks _ => (match x, as, ks with
    | .Name n _, _ :: _, [] => decide (n = c) && glB G.sc n && okN n && chkEs G es as && (match G.cls.lookup c with | some ms => ms.ini.any fun p => Val.beqs p.2 ds | none => false)
    | _, _, _ => false)
  | .meth c m o es, .Call x as ks pos => (match x, ks with
    | .Attribute v n apos, [] => decide (n = m) && (apos.endLine == pos.line) && baseA v && decide (as.length < 28) && chkE G o v && chkEs G es as && (match G.cls.lookup c with | some ms => (ms.ms.lookup m).isSome | none => false)
    | _, _ => false)
  | .bm m o es, .Call x as ks pos => (match x, ks with
    | .Attribute v n apos, [] => decide (n = bmName m) && (apos.endLine == pos.line) && baseA v && decide (as.length < 28) && bmB m && chkE G o v && chkEs G es as
    | _, _ => false)
  | .attr c o f, .Attribute v n _ => decide (n = f) && baseA v && G.flds.contains f && (G.cls.lookup c).isSome && chkE G o v
  | .lc elt g s t own, .ListComp x gs sc _ => (match gs with
    | [⟨tg, iter, ifs, na⟩] => decide (na = 0) && noSet iter && blkC G.N G.sc sc (ownP G.N own) && (gSl g).all own.contains && chkG (G.blk sc) g tg && chkSrc G s iter (isTupT tg) && chkOC (G.blk sc) t ifs && chkE (G.blk sc) elt x
    | _ => false)
  | _, _ => false
def chkAnd (G : Ctx) : CS.E → List Expr → Bool
  | .and a b, es => (match es with
    | [x, y] => chkE G a x && chkE G b y
    | x :: y :: z :: r => chkE G a x && chkAnd G b (y :: z :: r)
    | _ => false)
  | _, _ => false
def chkOr (G : Ctx) : CS.E → List Expr → Bool
  | .or a b, es => (match es with
    | [x, y] => chkE G a x && chkE G b y
    | x :: y :: z :: r => chkE G a x && chkOr G b (y :: z :: r)
    | _ => false)
  | _, _ => false
def chkEs (G : Ctx) : CS.Es → List Expr → Bool
  | .nil, [] => true
  | .cons e es, x :: xs => plainA x && chkE G e x && chkEs G es xs
  | _, _ => false
def chkO (G : Ctx) : CS.OE → Option Expr → Bool
  | .no, none => true
  | .so e, some x => chkE G e x
  | _, _ => false
def chkC (G : Ctx) : CS.C → Expr → Bool
  | .val e, x => truA x && chkE G e x
  | .cmp o a b, .Compare l ps rs _ => (match ps, rs with | [p], [r] => decide (cmpOf o = p) && noSet r && chkE G a l && chkE G b r | _, _ => false)
  | .chain o p a b c, .Compare l ps rs _ => (match ps, rs with | [p1, p2], [m, r] => decide (cmpOf o = p1) && decide (cmpOf p = p2) && noSet m && noSet r && chkE G a l && chkE G b m && chkE G c r | _, _ => false)
  | .not c, .UnaryOp p x _ => decide (p = .Not) && chkC G c x
  | .and a b, .BoolOp p es _ => decide (p = .And) && (match es with
    | [x, y] => chkC G a x && chkC G b y
    | x :: y :: z :: r => chkC G a x && chkCAnd G b (y :: z :: r)
    | _ => false)
  | .or a b, .BoolOp p es _ => decide (p = .Or) && (match es with
    | [x, y] => chkC G a x && chkC G b y
    | x :: y :: z :: r => chkC G a x && chkCOr G b (y :: z :: r)
    | _ => false)
  | _, _ => false
def chkCAnd (G : Ctx) : CS.C → List Expr → Bool
  | .and a b, es => (match es with
    | [x, y] => chkC G a x && chkC G b y
    | x :: y :: z :: r => chkC G a x && chkCAnd G b (y :: z :: r)
    | _ => false)
  | _, _ => false
def chkCOr (G : Ctx) : CS.C → List Expr → Bool
  | .or a b, es => (match es with
    | [x, y] => chkC G a x && chkC G b y
    | x :: y :: z :: r => chkC G a x && chkCOr G b (y :: z :: r)
    | _ => false)
  | _, _ => false
def chkOC (G : Ctx) : CS.OC → List Expr → Bool
  | .no, [] => true
  | .so c, [x] => chkC G c x
  | _, _ => false
def chkSrc (G : Ctx) : CS.Src → Expr → Bool → Bool
  | .ex e, x, _ => chkE G e x
  | .rng1 a, .Call f as ks _, _ => (match f, as, ks with | .Name n _, [x], [] => decide (n = "range") && bltB G n && plainA x && chkE G a x | _, _, _ => false)
  | .rng2 a b, .Call f as ks _, _ => (match f, as, ks with | .Name n _, [x, y], [] => decide (n = "range") && bltB G n && plainA x && plainA y && chkE G a x && chkE G b y | _, _, _ => false)
  | .enum e, .Call f as ks _, tu => (match f, as, ks with | .Name n _, [x], [] => tu && decide (n = "enumerate") && bltB G n && plainA x && chkE G e x | _, _, _ => false)
  | _, _, _ => false
def chkG (G : Ctx) : CS.G → Expr → Bool
  | .name i, .Name x _ => decide (G.N[i]? = some x) && locB G.sc x
  | .tup gs, .Tuple xs _ _ => xs.all plainA && decide (gs.len = xs.length) && chkGs G gs xs
  | .sub o i, .Subscript x y _ => noSl y && chkE G o x && chkE G i y
  | _, _ => false
def chkGs (G : Ctx) : CS.Gs → List Expr → Bool
  | .nil, [] => true
  | .cons g gs, x :: xs => chkG G g x && chkGs G gs xs
  | _, _ => false
end
end CS

/-! Cs9 -/
/-! Cs9: each form of expression, by its parts. -/
namespace CS
open PySem PySem.Spec PyProof.Rows L2
/-- a place in a body -/
structure Pt (L : Lk) (W : WX) (σ : L2.St) (env : Env) (h : HS) (H : L2.Hp) (X0 : PX) : Prop where
  re : RE L H σ env
  rel : Rel L h H
  xw : XW L W σ h H X0
section
variable {X : Cx} {L : Lk} {T : Tab} {G : Ctx} {W : WX} {σ : L2.St} {env : Env} {h h1 : HS} {H H1 : L2.Hp} {X0 : PX}
theorem Pt.go (p : Pt L W σ env h H X0) (s : Stp L h H h1 H1) : Pt L W σ env h1 H1 X0 := ⟨p.re.ext s.ext, s.rel, p.xw.ext s⟩
theorem tF.of {M : Env → HS → PV → PX → Prop} {Q : VK} {Q0 : PV} (p : Pt L W σ env h H X0) (m : M env h Q0 X0) (q : QW L Q h H Q0) : tF L W M σ H Q := ⟨env, h, Q0, X0, p.re, p.rel, m, q, p.xw⟩
theorem tFB.of {M : Env → HS → (Bool → HS → Prop) → PX → Prop} {Q : Bool → L2.Hp → Prop} {Q0 : Bool → HS → Prop} (p : Pt L W σ env h H X0) (m : M env h Q0 X0) (q : BW L Q h H Q0) : tFB L W M σ H Q := ⟨env, h, Q0, X0, p.re, p.rel, m, q, p.xw⟩
theorem tFA.of {M : Env → HS → (List Val → HS → Prop) → PX → Prop} {Q : List V → L2.Hp → Prop} {Q0 : List Val → HS → Prop} (p : Pt L W σ env h H X0) (m : M env h Q0 X0) (q : AW L Q h H Q0) : tFA L W M σ H Q := ⟨env, h, Q0, X0, p.re, p.rel, m, q, p.xw⟩
theorem PE.fr {e : Expr} {t : TE} {M : Env → HS → PV → PX → Prop} (p : PE X e t) (k : ∀ σ H Q env h Q0 X0, Pt L W σ env h H X0 → M env h Q0 X0 → QW L Q h H Q0 → t σ H Q) : PE X e (tF L W M) :=
  CS.PE.imp p fun σ H Q ⟨env, h, Q0, X0, re, rel, m, q, x⟩ => k σ H Q env h Q0 X0 ⟨re, rel, x⟩ m q
theorem PT.fr {e : Expr} {t : TT} {M : Env → HS → (Bool → HS → Prop) → PX → Prop} (p : PT X e t) (k : ∀ σ H Q env h Q0 X0, Pt L W σ env h H X0 → M env h Q0 X0 → BW L Q h H Q0 → t σ H Q) : PT X e (tFB L W M) :=
  CS.PT.imp p fun σ H Q ⟨env, h, Q0, X0, re, rel, m, q, x⟩ => k σ H Q env h Q0 X0 ⟨re, rel, x⟩ m q
theorem PW.fr {e : Expr} {t : TT} {M : Env → HS → (Bool → HS → Prop) → PX → Prop} (p : PW X e t) (k : ∀ σ H Q env h Q0 X0, Pt L W σ env h H X0 → M env h Q0 X0 → BW L Q h H Q0 → t σ H Q) : PW X e (tFB L W M) :=
  CS.PW.imp p fun σ H Q ⟨env, h, Q0, X0, re, rel, m, q, x⟩ => k σ H Q env h Q0 X0 ⟨re, rel, x⟩ m q
theorem PA.fr {es : List Expr} {t : TA} {M : Env → HS → (List Val → HS → Prop) → PX → Prop} (p : PA X es t) (k : ∀ σ H Q env h Q0 X0, Pt L W σ env h H X0 → M env h Q0 X0 → AW L Q h H Q0 → t σ H Q) : PA X es (tFA L W M) :=
  CS.PA.imp p fun σ H Q ⟨env, h, Q0, X0, re, rel, m, q, x⟩ => k σ H Q env h Q0 X0 ⟨re, rel, x⟩ m q
theorem BW.here {Q : Bool → L2.Hp → Prop} {Q0 : Bool → HS → Prop} (q : BW L Q h H Q0) (r : Rel L h H) {b : Bool} (n : Q0 b h) : Q b H := q b h H n (.refl r)
theorem AW.here {Q : List V → L2.Hp → Prop} {Q0 : List Val → HS → Prop} (q : AW L Q h H Q0) (r : Rel L h H) {xs : List V} {vs : List Val} (n : Q0 vs h) (t : RVs L H xs vs) : Q xs H := q vs h xs H n (.refl r) t
theorem Good.hK (g : Good X L T G W) : X.K = L.K := by rw [g.hL]
theorem Good.hmg (g : Good X L T G W) : L.mg = X.mg := by rw [g.hL]
abbrev PEw (X : Cx) (L : Lk) (T : Tab) (W : WX) (e : Expr) (a : CS.E) : Prop := PE X e (tF L W (wE T a))
abbrev PTw (X : Cx) (L : Lk) (T : Tab) (W : WX) (e : Expr) (a : CS.C) : Prop := PT X e (tFB L W (wC T a))
abbrev PAw (X : Cx) (L : Lk) (T : Tab) (W : WX) (es : List Expr) (a : CS.Es) : Prop := PA X es (tFA L W (wEs T a))
variable {pos pos2 pos3 pos4 : Pos} {l r e : Expr} {a b c : CS.E}

theorem f_var (g : Good X L T G W) {i : Nat} {x : Str} (hN : G.N[i]? = some x) (hv : visB G.sc x = true) (ho : okN x = true) : PEw X L T W (.Name x pos) (.var i) :=
  PE.fr (pe_var (by rw [g.N]; exact hN) (g.vis hv) (okN_inv ho).1 (okN_inv ho).2.1) fun σ H Q env h Q0 X0 p m q => by
    obtain ⟨v, e1, m⟩ := m
    obtain ⟨x, e2, r⟩ := p.re.2 i v e1
    exact ⟨x, e2, q.here p.rel m r⟩
theorem f_lit {v : Val} {c : Const} {k} (hl : litB v c = true) : PEw X L T W (.Constant c k pos) (.lit v) := by
  cases v <;> cases c <;> first | exact absurd hl Bool.false_ne_true | skip
  · exact PE.fr pe_non fun σ H Q env h Q0 X0 p m q => q.here p.rel m .non
  · obtain rfl := of_decide_eq_true hl; exact PE.fr pe_bl fun σ H Q env h Q0 X0 p m q => q.here p.rel m (.bl _)
  · obtain rfl := of_decide_eq_true hl; exact PE.fr pe_int fun σ H Q env h Q0 X0 p m q => q.here p.rel m (.int _)
  · obtain rfl := of_decide_eq_true hl; exact PE.fr pe_str fun σ H Q env h Q0 X0 p m q => q.here p.rel m (.str _)
theorem f_glob (g : Good X L T G W) {x : Str} {v : Val} (hg : glB G.sc x = true) (ho : okN x = true) (hv : glvB G x v = true) : PEw X L T W (.Name x pos) (.glob x v) := by
  have hd := (okN_inv ho).1
  have hg := g.gl hg
  cases v <;> first | exact absurd hv Bool.false_ne_true | skip
  · rename_i i
    unfold glvB at hv
    cases e : G.gls.lookup x with
    | none => rw [e] at hv; cases hv
    | some w =>
      rw [e] at hv
      cases w <;> first | exact absurd hv Bool.false_ne_true | skip
      obtain rfl := of_decide_eq_true hv
      obtain ⟨t, ht⟩ := g.tab.gl x _ e
      exact PE.fr (pe_glob (v := .int i) hg (by rw [← g.hmg]; exact ht) ⟨t, rfl⟩ hd) fun σ H Q env h Q0 X0 p m q => q.here p.rel m (.int _)
  · rename_i f
    unfold glvB at hv
    rw [Bool.and_eq_true] at hv
    cases e : G.gls.lookup x with
    | none => rw [e] at hv; cases hv.2
    | some w =>
      rw [e] at hv
      cases w <;> first | exact absurd hv.2 Bool.false_ne_true | skip
      obtain ⟨rfl, a, ht⟩ := g.tab.gl x _ e
      obtain rfl := of_decide_eq_true hv.2
      exact PE.fr (pe_glob (v := .ref a) hg (by rw [← g.hmg]; exact ht) rfl hd) fun σ H Q env h Q0 X0 p m q => q.here p.rel m (.fn ht)
  · rename_i f
    unfold glvB at hv
    rw [Bool.and_eq_true] at hv
    cases e : G.gls.lookup x with
    | none => rw [e] at hv; cases hv.2
    | some w =>
      rw [e] at hv
      cases w <;> first | exact absurd hv.2 Bool.false_ne_true | skip
      obtain ⟨rfl, a, ht⟩ := g.tab.gl x _ e
      obtain rfl := of_decide_eq_true hv.2
      exact PE.fr (pe_glob (v := .ref a) hg (by rw [← g.hmg]; exact ht) rfl hd) fun σ H Q env h Q0 X0 p m q => q.here p.rel m (.cl ht)
theorem f_op (g : Good X L T G W) {o : Op2} (ha : PEw X L T W l a) (hb : PEw X L T W r b) : PEw X L T W (.BinOp l (opOf o) r pos) (.op o a b) :=
  PE.fr (pe_op (op2_ok g.hK o) ha hb) fun σ H Q env h Q0 X0 p m q => .of p m fun x h1 v1 H1 m1 s1 r1 => .of (p.go s1) m1 fun y h2 v2 H2 m2 s2 r2 =>
    ⟨_, _, _, Q0, s2.rel, r1.ext s2.ext, r2, m2, q.ext (s1.trans s2)⟩
theorem f_neg (ha : PEw X L T W l a) : PEw X L T W (.UnaryOp .USub l pos) (.neg a) :=
  PE.fr (pe_un un_neg ha) fun σ H Q env h Q0 X0 p m q => .of p m fun x h1 v1 H1 ⟨i, e, m1⟩ s1 r1 => by
    subst e
    exact ⟨i, r1.int_inv, (q.ext s1).here s1.rel m1 (.int _)⟩
theorem f_not (ha : PEw X L T W l a) : PEw X L T W (.UnaryOp .Not l pos) (.not a) :=
  PE.fr (pe_not ha) fun σ H Q env h Q0 X0 p m q => .of p m fun x h1 v1 H1 ⟨i, e, m1⟩ s1 r1 => by
    subst e
    exact ⟨i, r1.bl_inv, (q.ext s1).here s1.rel m1 (.bl _)⟩
theorem f_and {es : List Expr} (ha : PEw X L T W l a) (hb : PEw X L T W (.BoolOp .And (r :: es) pos) b) : PEw X L T W (.BoolOp .And (l :: r :: es) pos) (.and a b) :=
  PE.fr (pe_and ha hb) fun σ H Q env h Q0 X0 p m q => .of p m fun x h1 v1 H1 ⟨c, e, m1⟩ s1 r1 => by
    subst e
    refine ⟨c, r1.bl_inv, ?_⟩
    cases c with
    | true => exact .of (p.go s1) m1 (q.ext s1)
    | false => exact (q.ext s1).here s1.rel m1 (.bl _)
theorem f_or {es : List Expr} (ha : PEw X L T W l a) (hb : PEw X L T W (.BoolOp .Or (r :: es) pos) b) : PEw X L T W (.BoolOp .Or (l :: r :: es) pos) (.or a b) :=
  PE.fr (pe_or ha hb) fun σ H Q env h Q0 X0 p m q => .of p m fun x h1 v1 H1 ⟨c, e, m1⟩ s1 r1 => by
    subst e
    refine ⟨c, r1.bl_inv, ?_⟩
    cases c with
    | false => exact .of (p.go s1) m1 (q.ext s1)
    | true => exact (q.ext s1).here s1.rel m1 (.bl _)
theorem f_cmp (g : Good X L T G W) {o : Cmp} (hm : noSet r = true) (ha : PEw X L T W l a) (hb : PEw X L T W r b) : PEw X L T W (.Compare l [cmpOf o] [r] pos) (.cmp o a b) :=
  PE.fr (pe_cmpR (cmp2_ok g.hK g.hu o) ha hb (noSet_in hm)) fun σ H Q env h Q0 X0 p m q => .of p m fun x h1 v1 H1 m1 s1 r1 => .of (p.go s1) m1 fun y h2 v2 H2 m2 s2 r2 =>
    ⟨_, _, _, _, s2.rel, r1.ext s2.ext, r2, m2, fun c k => (q.ext (s1.trans s2)).here s2.rel k (.bl c)⟩
theorem marks2 {op op' : CmpOp} {b c : Expr} (h1 : noSet b = true) (h2 : noSet c = true) : lastMarks [op, op'] [b, c] = false := by
  show behindInMarks op' c = false
  exact noSet_in h2
theorem f_chain (g : Good X L T G W) {o p' : Cmp} {z : Expr} (hm1 : noSet r = true) (hm : noSet z = true) (ha : PEw X L T W l a) (hb : PEw X L T W r b) (hc : PEw X L T W z c) : PEw X L T W (.Compare l [cmpOf o, cmpOf p'] [r, z] pos) (.chain o p' a b c) :=
  PE.fr (pe_chain (cmp2_ok g.hK g.hu o) (cmp2_ok g.hK g.hu p') ha hb hc (marks2 hm1 hm)) fun σ H Q env h Q0 X0 p m q => .of p m fun x h1 v1 H1 m1 s1 r1 => .of (p.go s1) m1 fun y h2 v2 H2 m2 s2 r2 =>
    ⟨_, _, _, _, s2.rel, r1.ext s2.ext, r2, m2, fun k hk => ⟨k, rfl, by
      cases k with
      | false => exact (q.ext (s1.trans s2)).here s2.rel hk (.bl _)
      | true => exact .of ((p.go s1).go s2) hk fun u h3 v3 H3 m3 s3 r3 => ⟨_, _, _, _, s3.rel, r2.ext s3.ext, r3, m3, fun c k => (q.ext ((s1.trans s2).trans s3)).here s3.rel k (.bl c)⟩⟩⟩
theorem f_ifx {t : Expr} {c : CS.C} (hc : PTw X L T W t c) (ha : PEw X L T W l a) (hb : PEw X L T W r b) : PEw X L T W (.IfExp t l r pos) (.ifx c a b) :=
  PE.fr (pe_ifExp hc ha hb) fun σ H Q env h Q0 X0 p m q => .of p m fun k h1 H1 m1 s1 => by
    cases k with
    | true => exact .of (p.go s1) m1 (q.ext s1)
    | false => exact .of (p.go s1) m1 (q.ext s1)
theorem f_nil : PAw X L T W [] .nil := PA.fr pa_nil fun σ H Q env h Q0 X0 p m q => q.here p.rel m .nil
theorem f_cons {es : List Expr} {as : CS.Es} (hp : plainA l = true) (ha : PEw X L T W l a) (hr : PAw X L T W es as) : PAw X L T W (l :: es) (.cons a as) :=
  PA.fr (pa_cons ha hr (star_cons hp)) fun σ H Q env h Q0 X0 p m q => .of p m fun x h1 v1 H1 m1 s1 r1 => .of (p.go s1) m1 fun vs h2 xs H2 m2 s2 r2 => (q.ext (s1.trans s2)).here s2.rel m2 (.cons (r1.ext s2.ext) r2)
theorem f_tup {es : List Expr} {as : CS.Es} {k} (ha : PAw X L T W es as) : PEw X L T W (.Tuple es k pos) (.tup as) :=
  PE.fr (pe_tup ha) fun σ H Q env h Q0 X0 p m q => .of p m fun vs h1 xs H1 m1 s1 r1 => ⟨by rw [r1.length, ← cap_line]; exact m1.1, fun b hb => (q.ext s1).tup s1.rel hb m1.2 r1⟩
theorem f_lst {es : List Expr} {as : CS.Es} (ha : PAw X L T W es as) : PEw X L T W (.List es pos) (.lst as) :=
  PE.fr (pe_lst ha) fun σ H Q env h Q0 X0 p m q => .of p m fun vs h1 xs H1 m1 s1 r1 => ⟨by rw [r1.length, ← cap_line]; exact m1.1, fun b hb => (q.ext s1).lst s1.rel hb m1.2 r1⟩
theorem f_ix (g : Good X L T G W) (hs : noSl r = true) (ha : PEw X L T W l a) (hb : PEw X L T W r b) : PEw X L T W (.Subscript l r pos) (.ix a b) :=
  PE.fr (pe_ix (ix_ok g.hK g.hu) ha hb (noSl_ix hs)) fun σ H Q env h Q0 X0 p m q => .of p m fun x h1 v1 H1 m1 s1 r1 => .of (p.go s1) m1 fun y h2 v2 H2 m2 s2 r2 =>
    ⟨_, _, _, Q0, s2.rel, r1.ext s2.ext, r2, m2, q.ext (s1.trans s2)⟩
theorem f_rev (g : Good X L T G W) {k} (ha : PEw X L T W l a) : PEw X L T W (.Subscript l (.Slice none none (some (.UnaryOp .USub (.Constant (.int 1) k pos) pos2)) pos3) pos4) (.rev a) :=
  PE.fr (pe_revL ha) fun σ H Q env h Q0 X0 p m q => .of p m fun x h1 v1 H1 ⟨b, vs, e, e2, m1⟩ s1 r1 => by
    subst e
    obtain rfl := r1.ref_inv
    obtain ⟨ws, hH, t⟩ := s1.rel.at e2
    exact ⟨b, ws, rfl, .of hH, fun c hc => (q.ext s1).lst s1.rel hc m1 t.reverse⟩
/-! slices -/
def tFO (L : Lk) (W : WX) (m : Env → HS → (Option Val → HS → Prop) → PX → Prop) : TO := fun σ H Q => ∃ env h Q0 X0, RE L H σ env ∧ Rel L h H ∧ m env h Q0 X0 ∧ XW L W σ h H X0 ∧ ∀ o h' H', Q0 o h' → Stp L h H h' H' → ∃ i, optI o = some i ∧ Q i H'
abbrev POw (X : Cx) (L : Lk) (T : Tab) (W : WX) (e : Option Expr) (a : CS.OE) : Prop := PO X e (tFO L W (wO T a))
theorem PO.imp {e : Option Expr} {t t' : TO} (p : PO X e t) (k : ∀ σ H Q, t' σ H Q → t σ H Q) : PO X e t' := ⟨fun pins s σ H Q I q => p.run pins s σ H Q I (k σ H Q q)⟩
theorem f_no : POw X L T W none .no := PO.imp po_none fun σ H Q ⟨env, h, Q0, X0, re, rel, m, xw, q⟩ => by
  obtain ⟨i, e, z⟩ := q none h H m (.refl rel)
  cases e
  exact z
theorem f_so (ha : PEw X L T W e a) : POw X L T W (some e) (.so a) := PO.imp (po_some ha) fun σ H Q ⟨env, h, Q0, X0, re, rel, m, xw, q⟩ => by
  refine tF.of ⟨re, rel, xw⟩ m fun v h1 x H1 m1 s1 r1 => ?_
  obtain ⟨i, e, z⟩ := q (some v) h1 H1 m1 s1
  cases v with
  | int k => cases (show some (some k) = some i from e); exact ⟨_, r1.int_inv, z⟩
  | _ => exact nomatch (show none = some i from e)
theorem f_sl (g : Good X L T G W) {lo hi : Option Expr} {x y : CS.OE} (ha : PEw X L T W l a) (hl : POw X L T W lo x) (hh : POw X L T W hi y) : PEw X L T W (.Subscript l (.Slice lo hi none pos2) pos) (.sl a x y) :=
  PE.fr (pe_slice (sl_ok g.hK) ha hl hh) fun σ H Q env h Q0 X0 p m q => .of p m fun v h1 v1 H1 m1 s1 r1 =>
    ⟨env, h1, _, X0, (p.go s1).re, s1.rel, m1, (p.go s1).xw, fun o h2 H2 ⟨i, e1, m2⟩ s2 => ⟨i, e1,
      ⟨env, h2, _, X0, ((p.go s1).go s2).re, s2.rel, m2, ((p.go s1).go s2).xw, fun o' h3 H3 ⟨j, e2, m3⟩ s3 => ⟨j, e2, by
        refine ⟨h3, v, Q0, s3.rel, (r1.ext s2.ext).ext s3.ext, q.ext ((s1.trans s2).trans s3), ?_⟩
        unfold slS at m3
        split at m3 <;> first | exact m3 | exact m3.elim⟩⟩⟩⟩
end
end CS

/-! Cs10 -/
/-! Cs10: calls. -/
namespace CS
open PySem PySem.Spec PyProof.Rows L2
section
variable {X : Cx} {L : Lk} {T : Tab} {G : Ctx} {W : WX} {pos pos2 pos3 pos4 : Pos} {l r e : Expr} {a b c : CS.E} {es : List Expr} {as : CS.Es}
theorem pl_cons (hp : (l :: es).all plainA = true) : starEach (l :: es) X.env = (false, eval l X.env) :: starEach es X.env ∧ (backTo pos (starEach es X.env)).any (·.1) = false := by
  rw [List.all_cons, Bool.and_eq_true] at hp
  exact ⟨star_cons hp.1, star_back hp.2⟩
/-- what a callee asks, from what stands behind the arguments -/
theorem spOf.of {sp : FS} {σ : L2.St} {env : Env} {h : HS} {H : L2.Hp} {X0 : PX} {Q : VK} {Q0 : PV} {vs : List V} {args : List Val} (p : Pt L W σ env h H X0) (r : RVs L H vs args) (m : sp args h Q0 X0) (q : QW L Q h H Q0) : spOf L sp vs H Q (WE W σ) :=
  ⟨args, h, Q0, X0, r, p.rel, m, q, fun e h' c d H' k s x => p.xw e h' c d H' k s x⟩
theorem f_call (g : Good X L T G W) {f : Str} {i : FI} (hf : G.fns.lookup f = some i) (hg : glB G.sc f = true) (ho : okN f = true) (hp : (l :: es).all plainA = true) (ha : PAw X L T W (l :: es) as) : PEw X L T W (.Call (.Name f pos2) (l :: es) [] pos) (.call f as) := by
  obtain ⟨hi, fa, hm, hk, fd, dvs, dus, F, hb, hv, hd⟩ := g.tab.fn f i hf
  obtain rfl := g.hL
  obtain rfl : dvs = [] := (hd fun _ => none).nil_inv
  exact PE.fr (pe_callSD F (g.room.mono hi) (g.gl hg) hm hk hb hv (fun σ => passAt g.tk σ) ha (okN_inv ho).1 (pl_cons (pos := pos) hp).1 (pl_cons hp).2) fun σ H Q env h Q0 X0 p m q => .of p m fun vs h1 xs H1 m1 s1 r1 => by
    show spOf _ _ (xs ++ []) H1 Q (WE W σ)
    rw [List.append_nil]
    exact spOf.of (p.go s1) r1 m1 (q.ext s1)
theorem boot_bi (f : BI) : bootBuiltins (biName f) = some (biVal f) := by cases f <;> decide +kernel
theorem f_bi (g : Good X L T G W) {f : BI} (hb : bltB G (biName f) = true) (hp : (l :: es).all plainA = true) (ha : PAw X L T W (l :: es) as) : PEw X L T W (.Call (.Name (biName f) pos2) (l :: es) [] pos) (.bi f as) := by
  unfold bltB at hb
  rw [Bool.and_eq_true, Bool.and_eq_true] at hb
  have hm : X.mg (biName f) = none := by rw [← g.hmg]; exact g.tab.bl _ (by simpa using hb.2)
  have hgl := g.gl hb.1.1
  have ho := okN_inv hb.1.2
  have R := bi_ok (X := X) (L := L) g.hK g.calm f
  have P : PE X (.Call (.Name (biName f) pos2) (l :: es) [] pos) (tCB (rBi L f) (tFA L W (wEs T as))) := by
    have B := boot_bi f
    cases hf : biVal f with
    | builtin id => rw [hf] at R B; exact pe_callB R hgl hm B ha ho.2.2 ho.1 (pl_cons (pos := pos) hp).1 (pl_cons hp).2
    | type t => rw [hf] at R B; exact pe_callTy R hgl hm B ha ho.2.2 ho.1 (pl_cons (pos := pos) hp).1 (pl_cons hp).2
    | _ => cases f <;> cases hf
  exact PE.fr P fun σ H Q env h Q0 X0 p m q => .of p m fun vs h1 xs H1 m1 s1 r1 => ⟨h1, vs, Q0, s1.rel, r1, m1, q.ext s1⟩

theorem RFs.look {H : L2.Hp} (f : Str) : ∀ {fs : List (Str × V)} {gs : List (Str × Val)}, RFs L H fs gs → (fs.lookup f = none ∧ gs.lookup f = none) ∨ ∃ w v, fs.lookup f = some w ∧ gs.lookup f = some v ∧ RV L H w v
  | _, _, .nil => .inl ⟨rfl, rfl⟩
  | (a, x) :: fs, (b, y) :: gs, .cons r t => by
    obtain ⟨e, r⟩ := r
    simp only at e
    subst e
    simp only [List.lookup_cons]
    cases f == a with
    | true => exact .inr ⟨_, _, rfl, rfl, r⟩
    | false => exact RFs.look f t
/-- a new object, what is raised at the caller's slots -/
theorem run_mkAt {CX : CXT} {k : Nat} {f C : Addr} {fd : FuncData} {ps : List Str} {sp : Sp} {dvs : List V} {ds : List Value} {E : XK} {pins : List (Addr × PySem.Obj)} {σ : L2.St} {H : L2.Hp} {s : Shared} {Q : VK} {us : List Value} {vs : List V}
    (M : Mk X.K C f) (F : FnOk X.prog X.w X.K X.mg X.base CX k f fd ps sp) (room : Room (k + 1) X.A) (hb : Binds X.K fd ps ds) (hd : Vals dvs ds) (hx : PassesAt CX X σ E) (I : Inv X pins σ H s) (rv : Vals vs us)
    (want : ∀ x dx, H x = none → H dx = none → dx ≠ x → sp (.ref x :: (vs ++ dvs)) (upd (upd H dx (.own x)) x (.ins C dx [])) (fun v H2 => v = .non ∧ Q (.ref x) H2) E) :
    wpAny (model X.prog X.w) X.A (call (.ref C) us) (EP X pins σ Q) X.xe s := by
  have sz := s.heap.objs.size
  have w0 := want (s.heap.objs.size + 1) s.heap.objs.size (I.hok.fresh (Nat.le_add_right _ 1)) (I.hok.fresh (Nat.le_refl _)) (Nat.ne_of_lt (Nat.lt_succ_self _))
  have J := Inv.made (C := C) I
  have rv' : Vals (V.ref (s.heap.objs.size + 1) :: (vs ++ dvs)) (Value.ref (s.heap.objs.size + 1) :: (us ++ ds)) := .cons rfl (rv.append hd)
  have len : ((Value.ref (s.heap.objs.size + 1) :: us) ++ ds).length = ps.length := by
    rw [List.cons_append, ← rv'.length]
    exact F.len _ _ _ _ w0
  have bnd := hb _ (Value.ref (s.heap.objs.size + 1) :: us) J.kIn len
  have go := F.run _ X.stack _ _ ⟨Value.ref (s.heap.objs.size + 1) :: us, []⟩ _ _ _ E (room.make C us []) (J.env0.make C us []) bnd rv' w0
  refine wpAny_call (make_map (f := f) I.kIn M.makes M.init (beq_iff_eq.mp M.fn) (codeAny_mono go ?_))
  intro res s' hr
  match res, hr with
  | .error e, hr => exact hx pins _ _ e s' J hr
  | .ok (.ret u), hr =>
    obtain ⟨v, H3, J3, ru, ev, q3⟩ := J.after hr
    subst ev
    exact ⟨ru, V.ref (s.heap.objs.size + 1), H3, J3, rfl, q3⟩
  | .ok .next, hr => exact hr.elim
  | .ok .brk, hr => exact hr.elim
  | .ok .cont, hr => exact hr.elim
theorem Stp.made {h : HS} {H : L2.Hp} (r : Rel L h H) {x dx C : Addr} {c : Str} (hC : L.mg c = some (.ref C)) (hx : H x = none) (hd : H dx = none) (ne : dx ≠ x) : Stp L h H (h.up x (.inst c [])) (upd (upd H dx (.own x)) x (.ins C dx [])) := by
  have s1 : Stp L h H h (upd H dx (.own x)) := .more r hd
  exact s1.trans (.new s1.rel (by rw [upd_ne (Ne.symm ne)]; exact hx) ⟨C, dx, [], hC, upd_same, .nil⟩)
theorem f_mk (g : Good X L T G W) {c : Str} {ms : ClI} {i : FI} {ds : List Val} (hc : G.cls.lookup c = some ms) (hi : (i, ds) ∈ ms.ini) (hg : glB G.sc c = true) (ho : okN c = true) (hp : (l :: es).all plainA = true) (ha : PAw X L T W (l :: es) as) :
    PEw X L T W (.Call (.Name c pos2) (l :: es) [] pos) (.mk c as ds) := by
  obtain ⟨C, ct⟩ := g.tab.cl c ms hc
  obtain ⟨hl, fa, M, fd, dvs, dus, F, hb, hv, hdd⟩ := ct.nw _ hi
  have hmg := ct.mg
  obtain rfl := g.hL
  refine ⟨fun pins s σ H Q I ⟨env, h, Q0, X0, re, rel, m, q, xw⟩ => ?_⟩
  have p : Pt _ W σ env h H X0 := ⟨re, rel, xw⟩
  refine wpAny_Call_Name_kw (ld_glob I (g.gl hg) ct.mg ?_ (okN_inv ho).1)
  have A := ha.run pos pins s σ H _ I (tFA.of p m (Q := fun vs H1 => ∀ x dx, H1 x = none → H1 dx = none → dx ≠ x → spOf ⟨X.K, X.mg⟩ (T.me c "__init__") (.ref x :: (vs ++ dvs)) (upd (upd H1 dx (.own x)) x (.ins C dx [])) (fun v H2 => v = .non ∧ Q (.ref x) H2) (WE W σ)) fun vs h1 xs H1 m1 s1 r1 x dx hx hd ne => by
    have s2 := Stp.made s1.rel hmg hx hd ne
    refine spOf.of ((p.go s1).go s2) (.cons (.ref x) ((r1.ext s2.ext).append (hdd _))) (m1 x (s1.rel.free hx)) fun v h3 y H3 ⟨e3, q3⟩ s3 r3 => ?_
    subst e3
    exact ⟨r3.non_inv, q _ _ _ _ q3 ((s1.trans s2).trans s3) (.ref x)⟩)
  refine PySem.W.callWith_K (h₀ := X.base) I.ok.mod.kin M.kp (thn A ?_) (pl_cons (pos := pos) hp).1 (pl_cons hp).2
  intro us s1 ⟨vs, H1, J, rv, w1⟩
  exact ⟨J.kIn, run_mkAt M F (g.room.mono hl) hb hv (passAt g.tk σ) J rv w1⟩
theorem args_nil {M : Model} {E : Value → Shared → Prop} {A : Around} {s : Shared} {Q : List Value → Shared → Prop} {env : PySem.Env} : ∀ {es : List Expr}, es = [] → Q [] s → wpAny M A (spliced (backTo pos (starEach es env))) Q E s
  | _, rfl, h => Calls.spliced_nil h
theorem f_meth (g : Good X L T G W) {c m : Str} {ms : ClI} {i : FI} {apos : Pos} (hc : G.cls.lookup c = some ms) (hi : ms.ms.lookup m = some i) (hl : (apos.endLine == pos.line) = true) (hbase : baseA e = true) (hn : es.length < 28) (hp : es.all plainA = true) (hz : es = [] → as = .nil)
    (he : PEw X L T W e a) (ha : PAw X L T W es as) : PEw X L T W (.Call (.Attribute e m apos) es [] pos) (.meth c m a as) := by
  obtain ⟨C, ct⟩ := g.tab.cl c ms hc
  obtain ⟨hlv, fa, hm, fd, dvs, dus, F, hb, hv, hd⟩ := ct.me m i hi
  obtain rfl : dvs = [] := (hd fun _ => none).nil_inv
  have hcl := ct.is
  have hmg := ct.mg
  obtain rfl := g.hL
  refine ⟨fun pins s σ H Q I ⟨env, h, Q0, X0, re, rel, mm, q, xw⟩ => ?_⟩
  have p : Pt _ W σ env h H X0 := ⟨re, rel, xw⟩
  refine PySem.W.methodCall_KW (pl := do return (← importBound e X.env).getD true) (thn (he.run pins s σ H _ I (tF.of p mm (Q := fun x H1 => ∃ b : Addr, ∃ dx fs, x = .ref b ∧ H1 b = some (.ins C dx fs) ∧ fs.lookup m = none ∧ tFA ⟨X.K, X.mg⟩ W (wEs T as) σ H1 fun vs H2 => spOf ⟨X.K, X.mg⟩ (T.me c m) (.ref b :: vs) H2 Q (WE W σ)) fun x h1 v1 H1 ⟨b, fs, ex, hb1, hlk, m1⟩ s1 r1 => by
    subst ex
    obtain rfl := r1.ref_inv
    obtain ⟨Ca, dx, fs', e1, e2, e3⟩ := s1.rel _ _ hb1
    have e1' := hmg.symm.trans e1
    cases e1'
    refine ⟨b, dx, fs', rfl, e2, ?_, .of (p.go s1) m1 fun vs h2 xs H2 m2 s2 r2 => spOf.of ((p.go s1).go s2) (.cons (.ref b) r2) m2 (q.ext (s1.trans s2))⟩
    rcases e3.look m with ⟨z, _⟩ | ⟨_, _, _, z, _⟩
    · exact z
    · rw [hlk] at z; cases z)) ?_) (meth_eval hbase hp hn hl)
  intro u s1 ⟨x, H1, I1, rx, b, dx, fs, ex, ea, lk, w1⟩
  subst ex
  obtain rfl : u = Value.ref b := rx
  refine getmeth_ok I1 ea hcl hm lk ?_
  have A := ha.run pos pins s1 σ H1 _ I1 w1
  have fin : ∀ us s2, AP X pins σ (fun vs H2 => spOf ⟨X.K, X.mg⟩ (T.me c m) (.ref b :: vs) H2 Q (WE W σ)) us s2 → wpAny (model X.prog X.w) X.A (call (.ref fa) (.ref b :: us)) (EP X pins σ Q) X.xe s2 := fun us s2 ⟨vs, H2, I2, rv, w2⟩ =>
    run_fnSD (us := .ref b :: us) (vs := .ref b :: vs) F (g.room.mono hlv) hb hv (passAt g.tk σ) I2 (.cons rfl rv) (by rw [List.append_nil]; exact w2)
  cases es with
  | nil =>
    obtain rfl := hz rfl
    obtain ⟨env2, h2, Q2, X2, re2, rel2, m2, q2, xw2⟩ := w1
    exact PySem.W.callWith_K0 (first := [.ref b]) I1.kIn hm.kp (fin [] s1 ⟨[], H1, I1, .nil, q2.here rel2 m2 .nil⟩)
  | cons e1 es =>
    exact PySem.W.callWith_K (first := [.ref b]) (h₀ := X.base) I1.ok.mod.kin hm.kp (thn A fun us s2 w2 => ⟨by obtain ⟨vs, H2, I2, _⟩ := w2; exact I2.kIn, fin us s2 w2⟩) (pl_cons (pos := pos) hp).1 (pl_cons hp).2
theorem f_attr (g : Good X L T G W) {c f : Str} {ms : ClI} (hc : G.cls.lookup c = some ms) (hf : G.flds.contains f = true) (hb : baseA e = true) (he : PEw X L T W e a) : PEw X L T W (.Attribute e f pos) (.attr c a f) := by
  obtain ⟨C, ct⟩ := g.tab.cl c ms hc
  have hn := ct.fl f (by simpa using hf)
  have hcl := ct.is
  have hmg := ct.mg
  obtain rfl := g.hL
  exact PE.fr (pe_fld he (base_is hb)) fun σ H Q env h Q0 X0 p m q => .of p m fun x h1 v1 H1 ⟨b, fs, v, ex, hb1, hlk, m1⟩ s1 r1 => by
    subst ex
    obtain rfl := r1.ref_inv
    obtain ⟨Ca, dx, fs', e1, e2, e3⟩ := s1.rel _ _ hb1
    have e1' := hmg.symm.trans e1
    cases e1'
    rcases e3.look f with ⟨_, z⟩ | ⟨w, v', z1, z2, rv⟩
    · rw [hlk] at z; cases z
    · rw [hlk] at z2; cases z2
      exact ⟨b, C, dx, fs', w, rfl, e2, hcl, hn, z1, (q.ext s1).here s1.rel m1 rv⟩
end
end CS

/-! Cs11 -/
/-! Cs11: built-in methods, isinstance, tests, what is walked, targets. -/
namespace CS
open PySem PySem.Spec PyProof.Rows L2
section
variable {X : Cx} {L : Lk} {T : Tab} {G : Ctx} {W : WX} {pos pos2 pos3 pos4 : Pos} {l r e : Expr} {a b c : CS.E} {es : List Expr} {as : CS.Es}
/-! ### methods of the built-in types -/
structure BmOk (X : Cx) (L : Lk) (m : BM) : Prop where
  ex : ∃ T id, PlainAttrs T ∧ Slot T (bmName m) id ∧ typeOf (.builtin id) = pure (.type "method_descriptor") ∧ MtR X id (rBm L m) ∧ ∀ h H x v, Rel L h H → RV L H x v → bmT m h v → tyV X.K T x H
theorem ty_lst (hK : X.K = L.K) {h : HS} {H : L2.Hp} {x : V} {v : Val} (r : Rel L h H) (q : RV L H x v) : (∃ a vs, v = .ref a ∧ h a = some (.list vs)) → tyV X.K "list" x H := fun ⟨a, vs, e, ea⟩ => by
  subst e
  obtain rfl := q.ref_inv
  obtain ⟨ws, hH, t⟩ := r.list ea
  exact .inl ⟨rfl, ws, .of hH⟩
theorem bm_ok (hK : X.K = L.K) : ∀ m, bmB m = true → BmOk X L m
  | .append, _ => ⟨_, _, PySem.F.plainAttrs_list, PySem.F.slot_list_append, PySem.F.type_list_append, mt_app L, fun _ _ _ _ r q k => ty_lst hK r q k⟩
  | .extend, _ => ⟨_, _, PySem.F.plainAttrs_list, PySem.F.slot_list_extend, PySem.F.type_list_extend, mt_ext L, fun _ _ _ _ r q k => ty_lst hK r q k⟩
  | .pop, _ => ⟨_, _, PySem.F.plainAttrs_list, PySem.F.slot_list_pop, PySem.F.type_list_pop, mt_popL L, fun _ _ _ _ r q k => ty_lst hK r q k⟩
  | .clear, _ => ⟨_, _, PySem.F.plainAttrs_list, PySem.F.slot_list_clear, PySem.F.type_list_clear, mt_clr L, fun _ _ _ _ r q k => ty_lst hK r q k⟩
  | .count, _ => ⟨_, _, PySem.F.plainAttrs_list, PySem.F.slot_list_count, PySem.F.type_list_count, mt_cnt hK, fun _ _ _ _ r q k => ty_lst hK r q k⟩
theorem f_bm (g : Good X L T G W) {m : BM} {apos : Pos} (hm : bmB m = true) (hl : (apos.endLine == pos.line) = true) (hbase : baseA e = true) (hn : es.length < 28) (hp : es.all plainA = true) (hz : es = [] → as = .nil)
    (he : PEw X L T W e a) (ha : PAw X L T W es as) : PEw X L T W (.Call (.Attribute e (bmName m) apos) es [] pos) (.bm m a as) := by
  obtain ⟨T', id, pa, slot, ty, R, tv⟩ := (bm_ok (X := X) (L := L) g.hK m hm).ex
  cases es with
  | nil =>
    obtain rfl := hz rfl
    exact PE.fr (pe_bm0 pa slot ty R he (base_is hbase) hl) fun σ H Q env h Q0 X0 p m q => .of p m fun x h1 v1 H1 m1 s1 r1 => ⟨tv _ _ _ _ s1.rel r1 m1.1, h1, x, [], Q0, s1.rel, r1, .nil, m1.2, q.ext s1⟩
  | cons e1 es =>
    exact PE.fr (pe_bm pa slot ty R he ha (base_is hbase) (few_args hp hn) hl (pl_cons (pos := pos) hp).1 (pl_cons hp).2) fun σ H Q env h Q0 X0 p m q => .of p m fun x h1 v1 H1 m1 s1 r1 => ⟨tv _ _ _ _ s1.rel r1 m1.1, .of (p.go s1) m1.2 fun vs h2 xs H2 m2 s2 r2 =>
      ⟨h2, x, vs, Q0, s2.rel, r1.ext s2.ext, r2, m2, q.ext (s1.trans s2)⟩⟩

/-! ### isinstance -/
def tyVal (L : Lk) : Ty → Value
  | .b n => .type n.name
  | .o c => (L.mg c).getD .none
theorem tyX_of (hK : X.K = L.K) {h : HS} {H : L2.Hp} {x : V} {v : Val} {t : Ty} {cs : List Str} (r : Rel L h H) (q : RV L H x v) (e : tyOf cs h v = some t)
    (hc : ∀ c, cs.contains c = true → ∃ C, L.mg c = some (.ref C) ∧ IsC L.K C) : TyX X.K H x (tyVal L t) := by
  cases v with
  | non => cases e; obtain rfl := q.non_inv; exact .base .non
  | bl b => cases e; obtain rfl := q.bl_inv; exact .base (.bl b)
  | int b => cases e; obtain rfl := q.int_inv; exact .base (.int b)
  | str b => cases e; cases q; exact .base (.str b)
  | tup vs =>
    cases e
    obtain ⟨a, ws, rfl, hs, _⟩ := q.tup_inv
    rw [hK]
    rcases hs with (hs | ⟨o, hs⟩) | ⟨o, its, n, hk, hc, _⟩
    · exact .base (.tup hs)
    · exact .fTuple hs
    · exact .kTuple hk hc
  | rol vs =>
    cases e
    obtain ⟨a, ws, rfl, hs, _⟩ := q.rol_inv
    rw [hK]
    rcases hs with ⟨o, hs⟩ | ⟨o, its, n, hk, hc, _⟩
    · exact .base (.frz hs)
    · exact .kList hk hc
  | ref a =>
    obtain rfl := q.ref_inv
    unfold tyOf at e
    simp only at e
    cases ha : h a with
    | none => rw [ha] at e; cases e
    | some ob =>
      rw [ha] at e
      have ro := r a ob ha
      cases ob with
      | list vs => cases e; obtain ⟨ws, hH, _⟩ := ro; exact .base (.lst hH)
      | dict lk kvs =>
        cases lk with
        | false => cases e; obtain ⟨ws, hH, _⟩ := ro; exact .base (.dT hH)
        | true => cases e
      | inst c fs =>
        simp only at e
        split at e
        case isFalse => cases e
        rename_i hcc
        cases e
        obtain ⟨Ca, dx, fs', m, hH, _⟩ := ro
        obtain ⟨C, m2, i⟩ := hc c hcc
        rw [m] at m2; cases m2
        rw [hK]
        show TyX L.K H (.ref a) ((L.mg c).getD .none)
        rw [m]
        exact .base (.ins hH i.cl i.ha i.hn i.htk i.hm)
  | _ => cases e
theorem boot_ty (n : BT) (h : n ≠ .none) : bootBuiltins (Str.ofString n.name) = some (.type n.name) := by cases n <;> first | exact absurd rfl h | decide +kernel
theorem boot_isi : bootBuiltins ("isinstance" : Str) = some (.builtin "isinstance") := by decide +kernel
theorem Good.bm (g : Good X L T G W) {x : Str} (h : bltB G x = true) : X.mg x = none ∧ Gl X x ∧ okN x = true := by
  unfold bltB at h
  rw [Bool.and_eq_true, Bool.and_eq_true] at h
  exact ⟨by rw [← g.hmg]; exact g.tab.bl _ (by simpa using h.2), g.gl h.1.1, h.1.2⟩
/-- a class's name -/
theorem f_ty (g : Good X L T G W) {t : Ty} (h : tyB G t r = true) : ∃ c, PE X r (tC c) ∧ ClsV c (tyVal L t) ∧ ∀ d, t = .o d → G.isc.contains d = true ∧ ∃ ms, G.cls.lookup d = some ms := by
  cases t with
  | b n =>
    cases r <;> first | exact absurd h Bool.false_ne_true | skip
    unfold tyB at h
    rw [Bool.and_eq_true, Bool.and_eq_true] at h
    have h1 := of_decide_eq_true h.1.1
    obtain ⟨b1, b2, b3⟩ := g.bm h.2
    have e := of_decide_eq_true h.1.2
    exact ⟨.ty n.name, pe_bltn b2 b1 (by rw [e]; exact boot_ty n h1) rfl (okN_inv b3).2.2 (okN_inv b3).1, .ty _, fun d z => nomatch z⟩
  | o c =>
    cases r <;> first | exact absurd h Bool.false_ne_true | skip
    unfold tyB at h
    obtain ⟨h, hic⟩ := Bool.and_eq_true_iff.mp h
    rw [Bool.and_eq_true, Bool.and_eq_true, Bool.and_eq_true] at h
    have e := (of_decide_eq_true h.1.1.1).symm
    subst e
    cases hc : G.cls.lookup c with
    | none => rw [hc] at h; cases h.2
    | some ms =>
      obtain ⟨C, ct⟩ := g.tab.cl c ms hc
      refine ⟨.ref C, pe_glob (g.gl h.1.1.2) (by rw [← g.hmg]; exact ct.mg) rfl (okN_inv h.1.2).1, ?_, fun d z => ?_⟩
      · show ClsV (.ref C) ((L.mg c).getD .none)
        rw [ct.mg]; exact .own C
      · cases z; exact ⟨hic, ms, hc⟩
theorem kit_is (g : Good X L T G W) {t u : Ty} (h1 : ∀ d, t = .o d → T.cs.contains d = true ∧ ∃ ms, G.cls.lookup d = some ms) (h2 : ∀ d, u = .o d → G.isc.contains d = true ∧ ∃ ms, G.cls.lookup d = some ms) : PySem.W.kitOne L.K (tyVal L t) (tyVal L u) = some (isT t u) := by
  cases t with
  | b a =>
    cases u with
    | b n => exact kit_ty (kitB_all a a.mem n n.mem)
    | o c =>
      obtain ⟨hc, ms, e⟩ := h2 c rfl
      obtain ⟨C, ct⟩ := g.tab.cl c ms e
      show PySem.W.kitOne L.K (.type a.name) ((L.mg c).getD .none) = some false
      rw [ct.mg]; exact ct.b2 hc a
  | o d =>
    obtain ⟨hd, ns, e2⟩ := h1 d rfl
    obtain ⟨D, dt⟩ := g.tab.cl d ns e2
    cases u with
    | b n =>
      show PySem.W.kitOne L.K ((L.mg d).getD .none) (.type n.name) = some false
      rw [dt.mg]; exact (dt.b1 hd).2 n
    | o c =>
      obtain ⟨hc, ms, e⟩ := h2 c rfl
      obtain ⟨C, ct⟩ := g.tab.cl c ms e
      show PySem.W.kitOne L.K ((L.mg d).getD .none) ((L.mg c).getD .none) = some (decide (d = c))
      rw [dt.mg, ct.mg]
      show PySem.W.kitOne L.K (.ref D) (.ref C) = _
      by_cases z : d = c
      · subst z
        have e3 := dt.mg.symm.trans ct.mg
        cases e3
        rw [decide_eq_true rfl]
        unfold PySem.W.kitOne
        simp
      · rw [decide_eq_false z]; exact g.tab.cc d c ns ms D C e2 e hd hc z dt.mg ct.mg
theorem tyOf_o {cs : List Str} {h : HS} {v : Val} {d : Str} (e : tyOf cs h v = some (.o d)) : cs.contains d = true := by
  cases v <;> first | cases e | skip
  rename_i a
  unfold tyOf at e
  simp only at e
  split at e <;> first | cases e | skip
  split at e
  · rename_i q; cases e; exact q
  · cases e
theorem f_isi (g : Good X L T G W) {t : Ty} (hb : bltB G ("isinstance" : Str) = true) (hp : plainA l = true) (hr : plainA r = true) (ht : tyB G t r = true) (ha : PEw X L T W l a) : PEw X L T W (.Call (.Name ("isinstance" : Str) pos2) [l, r] [] pos) (.isi a t) := by
  obtain ⟨b1, b2, b3⟩ := g.bm hb
  obtain ⟨c, hc, cv, hd⟩ := f_ty g ht
  refine PE.fr (pe_callB call_isi b2 b1 boot_isi (pa_cons ha (pa_cons hc pa_nil (star_cons hr)) (star_cons hp)) (okN_inv b3).2.2 (okN_inv b3).1 (star_cons hp) (star_back (by simp [hr]))) fun σ H Q env h Q0 X0 p m q => .of p m fun x h1 v1 H1 ⟨b, e, m1⟩ s1 r1 => ?_
  unfold isI at e
  cases ho : tyOf T.cs h1 x with
  | none => rw [ho] at e; cases e
  | some u =>
    rw [ho] at e
    cases e
    have hu : ∀ d, u = .o d → T.cs.contains d = true ∧ ∃ ms, G.cls.lookup d = some ms := fun d z => by subst z; exact ⟨tyOf_o ho, g.tab.cs d (tyOf_o ho)⟩
    refine ⟨v1, c, _, _, isT u t, rfl, cv, tyX_of g.hK s1.rel r1 ho fun c' hc' => ?_, ?_, (q.ext s1).here s1.rel m1 (.bl _)⟩
    · obtain ⟨ms, z⟩ := g.tab.cs c' hc'
      obtain ⟨C, ct⟩ := g.tab.cl c' ms z
      exact ⟨C, ct.mg, (ct.b1 hc').1⟩
    · rw [g.hK]; exact kit_is g hu hd
end
end CS

/-! Cs12 -/
/-! Cs12: tests, what is walked, targets, list comprehensions. -/
namespace CS
open PySem PySem.Spec PyProof.Rows L2
section
variable {X : Cx} {L : Lk} {T : Tab} {G : Ctx} {W : WX} {pos pos2 pos3 pos4 : Pos} {l r e : Expr} {a b c : CS.E} {es : List Expr} {as : CS.Es}
/-! ### tests -/
theorem c_val (g : Good X L T G W) (ht : truA l = true) (ha : PEw X L T W l a) : PTw X L T W l (.val a) :=
  PT.fr (pt_truth ha (tru_is ht)) fun σ H Q env h Q0 X0 p m q => .of p m fun x h1 v1 H1 ⟨c, e, m1⟩ s1 r1 => ⟨c, truth_ok g.hK s1.rel r1 e, (q.ext s1).here s1.rel m1⟩
theorem c_cmp (g : Good X L T G W) {o : Cmp} (hm : noSet r = true) (ha : PEw X L T W l a) (hb : PEw X L T W r b) : PTw X L T W (.Compare l [cmpOf o] [r] pos) (.cmp o a b) :=
  PT.fr (pt_cmpR (cmp2_ok g.hK g.hu o) ha hb (noSet_in hm)) fun σ H Q env h Q0 X0 p m q => .of p m fun x h1 v1 H1 m1 s1 r1 => .of (p.go s1) m1 fun y h2 v2 H2 m2 s2 r2 =>
    ⟨_, _, _, _, s2.rel, r1.ext s2.ext, r2, m2, fun c k => ⟨c, rfl, (q.ext (s1.trans s2)).here s2.rel k⟩⟩
theorem c_chain (g : Good X L T G W) {o p' : Cmp} {z : Expr} (hm1 : noSet r = true) (hm : noSet z = true) (ha : PEw X L T W l a) (hb : PEw X L T W r b) (hc : PEw X L T W z c) : PTw X L T W (.Compare l [cmpOf o, cmpOf p'] [r, z] pos) (.chain o p' a b c) :=
  PT.fr (pt_chain (cmp2_ok g.hK g.hu o) (cmp2_ok g.hK g.hu p') ha hb hc (marks2 hm1 hm)) fun σ H Q env h Q0 X0 p m q => .of p m fun x h1 v1 H1 m1 s1 r1 => .of (p.go s1) m1 fun y h2 v2 H2 m2 s2 r2 =>
    ⟨_, _, _, _, s2.rel, r1.ext s2.ext, r2, m2, fun k hk => ⟨k, rfl, by
      cases k with
      | false => exact ⟨false, rfl, (q.ext (s1.trans s2)).here s2.rel hk⟩
      | true => exact .of ((p.go s1).go s2) hk fun u h3 v3 H3 m3 s3 r3 => ⟨_, _, _, _, s3.rel, r2.ext s3.ext, r3, m3, fun c k => ⟨c, rfl, (q.ext ((s1.trans s2).trans s3)).here s3.rel k⟩⟩⟩⟩
theorem c_not {a : CS.C} (ha : PTw X L T W l a) : PTw X L T W (.UnaryOp .Not l pos) (.not a) :=
  PT.fr (pt_not ha) fun σ H Q env h Q0 X0 p m q => .of p m fun k h1 H1 m1 s1 => (q.ext s1).here s1.rel m1
abbrev PWw (X : Cx) (L : Lk) (T : Tab) (W : WX) (e : Expr) (a : CS.C) : Prop := PW X e (tFB L W (wC T a))
theorem c_and {a b : CS.C} (ha : PTw X L T W l a) (hb : PWw X L T W (.BoolOp .And (r :: es) pos) b) : PWw X L T W (.BoolOp .And (l :: r :: es) pos) (.and a b) :=
  PW.fr (pw_and ha hb) fun σ H Q env h Q0 X0 p m q => .of p m fun k h1 H1 m1 s1 => by
    cases k with
    | true => exact .of (p.go s1) m1 (q.ext s1)
    | false => exact (q.ext s1).here s1.rel m1
theorem c_or {a b : CS.C} (ha : PTw X L T W l a) (hb : PWw X L T W (.BoolOp .Or (r :: es) pos) b) : PWw X L T W (.BoolOp .Or (l :: r :: es) pos) (.or a b) :=
  PW.fr (pw_or ha hb) fun σ H Q env h Q0 X0 p m q => .of p m fun k h1 H1 m1 s1 => by
    cases k with
    | false => exact .of (p.go s1) m1 (q.ext s1)
    | true => exact (q.ext s1).here s1.rel m1
abbrev PTsw (X : Cx) (L : Lk) (T : Tab) (W : WX) (es : List Expr) (a : CS.OC) : Prop := PTs X es (tFB L W (wOC T a))
theorem PTs.imp {es : List Expr} {t t' : TT} (p : PTs X es t) (k : ∀ σ H Q, t' σ H Q → t σ H Q) : PTs X es t' := ⟨fun pins s σ H Q I q => p.run pins s σ H Q I (k σ H Q q)⟩
theorem oc_no : PTsw X L T W [] .no := PTs.imp pts_nil fun σ H Q ⟨env, h, Q0, X0, re, rel, m, q, x⟩ => q.here rel m
theorem oc_so {a : CS.C} (ha : PTw X L T W l a) : PTsw X L T W [l] (.so a) := PTs.imp (pts_one ha) fun σ H Q z => z

/-! ### what is walked -/
/-- the turns of an iterator are the items, as long as ok -/
structure ItOk (L : Lk) (H0 : L2.Hp) (J : It) (vs : List Val) (ok : HS → Prop) : Prop where
  go : ∀ i h H, Rel L h H → TExt H0 H → ok h → i < vs.length → J.go i H
  yld : ∀ i h H x H', Rel L h H → TExt H0 H → ok h → i < vs.length → J.yld i H x H' → ∃ v, vs[i]? = some v ∧ Stp L h H h H' ∧ RV L H' x v
  stop : ∀ h H, Rel L h H → TExt H0 H → ok h → J.stop vs.length H
def tFI (L : Lk) (W : WX) (m : Env → HS → (List Val → (HS → Prop) → HS → Prop) → PX → Prop) : TI := fun σ H R => ∃ env h K0 X0, Pt L W σ env h H X0 ∧ m env h K0 X0 ∧ ∀ vs ok h' J H', K0 vs ok h' → Stp L h H h' H' → ItOk L H' J vs ok → R J H'
abbrev PIw (X : Cx) (L : Lk) (T : Tab) (W : WX) (tg e : Expr) (a : CS.Src) : Prop := PI X tg e (tFI L W (wSrc T a))
theorem PI.fr {tg e : Expr} {t : TI} {M : Env → HS → (List Val → (HS → Prop) → HS → Prop) → PX → Prop} (p : PI X tg e t) (k : ∀ σ H R env h K0 X0, Pt L W σ env h H X0 → M env h K0 X0 → (∀ vs ok h' J H', K0 vs ok h' → Stp L h H h' H' → ItOk L H' J vs ok → R J H') → t σ H R) : PI X tg e (tFI L W M) :=
  CS.PI.imp p fun σ H Q ⟨env, h, K0, X0, pt, m, q⟩ => k σ H Q env h K0 X0 pt m q
theorem itl_ok {H0 : L2.Hp} {a : Addr} {vs : List Val} {ok : HS → Prop} (k : ∀ h H, Rel L h H → TExt H0 H → ok h → ∃ ws, SqL L.K H a ws ∧ RVs L H ws vs) : ItOk L H0 (Itl L.K a) vs ok where
  go i h H r e o hi := by
    obtain ⟨ws, s, t⟩ := k h H r e o
    obtain ⟨w, hw, _⟩ := t.get (List.getElem?_eq_getElem hi)
    exact ⟨ws, w, s, hw⟩
  yld i h H x H' r e o hi y := by
    obtain ⟨ws, s, t⟩ := k h H r e o
    obtain ⟨rfl, z⟩ := y
    obtain ⟨v, hv, rv⟩ := t.get' (z ws s)
    exact ⟨v, hv, .refl r, rv⟩
  stop h H r e o := by
    obtain ⟨ws, s, t⟩ := k h H r e o
    exact ⟨ws, s, by rw [t.length]; exact Nat.le_refl _⟩
theorem itt_ok {H0 : L2.Hp} {a : Addr} {vs : List Val} {ok : HS → Prop} (k : ∀ h H, Rel L h H → TExt H0 H → ok h → ∃ ws, SqT L.K H a ws ∧ RVs L H ws vs) : ItOk L H0 (Itt L.K a) vs ok where
  go i h H r e o hi := by
    obtain ⟨ws, s, t⟩ := k h H r e o
    obtain ⟨w, hw, _⟩ := t.get (List.getElem?_eq_getElem hi)
    exact ⟨ws, w, s, hw⟩
  yld i h H x H' r e o hi y := by
    obtain ⟨ws, s, t⟩ := k h H r e o
    obtain ⟨rfl, z⟩ := y
    obtain ⟨v, hv, rv⟩ := t.get' (z ws s)
    exact ⟨v, hv, .refl r, rv⟩
  stop h H r e o := by
    obtain ⟨ws, s, t⟩ := k h H r e o
    exact ⟨ws, s, by rw [t.length]; exact Nat.le_refl _⟩
/-- a value's items, as they stand later -/
theorem seq_later {h0 : HS} {H0 : L2.Hp} {x : V} {v : Val} {vs : List Val} (r0 : Rel L h0 H0) (q : RV L H0 x v) (e : seqOf h0 v = some vs) :
    ∃ a, x = .ref a ∧ ((∀ h H, Rel L h H → TExt H0 H → stays h0 v h → ∃ ws, SqL L.K H a ws ∧ RVs L H ws vs) ∨ (∀ h H, Rel L h H → TExt H0 H → stays h0 v h → ∃ ws, SqT L.K H a ws ∧ RVs L H ws vs)) := by
  cases v with
  | tup us =>
    cases e
    obtain ⟨a, ws, rfl, hs, t⟩ := q.tup_inv
    exact ⟨a, rfl, .inr fun h H r x _ => ⟨ws, x.sqt hs, t.ext x⟩⟩
  | rol us =>
    cases e
    obtain ⟨a, ws, rfl, hs, t⟩ := q.rol_inv
    exact ⟨a, rfl, .inl fun h H r x _ => ⟨ws, (x.rol hs).sq, t.ext x⟩⟩
  | ref a =>
    obtain rfl := q.ref_inv
    refine ⟨a, rfl, .inl fun h H r x st => ?_⟩
    have st' : listAt h a = listAt h0 a := st
    obtain ⟨ws, hH, t⟩ := r.at (st'.trans e)
    exact ⟨ws, .of hH, t⟩
  | _ => cases e
theorem stays_here {h : HS} {v : Val} : stays h v h := by unfold stays; cases v <;> first | exact True.intro | rfl
theorem pi_seq {tg : Expr} {tl : TE} (hl : PE X l tl) : PI X tg l (fun σ H R => tl σ H fun x H1 => ∃ a, x = .ref a ∧ (((∃ xs, SqL X.K H1 a xs) ∧ R (Itl X.K a) H1) ∨ ((∃ xs, SqT X.K H1 a xs) ∧ R (Itt X.K a) H1))) := by
  refine ⟨fun pins s σ H R I hw => thn (hl.run pins s σ H _ I hw) fun v s1 ⟨x, H1, J, rx, a, ex, q⟩ => ?_⟩
  subst ex
  cases rx
  rcases q with ⟨⟨xs, hs⟩, q⟩ | ⟨⟨xs, hs⟩, q⟩
  · obtain ⟨its, _, pl, _⟩ := J.list hs
    exact wpAny_pyIter_list pl.isList (pi_one (tk := s1.toks) J _ (turn_list a _) ⟨_, Heap.get?_push_size _ rfl, rfl, rfl⟩ q)
  · obtain ⟨its, _, pl, _⟩ := J.tuple hs
    exact wpAny_pyIter_tuple (show s1.heap.IsTuple a its.toArray from pl) (pi_one (tk := s1.toks) J _ (turn_tuple a _) ⟨_, Heap.get?_push_size _ rfl, rfl, rfl⟩ q)
theorem s_ex (g : Good X L T G W) {tg : Expr} (ha : PEw X L T W l a) : PIw X L T W tg l (.ex a) :=
  PI.fr (pi_seq ha) fun σ H R env h K0 X0 p m q => .of p m fun x h1 v1 H1 ⟨vs, e, m1⟩ s1 r1 => by
    obtain ⟨b, ex, z⟩ := seq_later s1.rel r1 e
    rw [g.hK]
    refine ⟨b, ex, ?_⟩
    rcases z with z | z
    · obtain ⟨ws, s, _⟩ := z h1 H1 s1.rel (.refl _) stays_here
      exact .inl ⟨⟨ws, s⟩, q _ _ _ _ _ m1 s1 (itl_ok z)⟩
    · obtain ⟨ws, s, _⟩ := z h1 H1 s1.rel (.refl _) stays_here
      exact .inr ⟨⟨ws, s⟩, q _ _ _ _ _ m1 s1 (itt_ok z)⟩
theorem itr_ok {H0 : L2.Hp} {lo hi : Int} {n : Nat} (hn : n = (hi - lo).toNat) {ok : HS → Prop} : ItOk L H0 (Itr lo n) (rngV lo hi) ok where
  go i h H r e o hi' := by unfold rngV at hi'; rw [List.length_map, List.length_range] at hi'; show i < n; omega
  yld i h H x H' r e o hi' y := by
    unfold rngV at hi' ⊢
    rw [List.length_map, List.length_range] at hi'
    obtain ⟨rfl, rfl⟩ := y
    refine ⟨.int (lo + i), ?_, .refl r, .int _⟩
    rw [List.getElem?_map, List.getElem?_range hi']; rfl
  stop h H r e o := by unfold rngV; rw [List.length_map, List.length_range]; show n ≤ _; omega
theorem s_rng1 (g : Good X L T G W) {tg : Expr} (hb : bltB G ("range" : Str) = true) (hp : plainA l = true) (ha : PEw X L T W l a) : PIw X L T W tg (.Call (.Name ("range" : Str) pos2) [l] [] pos) (.rng1 a) := by
  obtain ⟨b1, b2, b3⟩ := g.bm hb
  exact PI.fr (pi_range1 b2 b1 (pa_cons ha pa_nil (star_cons hp)) (star_cons hp)) fun σ H R env h K0 X0 p m q => .of p m fun x h1 v1 H1 ⟨i, e, o, m1⟩ s1 r1 => by
    subst e
    obtain rfl := r1.int_inv
    exact ⟨i, rfl, o.1, o.2, q _ _ _ _ _ m1 s1 (itr_ok (by simp))⟩
theorem s_rng2 (g : Good X L T G W) {tg : Expr} (hb : bltB G ("range" : Str) = true) (hp : plainA l = true) (hr : plainA r = true) (ha : PEw X L T W l a) (hb' : PEw X L T W r b) : PIw X L T W tg (.Call (.Name ("range" : Str) pos2) [l, r] [] pos) (.rng2 a b) := by
  obtain ⟨b1, b2, b3⟩ := g.bm hb
  exact PI.fr (pi_range2 b2 b1 (pa_cons ha (pa_cons hb' pa_nil (star_cons hr)) (star_cons hp)) (by rw [star_cons hp, star_cons hr]; rfl) (star_cons hr)) fun σ H R env h K0 X0 p m q => .of p m fun x h1 v1 H1 m1 s1 r1 => .of (p.go s1) m1 fun y h2 v2 H2 ⟨i, j, e, e', o, o', m2⟩ s2 r2 => by
    subst e; subst e'
    obtain rfl := r1.int_inv
    obtain rfl := r2.int_inv
    exact ⟨i, j, rfl, ⟨o.1, o.2, o'.1, o'.2⟩, q _ _ _ _ _ m2 (s1.trans s2) (itr_ok rfl)⟩
end
end CS

/-! Cs13 -/
/-! Cs13: enumerate and zip of lists and tuples. -/
namespace CS
open PySem PySem.Spec PyProof.Rows L2
/-- a list (false), a tuple (true) -/
def SqA (K : PySem.W.Frag) (tu : Bool) (H : L2.Hp) (a : Addr) (xs : List V) : Prop := if tu = true then SqT K H a xs else SqL K H a xs
def ItA (tu : Bool) (h : Heap) (it a : Addr) (i : Nat) : Prop := if tu = true then h.IsTupleIter it a i else h.IsListIter it a i
def SeA (tu : Bool) (h : Heap) (a : Addr) (items : Array Value) : Prop := if tu = true then h.IsTuple a items else h.IsList a items
def itO (tu : Bool) (a : Addr) : PySem.Obj := if tu = true then { cls := .type "tuple_iterator", data := .fields #[.ref a, .int 0 0] } else { cls := .type "list_iterator", data := .fields #[.ref a, .int 0 0] }
theorem begA (tu : Bool) (a : Addr) (items : Array Value) : Begins (.ref a) (itO tu a) (fun h => SeA tu h a items) := by
  cases tu
  · exact begins_list a items
  · exact begins_tuple a items
theorem drA {prog : Program} {w : World} {A : Around} (hh : A.handled = none) (tu : Bool) (it l : Addr) (hne : l ≠ it) (items : Array Value) : Draws prog w A it [it, l] items.size (fun i v => items[i]? = some v) (fun i h => ItA tu h it l i ∧ SeA tu h l items) := by
  cases tu
  · exact Draws.list hh it l hne items
  · exact Draws.tuple hh it l hne items
section
variable {X : Cx} {pins : List (Addr × PySem.Obj)} {σ : L2.St} {H : L2.Hp} {s : Shared} {tu : Bool} {a it : Addr} {xs ys : List V}
theorem sqA_at (I : Inv X pins σ H s) (h : SqA X.K tu H a xs) : ∃ its : List Value, Vals xs its ∧ SeA tu s.heap a its.toArray ∧ xs.length ≤ sizeLine := by
  cases tu
  · obtain ⟨its, r, p, z⟩ := I.list h
    exact ⟨its, r, p.isList, z⟩
  · obtain ⟨its, r, p, z⟩ := I.tuple h
    exact ⟨its, r, p, z⟩
theorem sqA_inj (I : Inv X pins σ H s) (h : SqA X.K tu H a xs) (h' : SqA X.K tu H a ys) : xs = ys := by
  cases tu
  · exact I.list_inj h h'
  · exact I.tuple_inj h h'
theorem itA_obj {h : Heap} {i : Nat} (x : ItA tu h it a i) : ∃ o, h.get? it = some o ∧ ∀ v, o.data ≠ .cell v := by
  cases tu
  · obtain ⟨o, e, _, d⟩ := x
    exact ⟨o, e, fun v z => by rw [d] at z; cases z⟩
  · obtain ⟨o, e, _, d⟩ := x
    exact ⟨o, e, fun v z => by rw [d] at z; cases z⟩
theorem itA_keep {h h' : Heap} {i : Nat} (x : ItA tu h it a i) (k : ∀ o, h.get? it = some o → h'.get? it = some o) : ItA tu h' it a i := by
  cases tu
  · obtain ⟨o, e, r⟩ := x
    exact ⟨o, k o e, r⟩
  · obtain ⟨o, e, r⟩ := x
    exact ⟨o, k o e, r⟩
theorem seA_ne {h : Heap} {items : Array Value} {e : Addr} {o : PySem.Obj} (x : SeA tu h a items) (ho : h.get? e = some o) (h1 : o.cls ≠ .type "list") (h2 : o.cls ≠ .type "tuple") : a ≠ e := by
  intro z
  subst z
  cases tu
  · obtain ⟨o', e', c, _⟩ := x
    rw [ho] at e'; cases e'
    exact h1 c
  · obtain ⟨o', e', c, _⟩ := x
    rw [ho] at e'; cases e'
    exact h2 c
theorem itA_cls {h : Heap} {i : Nat} (x : ItA tu h it a i) : ∃ o, h.get? it = some o ∧ o.cls ≠ .type "list" ∧ o.cls ≠ .type "tuple" := by
  cases tu
  · obtain ⟨o, e, c, _⟩ := x
    exact ⟨o, e, by rw [c]; decide, by rw [c]; decide⟩
  · obtain ⟨o, e, c, _⟩ := x
    exact ⟨o, e, by rw [c]; decide, by rw [c]; decide⟩
end
/-- each item of the sequence at a, counted -/
def Itea (K : PySem.W.Frag) (tu : Bool) (a : Addr) : It :=
  ⟨fun i H => ∃ (xs : List V) (x : V), SqA K tu H a xs ∧ xs[i]? = some x, fun i H v H' => ∃ T x, v = .ref T ∧ H T = none ∧ H' = upd H T (.tup [.int (i : Nat), x]) ∧ ∀ xs, SqA K tu H a xs → xs[i]? = some x, fun i H => ∃ xs : List V, SqA K tu H a xs ∧ xs.length = i⟩
theorem turn_enumA {P : Program} {w : World} {K : PySem.W.Frag} {elts : List Expr} {kk : Nat} {tpos : Pos} (tu : Bool) (a e it : Addr) :
    Turn P w K (.Tuple elts kk tpos) (Itea K tu a) [e, it] e (fun i h => (∃ old, IsEnum h e it ((i : Nat) : Int) old) ∧ ItA tu h it a i ∧ e ≠ it) where
  mem := by simp
  obj := fun i h ⟨⟨old, he⟩, hi, _⟩ b hb => by
    rcases (show b = e ∨ b = it by simpa using hb) with z | z
    · subst z; exact ⟨_, he, fun v q => nomatch q⟩
    · subst z; exact itA_obj hi
  keep := fun i h h' ⟨⟨old, he⟩, hi, hne⟩ k => ⟨⟨old, k e (by simp) _ he⟩, itA_keep hi fun o q => k it (by simp) o q, hne⟩
  item := by
    rintro X rfl rfl rfl calm i pins s σ H E I hf ⟨⟨old, he⟩, hit, hne⟩ ⟨xs, x, hq, hx⟩
    obtain ⟨its, rv, p, _⟩ := sqA_at I hq
    obtain ⟨u, hu, ru⟩ := rv.get hx
    obtain ⟨oi, hoi, c1, c2⟩ := itA_cls hit
    have nae : a ≠ e := seA_ne p he (show Value.type "enumerate" ≠ .type "list" by decide) (show Value.type "enumerate" ≠ .type "tuple" by decide)
    have nai : a ≠ it := seA_ne p hoi c1 c2
    have hel : e < s.heap.objs.size := Heap.lt_size he
    have hil : it < s.heap.objs.size := Heap.lt_size hoi
    have hsz : i < its.toArray.size := by
      rw [List.size_toArray]
      exact (List.getElem?_eq_some_iff.mp hu).1
    refine wpAny_pyNext_enum_itemD (drA (A := X.A.in1) (I.ok.hd calm) tu it a nai its.toArray) he ⟨hit, p⟩ hsz hne (by simp only [List.mem_cons, List.not_mem_nil, or_false, not_or]; exact ⟨hne, Ne.symm nae⟩) fun y h1 tk hy ho hst hT hz1 hk => ?_
    have ey : y = u := by
      have hy' : its.toArray[i]? = some y := hy
      rw [List.getElem?_toArray, hu] at hy'
      exact (Option.some.inj hy').symm
    subst ey
    refine ⟨_, rfl, wpAny_letOwnedTupleGo_enum (s := { s with heap := h1, toks := tk + 1 }) ho fun h2 he2 sb => ?_⟩
    have hT2 : h2.get? s.heap.objs.size = some { cls := .type "tuple", data := .seq #[.int i tk, y] } := (sb.2 _ (Nat.ne_of_gt hel)).trans hT
    have J : Inv X pins σ (upd H s.heap.objs.size (.tup [.int (i : Nat), x])) { s with heap := h2, toks := tk + 1 } := by
      refine I.turnedNew (ch := [e, it]) (fun b ob hb q => ?_) hf (Nat.le_refl _) ⟨by show 2 ≤ sizeLine; decide, [.int i tk, y], .cons ⟨_, rfl⟩ (.cons ru .nil), ⟨_, hT2, rfl, _, rfl⟩⟩
      have b1 : b ≠ e := fun z => hb (by simp [z])
      have b2 : b ≠ it := fun z => hb (by simp [z])
      exact (sb.2 b b1).trans (hk b ob b1 b2 q)
    refine ⟨.ref s.heap.objs.size, _, J, rfl, ⟨_, x, rfl, I.hok.fresh (Nat.le_refl _), rfl, fun zs hz => by rw [sqA_inj I hz hq]; exact hx⟩, ⟨⟨y, ?_⟩, itA_keep hst.1 fun o q => (sb.2 it (Ne.symm hne)).trans q, hne⟩, fun b hb => ?_⟩
    · rw [show ((i + 1 : Nat) : Int) = (i : Int) + 1 by omega]
      exact he2
    · have lt : b < s.heap.objs.size := by
        rcases (show b = e ∨ b = it by simpa using hb) with z | z
        · rw [z]; exact hel
        · rw [z]; exact hil
      rw [upd_ne (Nat.ne_of_lt lt)]
      exact (hf b hb).1
  done := by
    rintro X rfl rfl rfl calm i pins s σ H E I hf ⟨⟨old, he⟩, hit, hne⟩ ⟨xs, hq, hx⟩
    obtain ⟨its, rv, p, _⟩ := sqA_at I hq
    obtain ⟨oi, hoi, c1, c2⟩ := itA_cls hit
    have nai : a ≠ it := seA_ne p hoi c1 c2
    obtain ⟨f0, f1, f2, f3, f4, f5⟩ := hf it (by simp)
    have hn : its.toArray.size = i := by rw [List.size_toArray, ← rv.length]; exact hx
    subst hn
    exact wpAny_pyNext_enum_endD (drA (A := X.A.in1) (I.ok.hd calm) tu it a nai its.toArray) he ⟨hit, p⟩ fun h' eb => ⟨rfl, I.turned (t' := s.toks) (fun b o hb q => eb b o hb q) f0 f1 f3 f4 f5⟩
  self := fun A i s Q E ⟨⟨old, he⟩, _⟩ h => wpAny_pyIter_enum he h
set_option maxHeartbeats 1000000 in
/-- enumerate's iterator, of whatever has a begin -/
theorem enum_new1 {v : Value} {o : PySem.Obj} {P : Heap → Prop} (B : Begins v o P) : Meets (Builtin.«enumerate.__new__» ⟨[.type "enumerate", v], []⟩) (fun _ R s => P s.heap ∧
      R (.ok (.ret (.ref (s.heap.push o).objs.size))) { s with heap := (s.heap.push o).push { cls := .type "enumerate", data := .fields #[.none, .bool false, .ref s.heap.objs.size, rawInt 0, .none, .none] } }) := by
  refine .of_wp fun prog w A R s hs => ?_
  obtain ⟨hp, g, d, tk, os⟩ := s
  obtain ⟨h1, h⟩ := hs
  have hsub := sub_enumerate
  have q1 : ∀ {A' : Around} {E : Value → Shared → Prop} {Q : Value → Shared → Prop}, Q (.ref hp.objs.size) ⟨hp.push o, g, d, tk, os⟩ → wpAny (model prog w) A' (pyIter v) Q E ⟨hp, g, d, tk, os⟩ :=
    fun q => B.iter prog w _ _ ⟨hp, g, d, tk, os⟩ _ h1 q
  wp_walk using q1
  refine wpAny_stack_any fun st => wpAny_pure ?_
  split
  · rename_i c _ _ _ _ _
    cases (c == Value.type "enumerate") <;> (wp_walk using q1; exact ⟨_, rfl, h⟩)
  · wp_walk using q1
    exact ⟨_, rfl, h⟩
theorem call_enum1 {prog : Program} {w : World} {A : Around} {E : Value → Shared → Prop} {s : Shared} {v : Value} {o : PySem.Obj} {P : Heap → Prop} {Q : Value → Shared → Prop} (B : Begins v o P) (h1 : P s.heap)
    (k : ∀ h', IsEnum h' (s.heap.objs.size + 1) s.heap.objs.size 0 .none → h'.get? s.heap.objs.size = some o → (∀ b ob, s.heap.get? b = some ob → h'.get? b = some ob) → Q (.ref (s.heap.objs.size + 1)) { s with heap := h' }) :
    wpAny (model prog w) A (call (.type "enumerate") [v]) Q E s := by
  have hz : (s.heap.push o).objs.size = s.heap.objs.size + 1 := Heap.size_push ..
  have he := Heap.get?_push_size (s.heap.push o) (o := { cls := .type "enumerate", data := .fields #[.none, .bool false, .ref s.heap.objs.size, rawInt 0, .none, .none] }) rfl
  refine callType_new F.called_enumerate (by decide) (F.typeCall_enumerate_1 _) (F.newCall_enumerate_1 _) (fun obj => F.args_object_init_2 obj _) F.entry_enumerate_new (enum_new1 B) ⟨h1, ?_⟩
  rw [hz] at he
  show _ ∧ _
  rw [hz]
  exact ⟨⟨_, he, rfl⟩, k _ he (Heap.get?_push_of_some _ (Heap.get?_push_size _ B.free)) fun b ob e => Heap.get?_push_of_some _ (Heap.get?_push_of_some _ e)⟩
theorem itA_new {tu : Bool} {h : Heap} {it a : Addr} (e : h.get? it = some (itO tu a)) : ItA tu h it a 0 := by
  cases tu
  · exact ⟨_, e, rfl, rfl⟩
  · exact ⟨_, e, rfl, rfl⟩
/-- for i, x in enumerate(e): e a list or a tuple -/
theorem pi_enumA {X : Cx} {e : Expr} {ta : TA} {p pos tpos : Pos} {elts : List Expr} {kk : Nat} (hg : Gl X "enumerate") (hm : X.mg "enumerate" = none) (ha : PA X [e] ta) (hp : plainA e = true) :
    PI X (.Tuple elts kk tpos) (.Call (.Name "enumerate" p) [e] [] pos) (fun σ H R => ta σ H fun vs H1 => ∃ a tu xs, vs = [.ref a] ∧ SqA X.K tu H1 a xs ∧ R (Itea X.K tu a) H1) := by
  refine ⟨fun pins s σ H R I hw => Call_ (ld_blt I hg hm boot_enumerate (PyProof.Rows.callWith_type1 (thn (ha.run pos pins s σ H _ I hw) ?_) (star_cons hp) rfl))⟩
  rintro us s1 ⟨vs, H1, J, r, a, tu, xs, rfl, hq, q⟩
  obtain ⟨u, rfl, ru⟩ := r.one
  cases ru
  obtain ⟨its, _, sa, _⟩ := sqA_at J hq
  refine call_enum1 (begA tu a its.toArray) sa fun h' he ho hk => wpAny_pyIter_enum he ?_
  refine ⟨s1.heap.objs.size + 1, [s1.heap.objs.size + 1, s1.heap.objs.size], _, _, H1, rfl, J.kept (t' := s1.toks) hk, turn_enumA tu a (s1.heap.objs.size + 1) s1.heap.objs.size, ⟨⟨.none, he⟩, itA_new ho, Nat.succ_ne_self _⟩, fun b hb => ?_, q⟩
  have le : s1.heap.objs.size ≤ b := by
    rcases (show b = s1.heap.objs.size + 1 ∨ b = s1.heap.objs.size by simpa using hb) with z | z
    · rw [z]; exact Nat.le_succ _
    · rw [z]; exact Nat.le_refl _
  exact J.fpOk le (J.hok.fresh le)
section
variable {X : Cx} {L : Lk} {T : Tab} {G : Ctx} {W : WX} {pos pos2 pos3 pos4 : Pos} {l r e : Expr} {a b c : CS.E} {elts : List Expr} {kk : Nat}
theorem mapIdx_at {vs : List Val} {f : Nat → Val → Val} {i : Nat} {v : Val} (h : vs[i]? = some v) : (vs.mapIdx f)[i]? = some (f i v) := by
  rw [List.getElem?_mapIdx, h]; rfl
theorem itea_ok {H0 : L2.Hp} {tu : Bool} {a : Addr} {vs : List Val} {ok : HS → Prop} (k : ∀ h H, Rel L h H → TExt H0 H → ok h → ∃ ws, SqA L.K tu H a ws ∧ RVs L H ws vs) : ItOk L H0 (Itea L.K tu a) (vs.mapIdx fun k v => .tup [.int (k : Int), v]) ok where
  go i h H r e o hi := by
    rw [List.length_mapIdx] at hi
    obtain ⟨ws, s, t⟩ := k h H r e o
    obtain ⟨w, hw, _⟩ := t.get (List.getElem?_eq_getElem hi)
    exact ⟨ws, w, s, hw⟩
  yld i h H x H' r e o hi y := by
    obtain ⟨ws, s, t⟩ := k h H r e o
    obtain ⟨p, w, rfl, hp, rfl, z⟩ := y
    obtain ⟨v, hv, rv⟩ := t.get' (z ws s)
    exact ⟨_, mapIdx_at hv, .more r hp, .tup upd_same (.cons (.int _) (.cons (rv.ext (.upd_new hp)) .nil))⟩
  stop h H r e o := by
    obtain ⟨ws, s, t⟩ := k h H r e o
    exact ⟨ws, s, by rw [t.length, List.length_mapIdx]⟩
theorem seq_laterA {h0 : HS} {H0 : L2.Hp} {x : V} {v : Val} {vs : List Val} (r0 : Rel L h0 H0) (q : RV L H0 x v) (e : seqOf h0 v = some vs) :
    ∃ a tu, x = .ref a ∧ ∀ h H, Rel L h H → TExt H0 H → stays h0 v h → ∃ ws, SqA L.K tu H a ws ∧ RVs L H ws vs := by
  obtain ⟨a, ex, z | z⟩ := seq_later r0 q e
  · exact ⟨a, false, ex, z⟩
  · exact ⟨a, true, ex, z⟩
theorem s_enum (g : Good X L T G W) {tpos : Pos} (hb : bltB G ("enumerate" : Str) = true) (hp : plainA l = true) (ha : PEw X L T W l a) : PIw X L T W (.Tuple elts kk tpos) (.Call (.Name ("enumerate" : Str) pos2) [l] [] pos) (.enum a) := by
  obtain ⟨b1, b2, b3⟩ := g.bm hb
  refine PI.fr (pi_enumA b2 b1 (pa_cons ha pa_nil (star_cons hp)) hp) fun σ H R env h K0 X0 p m q => .of p m fun x h1 v1 H1 ⟨vs, e, m1⟩ s1 r1 => ?_
  obtain ⟨b, tu, ex, z⟩ := seq_laterA s1.rel r1 e
  subst ex
  obtain ⟨ws, s, _⟩ := z h1 H1 s1.rel (.refl _) stays_here
  rw [g.hK]
  exact ⟨b, tu, ws, rfl, s, q _ _ _ _ _ m1 s1 (itea_ok z)⟩
end
end CS

/-! Cs14 -/
/-! Cs14: targets, list comprehensions. -/
namespace CS
open PySem PySem.Spec PyProof.Rows L2
/-- the same slots but at sl -/
def Sms (sl : List Nat) (σ σ' : L2.St) : Prop := σ'.length = σ.length ∧ ∀ i, i ∉ sl → σ'[i]? = σ[i]?
theorem Sms.refl {sl : List Nat} {σ : L2.St} : Sms sl σ σ := ⟨rfl, fun _ _ => rfl⟩
theorem Sms.trans {sl sm : List Nat} {σ σ' σ'' : L2.St} (a : Sms sl σ σ') (b : Sms sm σ' σ'') : Sms (sl ++ sm) σ σ'' :=
  ⟨b.1.trans a.1, fun i h => by rw [List.mem_append, not_or] at h; exact (b.2 i h.2).trans (a.2 i h.1)⟩
theorem Sms.mono {sl sm : List Nat} {σ σ' : L2.St} (a : Sms sl σ σ') (h : ∀ i ∈ sl, i ∈ sm) : Sms sm σ σ' := ⟨a.1, fun i hi => a.2 i fun z => hi (h i z)⟩
theorem wipe_at (σ : L2.St) : ∀ (sl : List Nat) (i : Nat), (L2.wipe σ sl)[i]? = if i ∈ sl then (if i < σ.length then some none else none) else σ[i]?
  | [], i => by simp [L2.wipe]
  | v :: sl, i => by
    unfold L2.wipe
    by_cases h : v = i
    · subst h
      rw [List.getElem?_set]
      simp [wipe_length]
    · rw [List.getElem?_set_ne h, wipe_at σ sl i]
      simp [List.mem_cons, Ne.symm h]
theorem Sms.wipe {sl : List Nat} {σ σ' : L2.St} (a : Sms sl σ σ') : L2.wipe σ' sl = L2.wipe σ sl := by
  apply List.ext_getElem?
  intro i
  rw [wipe_at, wipe_at, a.1]
  by_cases h : i ∈ sl
  · rw [if_pos h, if_pos h]
  · rw [if_neg h, if_neg h]; exact a.2 i h
theorem wipe_wipe (σ : L2.St) (sl : List Nat) : L2.wipe (L2.wipe σ sl) sl = L2.wipe σ sl := by
  apply List.ext_getElem?
  intro i
  rw [wipe_at, wipe_at, wipe_length]
  by_cases h : i ∈ sl
  · rw [if_pos h, if_pos h]
  · rw [if_neg h, if_neg h]
/-- a target's reading -/
def tFG (L : Lk) (sl : List Nat) (m : Val → Env → HS → (Env → HS → Prop) → Prop) : TG := fun x σ H Q => ∃ v env h K0, RE L H σ env ∧ Rel L h H ∧ RV L H x v ∧ m v env h K0 ∧ ∀ env' h' σ' H', K0 env' h' → Stp L h H h' H' → RE L H' σ' env' → Sms sl σ σ' → Q σ' H'
def tFGs (L : Lk) (sl : List Nat) (m : List Val → Env → HS → (Env → HS → Prop) → Prop) : TGs := fun xs σ H Q => ∃ vs env h K0, RE L H σ env ∧ Rel L h H ∧ RVs L H xs vs ∧ m vs env h K0 ∧ ∀ env' h' σ' H', K0 env' h' → Stp L h H h' H' → RE L H' σ' env' → Sms sl σ σ' → Q σ' H'
theorem PGs.imp {X : Cx} {es : List Expr} {t t' : TGs} (p : PGs X es t) (k : ∀ v σ H Q, t' v σ H Q → t v σ H Q) : PGs X es t' := ⟨fun pins s σ H vs us Q I r q => p.run pins s σ H vs us Q I r (k vs σ H Q q)⟩
section
variable {X : Cx} {L : Lk} {T : Tab} {G : Ctx} {W : WX} {pos pos2 pos3 pos4 : Pos} {l r e : Expr} {a b c : CS.E}
abbrev PGw (X : Cx) (L : Lk) (T : Tab) (e : Expr) (a : CS.G) : Prop := PG X e (tFG L (gSl a) (wG T a))
abbrev PGsw (X : Cx) (L : Lk) (T : Tab) (es : List Expr) (a : CS.Gs) : Prop := PGs X es (tFGs L (gsSl a) (wGs T a))
theorem g_name (g : Good X L T G W) {i : Nat} {x : Str} (hN : G.N[i]? = some x) (hl : locB G.sc x = true) : PGw X L T (.Name x pos) (.name i) := by
  obtain ⟨h1, h2⟩ := g.loc hl
  refine CS.PG.imp (pg_name g.nd (by rw [g.N]; exact hN) h1 h2) fun x σ H Q ⟨v, env, h, K0, re, rel, rv, m, q⟩ => ?_
  refine q _ _ _ _ m (.refl rel) (re.set rv) ⟨List.length_set .., fun j hj => ?_⟩
  rw [List.getElem?_set_ne]
  intro z
  exact hj (by subst z; exact List.mem_singleton.mpr rfl)
theorem gs_nil : PGsw X L T [] .nil := PGs.imp pgs_nil fun xs σ H Q ⟨vs, env, h, K0, re, rel, rv, m, q⟩ => by
  obtain ⟨rfl, m⟩ := m
  exact ⟨rv.nil_inv, q _ _ _ _ m (.refl rel) re .refl⟩
theorem gs_cons {g : CS.G} {gs : CS.Gs} {es : List Expr} (hp : plainA e = true) (h1 : PGw X L T e g) (h2 : PGsw X L T es gs) : PGsw X L T (e :: es) (.cons g gs) :=
  PGs.imp (pgs_cons h1 h2 (by rw [tgt_cons hp]; rfl)) fun xs σ H Q ⟨vs, env, h, K0, re, rel, rv, m, q⟩ => by
    obtain ⟨v, r, rfl, m⟩ := m
    cases rv with
    | cons r1 r2 =>
      exact ⟨_, _, rfl, v, env, h, _, re, rel, r1, m, fun env' h' σ' H' k st re' sm => ⟨r, env', h', K0, re', st.rel, r2.ext st.ext, k, fun env2 h2 σ2 H2 k2 st2 re2 sm2 => q _ _ _ _ k2 (st.trans st2) re2 (sm.trans sm2)⟩⟩
theorem g_tup (g : Good X L T G W) {gs : CS.Gs} {es : List Expr} {k} (hp : es.all plainA = true) (hl : gs.len = es.length) (h : PGsw X L T es gs) : PGw X L T (.Tuple es k pos) (.tup gs) := by
  have hk := g.hK
  refine CS.PG.imp (pg_tup g.calm h (tgt_len hp).1 (tgt_len hp).2) fun x σ H Q ⟨v, env, h, K0, re, rel, rv, m, q⟩ => ?_
  obtain ⟨vs, rfl, hz, m⟩ := m
  obtain ⟨a, ws, rfl, hs, t⟩ := rv.tup_inv
  rw [hk]
  exact ⟨a, ws, rfl, hs, by rw [t.length, hz]; exact hl, vs, env, h, K0, re, rel, t, m, q⟩
theorem g_sub (g : Good X L T G W) (hs : noSl r = true) (ha : PEw X L T W l a) (hb : PEw X L T W r b) : PGw X L T (.Subscript l r pos) (.sub a b) :=
  CS.PG.imp (pg_sub ha hb (set_ok g.hu) (sub_assign hs)) fun x σ H Q ⟨v, env, h, K0, re, rel, rv, m, q⟩ => by
    have p : Pt L W σ env h H (fun _ _ => False) := ⟨re, rel, .no⟩
    exact .of p m fun o h1 xo H1 m1 s1 r1 => .of (p.go s1) m1 fun i h2 xi H2 m2 s2 r2 => ⟨h2, o, i, v, _, s2.rel, r1.ext s2.ext, r2, (rv.ext s1.ext).ext s2.ext, m2, fun h3 H3 k s3 =>
      q env h3 σ H3 k ((s1.trans s2).trans s3) (re.ext (((s1.trans s2).trans s3).ext)) .refl⟩

/-! ### list comprehensions -/
theorem lookup_rel_free {sc : Scope} {x : Str} : ∀ {names : List (Str × NameKind)}, names.lookup x = some .free →
    (names.map fun (n, k) => if (k == NameKind.free && sc.kind == .function && sc.names.lookup n == some .cell) then (n, NameKind.cell) else (n, k)).lookup x = some .free ∨
    (names.map fun (n, k) => if (k == NameKind.free && sc.kind == .function && sc.names.lookup n == some .cell) then (n, NameKind.cell) else (n, k)).lookup x = some .cell
  | [], h => by simp at h
  | (n, k) :: r, h => by
    show List.lookup x ((if (k == NameKind.free && sc.kind == .function && sc.names.lookup n == some .cell) then (n, NameKind.cell) else (n, k)) :: r.map _) = _ ∨ List.lookup x ((if (k == NameKind.free && sc.kind == .function && sc.names.lookup n == some .cell) then (n, NameKind.cell) else (n, k)) :: r.map _) = _
    cases hx : x == n with
    | false =>
      have h' : r.lookup x = some .free := by simpa [List.lookup_cons, hx] using h
      have ih := lookup_rel_free (sc := sc) h'
      split <;> simpa [List.lookup_cons, hx] using ih
    | true =>
      have h' : k = .free := by simpa [List.lookup_cons, hx] using h
      split
      · right; simp [List.lookup_cons, hx]
      · left; simp [List.lookup_cons, hx, h']
theorem BlkOk.up {N : List Str} {sc sc' scope : Scope} {own : List (Str × Nat)} (b : BlkOk N sc scope own) (h : ∀ x k, sc.names.lookup x = some k → sc'.names.lookup x = some k ∨ (k = .free ∧ sc'.names.lookup x = some .cell)) : BlkOk N sc' scope own where
  kind := b.kind
  uniq := b.uniq
  ix := b.ix
  own := b.own
  free y hy e := by
    rcases b.free y hy e with z | z
    · rcases h _ _ z with q | ⟨q, _⟩
      · exact .inl q
      · cases q
    · rcases h _ _ z with q | ⟨_, q⟩
      · exact .inr q
      · exact .inl q
theorem Good.blk (g : Good X L T G W) {sc : Scope} {own : List (Str × Nat)} (hb : blkC G.N G.sc sc own = true) (s : Shared) (H : L2.Hp) (C : Addr) (cl : List (Str × Addr)) (fp : List Addr) :
    Good (X.blk s H sc (compEnvC sc cl C X.env) fp) L T (G.blk sc) (fun _ _ _ _ => False) where
  kind := (blkOk_by hb).kind
  hL := g.hL
  calm := g.calm
  nd := g.nd
  N := g.N
  scl x k e := by
    by_cases hk : k = .free
    · subst hk
      rcases lookup_rel_free (sc := X.env.scope) e with z | z
      · exact .inl z
      · exact .inr ⟨rfl, z⟩
    · exact .inl (lookup_relS_keep hk e)
  fnc x e := by show (sc.names.lookup x == some NameKind.cell) = true; rw [show sc.names.lookup x = some .cell from e]; rfl
  tk := takes0
  own := .never
  room := g.room
  tab := ⟨g.tab.fn, fun c ms h => let ⟨D, ct⟩ := g.tab.cl c ms h; ⟨D, ⟨ct.mg, ct.is, ct.fl, ct.me, ct.nw, ct.b1, ct.b2⟩⟩, g.tab.cc, g.tab.gl, g.tab.bl, g.tab.cs⟩
theorem Good.bok (g : Good X L T G W) {sc : Scope} {own : List (Str × Nat)} (hb : blkC G.N G.sc sc own = true) : BlkOk X.N X.env.scope sc own := by
  rw [g.N]; exact CS.BlkOk.up (blkOk_by hb) g.scl
theorem RE.wiped {H : L2.Hp} {σ : L2.St} {env : Env} (own : List Nat) (re : RE L H σ env) : RE L H (L2.wipe σ own) (CS.wipe env own) := re.wipe own
/-- a turn's end: the new list grows -/
theorem Stp.grow {h0 h : HS} {H0 H : L2.Hp} (s : Stp L h0 H0 h H) {D : Addr} {u w : HO} (d0 : H0 D = none) (d1 : h D = none) (d2 : H D = some u) (mu : Mu u) : Stp L h0 H0 h (upd H D w) where
  ext := s.ext.trans (.upd_mut d2 mu)
  rel a o e := by
    have ne : a ≠ D := fun z => by rw [z, d1] at e; cases e
    exact (s.rel a o e).ext (.upd_mut d2 mu) (upd_ne ne)
  fr b o e1 e2 := by
    obtain ⟨z1, z2⟩ := s.fr b o e1 e2
    have ne : b ≠ D := fun z => by rw [z, d0] at e2; cases e2
    exact ⟨by rw [upd_ne ne]; exact z1, z2⟩
/-- the list is the program's own -/
theorem Stp.own {h0 h : HS} {H0 H : L2.Hp} (s : Stp L h0 H0 h H) {D : Addr} {ws : List V} {vs : List Val} (d0 : H0 D = none) (d2 : H D = some (.lst ws)) (t : RVs L H ws vs) : Stp L h0 H0 (h.up D (.list vs)) H where
  ext := s.ext
  rel a o e := by
    unfold HS.up at e
    by_cases c : a = D
    · rw [if_pos c] at e
      cases e
      rw [c]
      exact ⟨ws, d2, t⟩
    · rw [if_neg c] at e; exact s.rel a o e
  fr b o e1 e2 := by
    obtain ⟨z1, z2⟩ := s.fr b o e1 e2
    have ne : b ≠ D := fun z => by rw [z, d0] at e2; cases e2
    exact ⟨z1, by unfold HS.up; rw [if_neg ne]; exact z2⟩
theorem own_ix (N : List Str) (own : List Nat) : (ownP N own).map (·.2) = own := by
  unfold ownP
  rw [List.map_map]
  exact List.map_id _
def lcStep (T : Tab) (x : CS.E) (gt : CS.G) (oc : CS.OC) (env : Env) : Val → HS → (Option Val → HS → Prop) → Prop := fun v h2 K =>
  wG T gt v env h2 (fun e3 h3 => wOC T oc e3 h3 (fun b h4 => if b = true then wE T x e3 h4 (fun y h5 => K (some y) h5) (fun _ _ => False) else K none h4) (fun _ _ => False))
theorem lc_read {x : CS.E} {gt : CS.G} {src : CS.Src} {oc : CS.OC} {own : List Nat} {σ : L2.St} {env : Env} {h : HS} {H : L2.Hp} {X0 : PX} {Q : VK} {Q0 : PV} (hsl : (gSl gt).all own.contains = true) (p : Pt L W σ env h H X0) (m : wE T (.lc x gt src oc own) env h Q0 X0) (q : QW L Q h H Q0) :
    tLc (tFI L W (wSrc T src)) (tFG L (gSl gt) (wG T gt)) (tFB L (fun _ _ _ _ => False) (wOC T oc)) (tF L (fun _ _ _ _ => False) (wE T x)) own σ H Q := by
  refine ⟨env, h, fun vs ok h1 => vs.length ≤ cap ∧ lcW (lcStep T x gt oc (CS.wipe env own)) ok vs h1 [] (fun acc h2 => new h2 (.list acc) Q0), X0, p, m, fun vs ok h1 J H1 ⟨mz, m1⟩ s1 io D hD => ?_⟩
  have hin : ∀ i ∈ gSl gt, i ∈ own := fun i hi' => by simpa using List.all_eq_true.mp hsl i hi'
  have reo : RE L H (L2.wipe σ own) (CS.wipe env own) := p.re.wipe own
  -- from the source's end
  refine ⟨fun i k H2 => k = vs.length - i ∧ i ≤ vs.length ∧ ∃ h2 acc ws, Stp L h1 H1 h2 H2 ∧ h2 D = none ∧ H2 D = some (.lst ws) ∧ RVs L H2 ws acc ∧ acc.length ≤ i ∧ lcW (lcStep T x gt oc (CS.wipe env own)) ok (vs.drop i) h2 acc (fun acc h2 => new h2 (.list acc) Q0),
    ⟨vs.length, by simp, Nat.zero_le _, h1, [], [], ?_⟩, ?_⟩
  · have hd := s1.rel.free hD
    exact ⟨⟨.upd_new hD, s1.rel.more hD, (Stp.more s1.rel hD).fr⟩, hd, upd_same, .nil, Nat.le_refl _, m1⟩
  rintro i k H2 ⟨rfl, hi2, h2, acc, ws, s2, d1, d2, t2, la, m2⟩
  have e2 : TExt H1 H2 := s2.ext
  by_cases hlt : i < vs.length
  · rw [List.drop_eq_getElem_cons hlt] at m2
    obtain ⟨hok, m2⟩ := m2
    refine .inr ⟨io.go i h2 H2 s2.rel e2 hok hlt, fun H3 => i + 1 ≤ vs.length ∧ ∃ h3 acc ws, Stp L h1 H1 h3 H3 ∧ h3 D = none ∧ H3 D = some (.lst ws) ∧ RVs L H3 ws acc ∧ acc.length ≤ i + 1 ∧ lcW (lcStep T x gt oc (CS.wipe env own)) ok (vs.drop (i + 1)) h3 acc (fun acc h2 => new h2 (.list acc) Q0), fun H3 ⟨z1, z⟩ => ⟨vs.length - (i + 1), by omega, rfl, z1, z⟩, fun y H3 hy => ?_⟩
    obtain ⟨v, hv, s3, rv⟩ := io.yld i h2 H2 y H3 s2.rel e2 hok hlt hy
    have ev : vs[i] = v := by rw [List.getElem?_eq_getElem hlt] at hv; exact Option.some.inj hv
    rw [ev] at m2
    have s13 := s2.trans s3
    have s03 := s1.trans s13
    refine ⟨v, CS.wipe env own, h2, _, reo.ext s03.ext, ?_, rv, m2, fun env4 h4 σ4 H4 m4 s4 re4 sm => ⟨?_, ?_⟩⟩
    · exact s3.rel
    · rw [(sm.mono hin).wipe, wipe_wipe]
    · have s14 := s13.trans s4
      have hd4 := (s3.trans s4).fr D _ d1 d2
      refine tFB.of (X0 := fun _ _ => False) ⟨re4, s4.rel, .no⟩ m4 fun b h5 H5 m5 s5 => ?_
      have s15 := s14.trans s5
      have hd5 := s5.fr D _ hd4.2 hd4.1
      have t5 := t2.ext ((s3.trans s4).trans s5).ext
      cases b with
      | false => exact ⟨hlt, h5, acc, ws, s15, hd5.2, hd5.1, t5, by omega, by simpa using m5⟩
      | true =>
        refine tF.of (X0 := fun _ _ => False) ⟨re4.ext s5.ext, s5.rel, .no⟩ m5 fun y6 h6 x6 H6 m6 s6 r6 => ?_
        have s16 := s15.trans s6
        have hd6 := s6.fr D _ hd5.2 hd5.1
        have t6 := t5.ext s6.ext
        refine ⟨ws, hd6.1, by rw [t6.length, ← cap_line]; omega, hlt, h6, _, _, s16.grow hD hd6.2 hd6.1 True.intro, hd6.2, upd_same, (t6.append (.cons r6 .nil)).ext (.upd_mut hd6.1 True.intro), by rw [List.length_append]; show _ + 1 ≤ _; omega, m6⟩
  · have e : i = vs.length := by omega
    subst e
    rw [List.drop_length] at m2
    obtain ⟨hok, m2⟩ := m2
    refine .inl ⟨io.stop h2 H2 s2.rel e2 hok, ?_⟩
    exact q _ _ _ _ (m2 D d1) (s1.trans (Stp.own s2 hD d2 t2)) (.ref D)
theorem f_lc (g : Good X L T G W) {elt tg iter : Expr} {ifs : List Expr} {sc : Scope} {x : CS.E} {gt : CS.G} {src : CS.Src} {oc : CS.OC} {own : List Nat}
    (hb : blkC G.N G.sc sc (ownP G.N own) = true) (hs : noSet iter = true) (hsl : (gSl gt).all own.contains = true) (hi : PIw X L T W tg iter src)
    (hg : ∀ (X' : Cx) (W' : WX), Good X' L T (G.blk sc) W' → PGw X' L T tg gt) (ht : ∀ (X' : Cx) (W' : WX), Good X' L T (G.blk sc) W' → PTsw X' L T W' ifs oc) (he : ∀ (X' : Cx) (W' : WX), Good X' L T (G.blk sc) W' → PEw X' L T W' elt x) :
    PEw X L T W (.ListComp elt [⟨tg, iter, ifs, 0⟩] sc pos) (.lc x gt src oc own) := by
  have P := pe_lc (pos := pos) g.calm g.nd hi (g.bok hb) (fun s H C cl fp => hg _ _ (g.blk hb s H C cl fp)) (fun s H C cl fp => ht _ _ (g.blk hb s H C cl fp)) (fun s H C cl fp => he _ _ (g.blk hb s H C cl fp)) (noSet_it hs)
  rw [own_ix] at P
  exact PE.fr P fun σ H Q env h Q0 X0 p m q => lc_read hsl p m q
end
end CS

/-! Cs15 -/
/-! Cs15: a checked expression has the reading of its small form. -/
namespace CS
open PySem PySem.Spec PyProof.Rows L2
theorem and2 {a b : Bool} (h : (a && b) = true) : a = true ∧ b = true := by rwa [Bool.and_eq_true] at h
section
variable {G : Ctx}
theorem es_plain : ∀ {as : CS.Es} {es : List Expr}, chkEs G as es = true → es.all plainA = true ∧ (es = [] → as = .nil)
  | .nil, [], _ => ⟨rfl, fun _ => rfl⟩
  | .nil, _ :: _, h => absurd h Bool.false_ne_true
  | .cons _ _, [], h => absurd h Bool.false_ne_true
  | .cons a as, e :: es, h => by
    obtain ⟨h1, h2⟩ := and2 (show ((plainA e && chkE G a e) && chkEs G as es) = true from h)
    exact ⟨by rw [List.all_cons, (and2 h1).1, (es_plain h2).1]; rfl, fun z => nomatch z⟩
end
mutual
theorem sE : ∀ (a : CS.E) {X : Cx} {L : Lk} {T : Tab} {G : Ctx} {W : WX}, Good X L T G W → ∀ e : Expr, chkE G a e = true → PEw X L T W e a
  | .var i, X, L, T, G, W, g, e, h => by
    cases e <;> first | exact absurd h Bool.false_ne_true | skip
    rename_i x pos
    obtain ⟨h, h3⟩ := and2 (show ((decide (G.N[i]? = some x) && visB G.sc x) && okN x) = true from h)
    obtain ⟨h1, h2⟩ := and2 h
    exact f_var g (of_decide_eq_true h1) h2 h3
  | .lit v, X, L, T, G, W, g, e, h => by
    cases e <;> first | exact absurd h Bool.false_ne_true | skip
    exact f_lit (show litB v _ = true from h)
  | .glob x v, X, L, T, G, W, g, e, h => by
    cases e <;> first | exact absurd h Bool.false_ne_true | skip
    rename_i y pos
    obtain ⟨h, h4⟩ := and2 (show (((decide (x = y) && glB G.sc y) && okN y) && glvB G y v) = true from h)
    obtain ⟨h, h3⟩ := and2 h
    obtain ⟨h1, h2⟩ := and2 h
    obtain rfl := of_decide_eq_true h1
    exact f_glob g h2 h3 h4
  | .op o a b, X, L, T, G, W, g, e, h => by
    cases e <;> first | exact absurd h Bool.false_ne_true | skip
    rename_i l p r pos
    obtain ⟨h, h3⟩ := and2 (show ((decide (opOf o = p) && chkE G a l) && chkE G b r) = true from h)
    obtain ⟨h1, h2⟩ := and2 h
    obtain rfl := of_decide_eq_true h1
    exact f_op g (sE a g l h2) (sE b g r h3)
  | .neg a, X, L, T, G, W, g, e, h => by
    cases e <;> first | exact absurd h Bool.false_ne_true | skip
    rename_i p x pos
    obtain ⟨h1, h2⟩ := and2 (show (decide (p = .USub) && chkE G a x) = true from h)
    obtain rfl := of_decide_eq_true h1
    exact f_neg (sE a g x h2)
  | .not a, X, L, T, G, W, g, e, h => by
    cases e <;> first | exact absurd h Bool.false_ne_true | skip
    rename_i p x pos
    obtain ⟨h1, h2⟩ := and2 (show (decide (p = .Not) && chkE G a x) = true from h)
    obtain rfl := of_decide_eq_true h1
    exact f_not (sE a g x h2)
  | .and a b, X, L, T, G, W, g, e, h => by
    cases e <;> first | exact absurd h Bool.false_ne_true | skip
    rename_i p es pos
    match es, h with
    | [x, y], h =>
      obtain ⟨h1, h2⟩ := and2 (show (decide (p = .And) && (chkE G a x && chkE G b y)) = true from h)
      obtain rfl := of_decide_eq_true h1
      exact f_and (sE a g x (and2 h2).1) (pe_one (sE b g y (and2 h2).2))
    | x :: y :: z :: r, h =>
      obtain ⟨h1, h2⟩ := and2 (show (decide (p = .And) && (chkE G a x && chkAnd G b (y :: z :: r))) = true from h)
      obtain rfl := of_decide_eq_true h1
      exact f_and (sE a g x (and2 h2).1) (sAnd b g _ _ (and2 h2).2)
    | [], h => exact absurd (and2 h).2 Bool.false_ne_true
    | [_], h => exact absurd (and2 h).2 Bool.false_ne_true
  | .or a b, X, L, T, G, W, g, e, h => by
    cases e <;> first | exact absurd h Bool.false_ne_true | skip
    rename_i p es pos
    match es, h with
    | [x, y], h =>
      obtain ⟨h1, h2⟩ := and2 (show (decide (p = .Or) && (chkE G a x && chkE G b y)) = true from h)
      obtain rfl := of_decide_eq_true h1
      exact f_or (sE a g x (and2 h2).1) (pe_one (sE b g y (and2 h2).2))
    | x :: y :: z :: r, h =>
      obtain ⟨h1, h2⟩ := and2 (show (decide (p = .Or) && (chkE G a x && chkOr G b (y :: z :: r))) = true from h)
      obtain rfl := of_decide_eq_true h1
      exact f_or (sE a g x (and2 h2).1) (sOr b g _ _ (and2 h2).2)
    | [], h => exact absurd (and2 h).2 Bool.false_ne_true
    | [_], h => exact absurd (and2 h).2 Bool.false_ne_true
  | .cmp o a b, X, L, T, G, W, g, e, h => by
    cases e <;> first | exact absurd h Bool.false_ne_true | skip
    rename_i l ps rs pos
    match ps, rs, h with
    | [p], [r], h =>
      obtain ⟨h, h4⟩ := and2 (show (((decide (cmpOf o = p) && noSet r) && chkE G a l) && chkE G b r) = true from h)
      obtain ⟨h, h3⟩ := and2 h
      obtain ⟨h1, h2⟩ := and2 h
      obtain rfl := of_decide_eq_true h1
      exact f_cmp g h2 (sE a g l h3) (sE b g r h4)
    | [], _, h => exact absurd h Bool.false_ne_true
    | _ :: _ :: _, _, h => exact absurd h Bool.false_ne_true
    | [_], [], h => exact absurd h Bool.false_ne_true
    | [_], _ :: _ :: _, h => exact absurd h Bool.false_ne_true
  | .chain o p a b c, X, L, T, G, W, g, e, h => by
    cases e <;> first | exact absurd h Bool.false_ne_true | skip
    rename_i l ps rs pos
    match ps, rs, h with
    | [p1, p2], [m, r], h =>
      obtain ⟨h, h7⟩ := and2 (show ((((((decide (cmpOf o = p1) && decide (cmpOf p = p2)) && noSet m) && noSet r) && chkE G a l) && chkE G b m) && chkE G c r) = true from h)
      obtain ⟨h, h6⟩ := and2 h
      obtain ⟨h, h5⟩ := and2 h
      obtain ⟨h, h4⟩ := and2 h
      obtain ⟨h, h3⟩ := and2 h
      obtain ⟨h1, h2⟩ := and2 h
      obtain rfl := of_decide_eq_true h1
      obtain rfl := of_decide_eq_true h2
      exact f_chain g h3 h4 (sE a g l h5) (sE b g m h6) (sE c g r h7)
    | [], _, h => exact absurd h Bool.false_ne_true
    | [_], _, h => exact absurd h Bool.false_ne_true
    | _ :: _ :: _ :: _, _, h => exact absurd h Bool.false_ne_true
    | [_, _], [], h => exact absurd h Bool.false_ne_true
    | [_, _], [_], h => exact absurd h Bool.false_ne_true
    | [_, _], _ :: _ :: _ :: _, h => exact absurd h Bool.false_ne_true
  | .isi a t, X, L, T, G, W, g, e, h => by
    cases e <;> first | exact absurd h Bool.false_ne_true | skip
    rename_i f as ks pos
    cases f <;> first | exact absurd h Bool.false_ne_true | skip
    rename_i x pos2
    match as, ks, h with
    | [l, r], [], h =>
      obtain ⟨h, h5⟩ := and2 (show (((((decide (x = ("isinstance" : Str)) && bltB G x) && plainA l) && plainA r) && chkE G a l) && tyB G t r) = true from h)
      obtain ⟨h, h4⟩ := and2 h
      obtain ⟨h, h3b⟩ := and2 h
      obtain ⟨h, h3⟩ := and2 h
      obtain ⟨h1, h2⟩ := and2 h
      obtain rfl := of_decide_eq_true h1
      exact f_isi g h2 h3 h3b h5 (sE a g l h4)
    | [], _, h => exact absurd h Bool.false_ne_true
    | [_], _, h => exact absurd h Bool.false_ne_true
    | _ :: _ :: _ :: _, _, h => exact absurd h Bool.false_ne_true
    | [_, _], _ :: _, h => exact absurd h Bool.false_ne_true
  | .ifx c a b, X, L, T, G, W, g, e, h => by
    cases e <;> first | exact absurd h Bool.false_ne_true | skip
    rename_i t x y pos
    obtain ⟨h, h3⟩ := and2 (show ((chkC G c t && chkE G a x) && chkE G b y) = true from h)
    obtain ⟨h1, h2⟩ := and2 h
    exact f_ifx (sC c g t h1) (sE a g x h2) (sE b g y h3)
  | .tup es, X, L, T, G, W, g, e, h => by
    cases e <;> first | exact absurd h Bool.false_ne_true | skip
    exact f_tup (sEs es g _ (show chkEs G es _ = true from h))
  | .lst es, X, L, T, G, W, g, e, h => by
    cases e <;> first | exact absurd h Bool.false_ne_true | skip
    exact f_lst (sEs es g _ (show chkEs G es _ = true from h))
  | .dct ks, X, L, T, G, W, g, e, h => by
    cases e <;> exact absurd h Bool.false_ne_true
  | .ix a i, X, L, T, G, W, g, e, h => by
    cases e <;> first | exact absurd h Bool.false_ne_true | skip
    rename_i x y pos
    obtain ⟨h, h3⟩ := and2 (show ((noSl y && chkE G a x) && chkE G i y) = true from h)
    obtain ⟨h1, h2⟩ := and2 h
    exact f_ix g h1 (sE a g x h2) (sE i g y h3)
  | .sl a lo hi, X, L, T, G, W, g, e, h => by
    cases e <;> first | exact absurd h Bool.false_ne_true | skip
    rename_i x s pos
    cases s <;> first | exact absurd h Bool.false_ne_true | skip
    rename_i l r st pos2
    cases st with
    | some _ => exact absurd h Bool.false_ne_true
    | none =>
      obtain ⟨h, h3⟩ := and2 (show ((chkE G a x && chkO G lo l) && chkO G hi r) = true from h)
      obtain ⟨h1, h2⟩ := and2 h
      exact f_sl g (sE a g x h1) (sO lo g l h2) (sO hi g r h3)
  | .rev a, X, L, T, G, W, g, e, h => by
    cases e <;> first | exact absurd h Bool.false_ne_true | skip
    rename_i x s pos
    cases s <;> first | exact absurd h Bool.false_ne_true | skip
    rename_i l r st pos2
    match l, r, st, h with
    | none, none, some (.UnaryOp .USub (.Constant (.int 1) k p1) p2), h => exact f_rev g (sE a g x h)
    | some _, _, _, h => exact absurd h Bool.false_ne_true
    | none, some _, _, h => exact absurd h Bool.false_ne_true
    | none, none, none, h => exact absurd h Bool.false_ne_true
  | .call f es, X, L, T, G, W, g, e, h => by
    cases e <;> first | exact absurd h Bool.false_ne_true | skip
    rename_i fe as ks pos
    cases fe <;> first | exact absurd h Bool.false_ne_true | skip
    rename_i n pos2
    match as, ks, h with
    | l :: r, [], h =>
      obtain ⟨h, h5⟩ := and2 (show ((((decide (n = f) && glB G.sc n) && okN n) && chkEs G es (l :: r)) && (G.fns.lookup f).isSome) = true from h)
      obtain ⟨h, h4⟩ := and2 h
      obtain ⟨h, h3⟩ := and2 h
      obtain ⟨h1, h2⟩ := and2 h
      obtain rfl := of_decide_eq_true h1
      obtain ⟨i, hi⟩ := Option.isSome_iff_exists.mp h5
      exact f_call g hi h2 h3 (es_plain h4).1 (sEs es g _ h4)
    | [], _, h => exact absurd h Bool.false_ne_true
    | _ :: _, _ :: _, h => exact absurd h Bool.false_ne_true
  | .bi f es, X, L, T, G, W, g, e, h => by
    cases e <;> first | exact absurd h Bool.false_ne_true | skip
    rename_i fe as ks pos
    cases fe <;> first | exact absurd h Bool.false_ne_true | skip
    rename_i n pos2
    match as, ks, h with
    | l :: r, [], h =>
      obtain ⟨h, h3⟩ := and2 (show ((decide (n = biName f) && bltB G n) && chkEs G es (l :: r)) = true from h)
      obtain ⟨h1, h2⟩ := and2 h
      obtain rfl := of_decide_eq_true h1
      exact f_bi g h2 (es_plain h3).1 (sEs es g _ h3)
    | [], _, h => exact absurd h Bool.false_ne_true
    | _ :: _, _ :: _, h => exact absurd h Bool.false_ne_true
  | .mk c es ds, X, L, T, G, W, g, e, h => by
    cases e <;> first | exact absurd h Bool.false_ne_true | skip
    rename_i f as ks pos
    cases f <;> first | exact absurd h Bool.false_ne_true | skip
    rename_i n pos2
    match as, ks, h with
    | l :: r, [], h =>
      obtain ⟨h, h5⟩ := and2 (show ((((decide (n = c) && glB G.sc n) && okN n) && chkEs G es (l :: r)) && (match G.cls.lookup c with | some ms => ms.ini.any fun p => Val.beqs p.2 ds | none => false)) = true from h)
      obtain ⟨h, h4⟩ := and2 h
      obtain ⟨h, h3⟩ := and2 h
      obtain ⟨h1, h2⟩ := and2 h
      obtain rfl := of_decide_eq_true h1
      cases hc : G.cls.lookup n with
      | none => rw [hc] at h5; exact absurd h5 Bool.false_ne_true
      | some ms =>
        rw [hc] at h5
        obtain ⟨p, hp, he⟩ := List.any_eq_true.mp h5
        obtain rfl := Val.beqs_eq he
        exact f_mk g hc hp h2 h3 (es_plain h4).1 (sEs es g _ h4)
    | [], _, h => exact absurd h Bool.false_ne_true
    | _ :: _, _ :: _, h => exact absurd h Bool.false_ne_true
  | .meth c m o es, X, L, T, G, W, g, e, h => by
    cases e <;> first | exact absurd h Bool.false_ne_true | skip
    rename_i f as ks pos
    cases f <;> first | exact absurd h Bool.false_ne_true | skip
    rename_i v n apos
    match ks, h with
    | [], h =>
      obtain ⟨h, h7⟩ := and2 (show ((((((decide (n = m) && (apos.endLine == pos.line)) && baseA v) && decide (as.length < 28)) && chkE G o v) && chkEs G es as) && (match G.cls.lookup c with | some ms => (ms.ms.lookup m).isSome | none => false)) = true from h)
      obtain ⟨h, h6⟩ := and2 h
      obtain ⟨h, h5⟩ := and2 h
      obtain ⟨h, h4⟩ := and2 h
      obtain ⟨h, h3⟩ := and2 h
      obtain ⟨h1, h2⟩ := and2 h
      obtain rfl := of_decide_eq_true h1
      cases hc : G.cls.lookup c with
      | none => rw [hc] at h7; exact absurd h7 Bool.false_ne_true
      | some ms =>
        rw [hc] at h7
        obtain ⟨i, hi⟩ := Option.isSome_iff_exists.mp h7
        exact f_meth g hc hi h2 h3 (of_decide_eq_true h4) (es_plain h6).1 (es_plain h6).2 (sE o g v h5) (sEs es g _ h6)
    | _ :: _, h => exact absurd h Bool.false_ne_true
  | .bm m o es, X, L, T, G, W, g, e, h => by
    cases e <;> first | exact absurd h Bool.false_ne_true | skip
    rename_i f as ks pos
    cases f <;> first | exact absurd h Bool.false_ne_true | skip
    rename_i v n apos
    match ks, h with
    | [], h =>
      obtain ⟨h, h7⟩ := and2 (show ((((((decide (n = bmName m) && (apos.endLine == pos.line)) && baseA v) && decide (as.length < 28)) && bmB m) && chkE G o v) && chkEs G es as) = true from h)
      obtain ⟨h, h6⟩ := and2 h
      obtain ⟨h, h5⟩ := and2 h
      obtain ⟨h, h4⟩ := and2 h
      obtain ⟨h, h3⟩ := and2 h
      obtain ⟨h1, h2⟩ := and2 h
      obtain rfl := of_decide_eq_true h1
      exact f_bm g h5 h2 h3 (of_decide_eq_true h4) (es_plain h7).1 (es_plain h7).2 (sE o g v h6) (sEs es g _ h7)
    | _ :: _, h => exact absurd h Bool.false_ne_true
  | .attr c o f, X, L, T, G, W, g, e, h => by
    cases e <;> first | exact absurd h Bool.false_ne_true | skip
    rename_i v n pos
    obtain ⟨h, h5⟩ := and2 (show ((((decide (n = f) && baseA v) && G.flds.contains f) && (G.cls.lookup c).isSome) && chkE G o v) = true from h)
    obtain ⟨h, h4⟩ := and2 h
    obtain ⟨h, h3⟩ := and2 h
    obtain ⟨h1, h2⟩ := and2 h
    obtain rfl := of_decide_eq_true h1
    obtain ⟨ms, hc⟩ := Option.isSome_iff_exists.mp h4
    exact f_attr g hc h3 h2 (sE o g v h5)
  | .lc elt gt s t own, X, L, T, G, W, g, e, h => by
    cases e <;> first | exact absurd h Bool.false_ne_true | skip
    rename_i x gs sc pos
    match gs, h with
    | [⟨tg, iter, ifs, na⟩], h =>
      obtain ⟨h, h7⟩ := and2 (show (((((((decide (na = 0) && noSet iter) && blkC G.N G.sc sc (ownP G.N own)) && (gSl gt).all own.contains) && chkG (G.blk sc) gt tg) && chkSrc G s iter (isTupT tg)) && chkOC (G.blk sc) t ifs) && chkE (G.blk sc) elt x) = true from h)
      obtain ⟨h, h6⟩ := and2 h
      obtain ⟨h, h5⟩ := and2 h
      obtain ⟨h, h4⟩ := and2 h
      obtain ⟨h, h3⟩ := and2 h
      obtain ⟨h, h2⟩ := and2 h
      obtain ⟨h0, h1⟩ := and2 h
      obtain rfl := of_decide_eq_true h0
      exact f_lc g h2 h1 h3 (sSrc s g iter tg h5) (fun X' W' g' => sG gt g' tg h4) (fun X' W' g' => sOC t g' ifs h6) (fun X' W' g' => sE elt g' x h7)
    | [], h => exact absurd h Bool.false_ne_true
    | ⟨_, _, _, _⟩ :: _ :: _, h => exact absurd h Bool.false_ne_true
theorem sAnd : ∀ (a : CS.E) {X : Cx} {L : Lk} {T : Tab} {G : Ctx} {W : WX}, Good X L T G W → ∀ (pos : Pos) (es : List Expr), chkAnd G a es = true → PEw X L T W (.BoolOp .And es pos) a
  | .and a b, X, L, T, G, W, g, pos, es, h => by
    match es, h with
    | [x, y], h =>
      have h := and2 (show (chkE G a x && chkE G b y) = true from h)
      exact f_and (sE a g x h.1) (pe_one (sE b g y h.2))
    | x :: y :: z :: r, h =>
      have h := and2 (show (chkE G a x && chkAnd G b (y :: z :: r)) = true from h)
      exact f_and (sE a g x h.1) (sAnd b g _ _ h.2)
    | [], h => exact absurd h Bool.false_ne_true
    | [_], h => exact absurd h Bool.false_ne_true
  | .var _, _, _, _, _, _, _, _, _, h => absurd h Bool.false_ne_true
  | .lit _, _, _, _, _, _, _, _, _, h => absurd h Bool.false_ne_true
  | .glob _ _, _, _, _, _, _, _, _, _, h => absurd h Bool.false_ne_true
  | .op _ _ _, _, _, _, _, _, _, _, _, h => absurd h Bool.false_ne_true
  | .neg _, _, _, _, _, _, _, _, _, h => absurd h Bool.false_ne_true
  | .not _, _, _, _, _, _, _, _, _, h => absurd h Bool.false_ne_true
  | .or _ _, _, _, _, _, _, _, _, _, h => absurd h Bool.false_ne_true
  | .cmp _ _ _, _, _, _, _, _, _, _, _, h => absurd h Bool.false_ne_true
  | .chain _ _ _ _ _, _, _, _, _, _, _, _, _, h => absurd h Bool.false_ne_true
  | .isi _ _, _, _, _, _, _, _, _, _, h => absurd h Bool.false_ne_true
  | .ifx _ _ _, _, _, _, _, _, _, _, _, h => absurd h Bool.false_ne_true
  | .tup _, _, _, _, _, _, _, _, _, h => absurd h Bool.false_ne_true
  | .lst _, _, _, _, _, _, _, _, _, h => absurd h Bool.false_ne_true
  | .dct _, _, _, _, _, _, _, _, _, h => absurd h Bool.false_ne_true
  | .ix _ _, _, _, _, _, _, _, _, _, h => absurd h Bool.false_ne_true
  | .sl _ _ _, _, _, _, _, _, _, _, _, h => absurd h Bool.false_ne_true
  | .rev _, _, _, _, _, _, _, _, _, h => absurd h Bool.false_ne_true
  | .call _ _, _, _, _, _, _, _, _, _, h => absurd h Bool.false_ne_true
  | .bi _ _, _, _, _, _, _, _, _, _, h => absurd h Bool.false_ne_true
  | .mk _ _ _, _, _, _, _, _, _, _, _, h => absurd h Bool.false_ne_true
  | .meth _ _ _ _, _, _, _, _, _, _, _, _, h => absurd h Bool.false_ne_true
  | .bm _ _ _, _, _, _, _, _, _, _, _, h => absurd h Bool.false_ne_true
  | .attr _ _ _, _, _, _, _, _, _, _, _, h => absurd h Bool.false_ne_true
  | .lc _ _ _ _ _, _, _, _, _, _, _, _, _, h => absurd h Bool.false_ne_true
theorem sOr : ∀ (a : CS.E) {X : Cx} {L : Lk} {T : Tab} {G : Ctx} {W : WX}, Good X L T G W → ∀ (pos : Pos) (es : List Expr), chkOr G a es = true → PEw X L T W (.BoolOp .Or es pos) a
  | .or a b, X, L, T, G, W, g, pos, es, h => by
    match es, h with
    | [x, y], h =>
      have h := and2 (show (chkE G a x && chkE G b y) = true from h)
      exact f_or (sE a g x h.1) (pe_one (sE b g y h.2))
    | x :: y :: z :: r, h =>
      have h := and2 (show (chkE G a x && chkOr G b (y :: z :: r)) = true from h)
      exact f_or (sE a g x h.1) (sOr b g _ _ h.2)
    | [], h => exact absurd h Bool.false_ne_true
    | [_], h => exact absurd h Bool.false_ne_true
  | .var _, _, _, _, _, _, _, _, _, h => absurd h Bool.false_ne_true
  | .lit _, _, _, _, _, _, _, _, _, h => absurd h Bool.false_ne_true
  | .glob _ _, _, _, _, _, _, _, _, _, h => absurd h Bool.false_ne_true
  | .op _ _ _, _, _, _, _, _, _, _, _, h => absurd h Bool.false_ne_true
  | .neg _, _, _, _, _, _, _, _, _, h => absurd h Bool.false_ne_true
  | .not _, _, _, _, _, _, _, _, _, h => absurd h Bool.false_ne_true
  | .and _ _, _, _, _, _, _, _, _, _, h => absurd h Bool.false_ne_true
  | .cmp _ _ _, _, _, _, _, _, _, _, _, h => absurd h Bool.false_ne_true
  | .chain _ _ _ _ _, _, _, _, _, _, _, _, _, h => absurd h Bool.false_ne_true
  | .isi _ _, _, _, _, _, _, _, _, _, h => absurd h Bool.false_ne_true
  | .ifx _ _ _, _, _, _, _, _, _, _, _, h => absurd h Bool.false_ne_true
  | .tup _, _, _, _, _, _, _, _, _, h => absurd h Bool.false_ne_true
  | .lst _, _, _, _, _, _, _, _, _, h => absurd h Bool.false_ne_true
  | .dct _, _, _, _, _, _, _, _, _, h => absurd h Bool.false_ne_true
  | .ix _ _, _, _, _, _, _, _, _, _, h => absurd h Bool.false_ne_true
  | .sl _ _ _, _, _, _, _, _, _, _, _, h => absurd h Bool.false_ne_true
  | .rev _, _, _, _, _, _, _, _, _, h => absurd h Bool.false_ne_true
  | .call _ _, _, _, _, _, _, _, _, _, h => absurd h Bool.false_ne_true
  | .bi _ _, _, _, _, _, _, _, _, _, h => absurd h Bool.false_ne_true
  | .mk _ _ _, _, _, _, _, _, _, _, _, h => absurd h Bool.false_ne_true
  | .meth _ _ _ _, _, _, _, _, _, _, _, _, h => absurd h Bool.false_ne_true
  | .bm _ _ _, _, _, _, _, _, _, _, _, h => absurd h Bool.false_ne_true
  | .attr _ _ _, _, _, _, _, _, _, _, _, h => absurd h Bool.false_ne_true
  | .lc _ _ _ _ _, _, _, _, _, _, _, _, _, h => absurd h Bool.false_ne_true
theorem sEs : ∀ (as : CS.Es) {X : Cx} {L : Lk} {T : Tab} {G : Ctx} {W : WX}, Good X L T G W → ∀ es : List Expr, chkEs G as es = true → PAw X L T W es as
  | .nil, X, L, T, G, W, g, es, h => by
    match es, h with
    | [], h => exact f_nil
    | _ :: _, h => exact absurd h Bool.false_ne_true
  | .cons a as, X, L, T, G, W, g, es, h => by
    match es, h with
    | [], h => exact absurd h Bool.false_ne_true
    | e :: es, h =>
      obtain ⟨h, h3⟩ := and2 (show ((plainA e && chkE G a e) && chkEs G as es) = true from h)
      exact f_cons (and2 h).1 (sE a g e (and2 h).2) (sEs as g es h3)
theorem sO : ∀ (a : CS.OE) {X : Cx} {L : Lk} {T : Tab} {G : Ctx} {W : WX}, Good X L T G W → ∀ e : Option Expr, chkO G a e = true → POw X L T W e a
  | .no, X, L, T, G, W, g, e, h => by
    cases e with
    | none => exact f_no
    | some _ => exact absurd h Bool.false_ne_true
  | .so a, X, L, T, G, W, g, e, h => by
    cases e with
    | none => exact absurd h Bool.false_ne_true
    | some e => exact f_so (sE a g e h)
theorem sC : ∀ (a : CS.C) {X : Cx} {L : Lk} {T : Tab} {G : Ctx} {W : WX}, Good X L T G W → ∀ e : Expr, chkC G a e = true → PTw X L T W e a
  | .val a, X, L, T, G, W, g, e, h => by
    obtain ⟨h1, h2⟩ := and2 (show (truA e && chkE G a e) = true from h)
    exact c_val g h1 (sE a g e h2)
  | .cmp o a b, X, L, T, G, W, g, e, h => by
    cases e <;> first | exact absurd h Bool.false_ne_true | skip
    rename_i l ps rs pos
    match ps, rs, h with
    | [p], [r], h =>
      obtain ⟨h, h4⟩ := and2 (show (((decide (cmpOf o = p) && noSet r) && chkE G a l) && chkE G b r) = true from h)
      obtain ⟨h, h3⟩ := and2 h
      obtain ⟨h1, h2⟩ := and2 h
      obtain rfl := of_decide_eq_true h1
      exact c_cmp g h2 (sE a g l h3) (sE b g r h4)
    | [], _, h => exact absurd h Bool.false_ne_true
    | _ :: _ :: _, _, h => exact absurd h Bool.false_ne_true
    | [_], [], h => exact absurd h Bool.false_ne_true
    | [_], _ :: _ :: _, h => exact absurd h Bool.false_ne_true
  | .chain o p a b c, X, L, T, G, W, g, e, h => by
    cases e <;> first | exact absurd h Bool.false_ne_true | skip
    rename_i l ps rs pos
    match ps, rs, h with
    | [p1, p2], [m, r], h =>
      obtain ⟨h, h7⟩ := and2 (show ((((((decide (cmpOf o = p1) && decide (cmpOf p = p2)) && noSet m) && noSet r) && chkE G a l) && chkE G b m) && chkE G c r) = true from h)
      obtain ⟨h, h6⟩ := and2 h
      obtain ⟨h, h5⟩ := and2 h
      obtain ⟨h, h4⟩ := and2 h
      obtain ⟨h, h3⟩ := and2 h
      obtain ⟨h1, h2⟩ := and2 h
      obtain rfl := of_decide_eq_true h1
      obtain rfl := of_decide_eq_true h2
      exact c_chain g h3 h4 (sE a g l h5) (sE b g m h6) (sE c g r h7)
    | [], _, h => exact absurd h Bool.false_ne_true
    | [_], _, h => exact absurd h Bool.false_ne_true
    | _ :: _ :: _ :: _, _, h => exact absurd h Bool.false_ne_true
    | [_, _], [], h => exact absurd h Bool.false_ne_true
    | [_, _], [_], h => exact absurd h Bool.false_ne_true
    | [_, _], _ :: _ :: _ :: _, h => exact absurd h Bool.false_ne_true
  | .not c, X, L, T, G, W, g, e, h => by
    cases e <;> first | exact absurd h Bool.false_ne_true | skip
    rename_i p x pos
    obtain ⟨h1, h2⟩ := and2 (show (decide (p = .Not) && chkC G c x) = true from h)
    obtain rfl := of_decide_eq_true h1
    exact c_not (sC c g x h2)
  | .and a b, X, L, T, G, W, g, e, h => by
    cases e <;> first | exact absurd h Bool.false_ne_true | skip
    rename_i p es pos
    match es, h with
    | [x, y], h =>
      obtain ⟨h1, h2⟩ := and2 (show (decide (p = .And) && (chkC G a x && chkC G b y)) = true from h)
      obtain rfl := of_decide_eq_true h1
      exact (c_and (sC a g x (and2 h2).1) (pw_and1 (sC b g y (and2 h2).2))).pt
    | x :: y :: z :: r, h =>
      obtain ⟨h1, h2⟩ := and2 (show (decide (p = .And) && (chkC G a x && chkCAnd G b (y :: z :: r))) = true from h)
      obtain rfl := of_decide_eq_true h1
      exact (c_and (sC a g x (and2 h2).1) (sCAnd b g _ _ (and2 h2).2)).pt
    | [], h => exact absurd (and2 h).2 Bool.false_ne_true
    | [_], h => exact absurd (and2 h).2 Bool.false_ne_true
  | .or a b, X, L, T, G, W, g, e, h => by
    cases e <;> first | exact absurd h Bool.false_ne_true | skip
    rename_i p es pos
    match es, h with
    | [x, y], h =>
      obtain ⟨h1, h2⟩ := and2 (show (decide (p = .Or) && (chkC G a x && chkC G b y)) = true from h)
      obtain rfl := of_decide_eq_true h1
      exact (c_or (sC a g x (and2 h2).1) (pw_or1 (sC b g y (and2 h2).2))).pt
    | x :: y :: z :: r, h =>
      obtain ⟨h1, h2⟩ := and2 (show (decide (p = .Or) && (chkC G a x && chkCOr G b (y :: z :: r))) = true from h)
      obtain rfl := of_decide_eq_true h1
      exact (c_or (sC a g x (and2 h2).1) (sCOr b g _ _ (and2 h2).2)).pt
    | [], h => exact absurd (and2 h).2 Bool.false_ne_true
    | [_], h => exact absurd (and2 h).2 Bool.false_ne_true
theorem sCAnd : ∀ (a : CS.C) {X : Cx} {L : Lk} {T : Tab} {G : Ctx} {W : WX}, Good X L T G W → ∀ (pos : Pos) (es : List Expr), chkCAnd G a es = true → PWw X L T W (.BoolOp .And es pos) a
  | .and a b, X, L, T, G, W, g, pos, es, h => by
    match es, h with
    | [x, y], h =>
      have h := and2 (show (chkC G a x && chkC G b y) = true from h)
      exact c_and (sC a g x h.1) (pw_and1 (sC b g y h.2))
    | x :: y :: z :: r, h =>
      have h := and2 (show (chkC G a x && chkCAnd G b (y :: z :: r)) = true from h)
      exact c_and (sC a g x h.1) (sCAnd b g _ _ h.2)
    | [], h => exact absurd h Bool.false_ne_true
    | [_], h => exact absurd h Bool.false_ne_true
  | .val _, _, _, _, _, _, _, _, _, h => absurd h Bool.false_ne_true
  | .cmp _ _ _, _, _, _, _, _, _, _, _, h => absurd h Bool.false_ne_true
  | .chain _ _ _ _ _, _, _, _, _, _, _, _, _, h => absurd h Bool.false_ne_true
  | .not _, _, _, _, _, _, _, _, _, h => absurd h Bool.false_ne_true
  | .or _ _, _, _, _, _, _, _, _, _, h => absurd h Bool.false_ne_true
theorem sCOr : ∀ (a : CS.C) {X : Cx} {L : Lk} {T : Tab} {G : Ctx} {W : WX}, Good X L T G W → ∀ (pos : Pos) (es : List Expr), chkCOr G a es = true → PWw X L T W (.BoolOp .Or es pos) a
  | .or a b, X, L, T, G, W, g, pos, es, h => by
    match es, h with
    | [x, y], h =>
      have h := and2 (show (chkC G a x && chkC G b y) = true from h)
      exact c_or (sC a g x h.1) (pw_or1 (sC b g y h.2))
    | x :: y :: z :: r, h =>
      have h := and2 (show (chkC G a x && chkCOr G b (y :: z :: r)) = true from h)
      exact c_or (sC a g x h.1) (sCOr b g _ _ h.2)
    | [], h => exact absurd h Bool.false_ne_true
    | [_], h => exact absurd h Bool.false_ne_true
  | .val _, _, _, _, _, _, _, _, _, h => absurd h Bool.false_ne_true
  | .cmp _ _ _, _, _, _, _, _, _, _, _, h => absurd h Bool.false_ne_true
  | .chain _ _ _ _ _, _, _, _, _, _, _, _, _, h => absurd h Bool.false_ne_true
  | .not _, _, _, _, _, _, _, _, _, h => absurd h Bool.false_ne_true
  | .and _ _, _, _, _, _, _, _, _, _, h => absurd h Bool.false_ne_true
theorem sOC : ∀ (a : CS.OC) {X : Cx} {L : Lk} {T : Tab} {G : Ctx} {W : WX}, Good X L T G W → ∀ es : List Expr, chkOC G a es = true → PTsw X L T W es a
  | .no, X, L, T, G, W, g, es, h => by
    match es, h with
    | [], h => exact oc_no
    | _ :: _, h => exact absurd h Bool.false_ne_true
  | .so a, X, L, T, G, W, g, es, h => by
    match es, h with
    | [], h => exact absurd h Bool.false_ne_true
    | [e], h => exact oc_so (sC a g e h)
    | _ :: _ :: _, h => exact absurd h Bool.false_ne_true
theorem sSrc : ∀ (a : CS.Src) {X : Cx} {L : Lk} {T : Tab} {G : Ctx} {W : WX}, Good X L T G W → ∀ e tg : Expr, chkSrc G a e (isTupT tg) = true → PIw X L T W tg e a
  | .ex a, X, L, T, G, W, g, e, tg, h => s_ex g (sE a g e h)
  | .rng1 a, X, L, T, G, W, g, e, tg, h => by
    cases e <;> first | exact absurd h Bool.false_ne_true | skip
    rename_i f as ks pos
    cases f <;> first | exact absurd h Bool.false_ne_true | skip
    rename_i n pos2
    match as, ks, h with
    | [x], [], h =>
      obtain ⟨h, h4⟩ := and2 (show (((decide (n = ("range" : Str)) && bltB G n) && plainA x) && chkE G a x) = true from h)
      obtain ⟨h, h3⟩ := and2 h
      obtain ⟨h1, h2⟩ := and2 h
      obtain rfl := of_decide_eq_true h1
      exact s_rng1 g h2 h3 (sE a g x h4)
    | [], _, h => exact absurd h Bool.false_ne_true
    | _ :: _ :: _, _, h => exact absurd h Bool.false_ne_true
    | [_], _ :: _, h => exact absurd h Bool.false_ne_true
  | .rng2 a b, X, L, T, G, W, g, e, tg, h => by
    cases e <;> first | exact absurd h Bool.false_ne_true | skip
    rename_i f as ks pos
    cases f <;> first | exact absurd h Bool.false_ne_true | skip
    rename_i n pos2
    match as, ks, h with
    | [x, y], [], h =>
      obtain ⟨h, h6⟩ := and2 (show (((((decide (n = ("range" : Str)) && bltB G n) && plainA x) && plainA y) && chkE G a x) && chkE G b y) = true from h)
      obtain ⟨h, h5⟩ := and2 h
      obtain ⟨h, h4⟩ := and2 h
      obtain ⟨h, h3⟩ := and2 h
      obtain ⟨h1, h2⟩ := and2 h
      obtain rfl := of_decide_eq_true h1
      exact s_rng2 g h2 h3 h4 (sE a g x h5) (sE b g y h6)
    | [], _, h => exact absurd h Bool.false_ne_true
    | [_], _, h => exact absurd h Bool.false_ne_true
    | _ :: _ :: _ :: _, _, h => exact absurd h Bool.false_ne_true
    | [_, _], _ :: _, h => exact absurd h Bool.false_ne_true
  | .rng3 a b c, X, L, T, G, W, g, e, tg, h => by cases e <;> exact absurd h Bool.false_ne_true
  | .enum a, X, L, T, G, W, g, e, tg, h => by
    cases e <;> first | exact absurd h Bool.false_ne_true | skip
    rename_i f as ks pos
    cases f <;> first | exact absurd h Bool.false_ne_true | skip
    rename_i n pos2
    match as, ks, h with
    | [x], [], h =>
      obtain ⟨h, h5⟩ := and2 (show ((((isTupT tg && decide (n = ("enumerate" : Str))) && bltB G n) && plainA x) && chkE G a x) = true from h)
      obtain ⟨h, h4⟩ := and2 h
      obtain ⟨h, h3⟩ := and2 h
      obtain ⟨h1, h2⟩ := and2 h
      obtain rfl := of_decide_eq_true h2
      cases tg <;> first | exact absurd h1 Bool.false_ne_true | skip
      exact s_enum g h3 h4 (sE a g x h5)
    | [], _, h => exact absurd h Bool.false_ne_true
    | _ :: _ :: _, _, h => exact absurd h Bool.false_ne_true
    | [_], _ :: _, h => exact absurd h Bool.false_ne_true
  | .zip a b, X, L, T, G, W, g, e, tg, h => by cases e <;> exact absurd h Bool.false_ne_true
  | .items a, X, L, T, G, W, g, e, tg, h => by cases e <;> exact absurd h Bool.false_ne_true
theorem sG : ∀ (a : CS.G) {X : Cx} {L : Lk} {T : Tab} {G : Ctx} {W : WX}, Good X L T G W → ∀ e : Expr, chkG G a e = true → PGw X L T e a
  | .name i, X, L, T, G, W, g, e, h => by
    cases e <;> first | exact absurd h Bool.false_ne_true | skip
    rename_i x pos
    obtain ⟨h1, h2⟩ := and2 (show (decide (G.N[i]? = some x) && locB G.sc x) = true from h)
    exact g_name g (of_decide_eq_true h1) h2
  | .tup gs, X, L, T, G, W, g, e, h => by
    cases e <;> first | exact absurd h Bool.false_ne_true | skip
    rename_i xs k pos
    obtain ⟨h, h3⟩ := and2 (show ((xs.all plainA && decide (gs.len = xs.length)) && chkGs G gs xs) = true from h)
    obtain ⟨h1, h2⟩ := and2 h
    exact g_tup g h1 (of_decide_eq_true h2) (sGs gs g xs h1 h3)
  | .sub o i, X, L, T, G, W, g, e, h => by
    cases e <;> first | exact absurd h Bool.false_ne_true | skip
    rename_i x y pos
    obtain ⟨h, h3⟩ := and2 (show ((noSl y && chkE G o x) && chkE G i y) = true from h)
    obtain ⟨h1, h2⟩ := and2 h
    exact g_sub g h1 (sE o g x h2) (sE i g y h3)
  | .attr c o f, X, L, T, G, W, g, e, h => by cases e <;> exact absurd h Bool.false_ne_true
theorem sGs : ∀ (a : CS.Gs) {X : Cx} {L : Lk} {T : Tab} {G : Ctx} {W : WX}, Good X L T G W → ∀ es : List Expr, es.all plainA = true → chkGs G a es = true → PGsw X L T es a
  | .nil, X, L, T, G, W, g, es, hp, h => by
    match es, h with
    | [], h => exact gs_nil
    | _ :: _, h => exact absurd h Bool.false_ne_true
  | .cons a as, X, L, T, G, W, g, es, hp, h => by
    match es, hp, h with
    | [], hp, h => exact absurd h Bool.false_ne_true
    | e :: es, hp, h =>
      obtain ⟨h1, h2⟩ := and2 (show (chkG G a e && chkGs G as es) = true from h)
      rw [List.all_cons] at hp
      exact gs_cons (and2 hp).1 (sG a g e h1) (sGs as g es (and2 hp).2 h2)
end
end CS

/-! Cs16 -/
/-! Cs16: each form of statement, by its parts. -/
namespace CS
open PySem PySem.Spec PyProof.Rows L2
structure DW (L : Lk) (W : WX) (D : Ends) (h : HS) (H : L2.Hp) (D0 : Dn) : Prop where
  nx : ∀ env' h' σ' H', D0.nx env' h' → Stp L h H h' H' → RE L H' σ' env' → D.nx σ' H'
  rt : QW L D.rt h H D0.rt
  bk : ∀ env' h' σ' H', D0.bk env' h' → Stp L h H h' H' → RE L H' σ' env' → D.bk σ' H'
  ex : ∀ env' h' σ' H', Stp L h H h' H' → RE L H' σ' env' → XW L W σ' h' H' (D0.ex env')
section
variable {X : Cx} {L : Lk} {T : Tab} {G : Ctx} {W : WX} {σ : L2.St} {env : Env} {h h1 : HS} {H H1 : L2.Hp} {D : Ends} {D0 : Dn}
theorem DW.go (d : DW L W D h H D0) (s : Stp L h H h1 H1) : DW L W D h1 H1 D0 where
  nx env' h' σ' H' k t r := d.nx env' h' σ' H' k (s.trans t) r
  rt := d.rt.ext s
  bk env' h' σ' H' k t r := d.bk env' h' σ' H' k (s.trans t) r
  ex env' h' σ' H' t r := d.ex env' h' σ' H' (s.trans t) r
theorem DW.pt (d : DW L W D h H D0) (re : RE L H σ env) (rel : Rel L h H) : Pt L W σ env h H (D0.ex env) := ⟨re, rel, d.ex env h σ H (.refl rel) re⟩
def tS (L : Lk) (W : WX) (m : Env → HS → Dn → Prop) : TS := fun D σ H => ∃ env h D0, RE L H σ env ∧ Rel L h H ∧ m env h D0 ∧ DW L W D h H D0
theorem tS.of {M : Env → HS → Dn → Prop} (re : RE L H σ env) (rel : Rel L h H) (m : M env h D0) (d : DW L W D h H D0) : tS L W M D σ H := ⟨env, h, D0, re, rel, m, d⟩
abbrev PSw (X : Cx) (L : Lk) (T : Tab) (W : WX) (s : Stmt) (a : CS.S) : Prop := PS X s (tS L W (wS T a))
abbrev PSsw (X : Cx) (L : Lk) (T : Tab) (W : WX) (s : List Stmt) (a : CS.Ss) : Prop := PSs X s (tS L W (wSs T a))
theorem PS.fr {st : Stmt} {t : TS} {M : Env → HS → Dn → Prop} (p : PS X st t) (k : ∀ D σ H env h D0, RE L H σ env → Rel L h H → M env h D0 → DW L W D h H D0 → t D σ H) : PS X st (tS L W M) :=
  CS.PS.imp p fun D σ H ⟨env, h, D0, re, rel, m, d⟩ => k D σ H env h D0 re rel m d
theorem PSs.fr {st : List Stmt} {t : TS} {M : Env → HS → Dn → Prop} (p : PSs X st t) (k : ∀ D σ H env h D0, RE L H σ env → Rel L h H → M env h D0 → DW L W D h H D0 → t D σ H) : PSs X st (tS L W M) :=
  CS.PSs.imp p fun D σ H ⟨env, h, D0, re, rel, m, d⟩ => k D σ H env h D0 re rel m d
variable {pos pos2 pos3 pos4 : Pos} {l r e : Expr} {a b c : CS.E}
theorem ss_nil : PSsw X L T W [] .nil := PSs.fr pss_nil fun D σ H env h D0 re rel m d => d.nx _ _ _ _ m (.refl rel) re
theorem ss_cons {st : Stmt} {sts : List Stmt} {a : CS.S} {as : CS.Ss} (h1 : PSw X L T W st a) (h2 : PSsw X L T W sts as) : PSsw X L T W (st :: sts) (.cons a as) :=
  PSs.fr (pss_cons h1 h2) fun D σ H env h D0 re rel m d => .of re rel m ⟨fun env' h' σ' H' k s r => .of r s.rel k (d.go s), d.rt, d.bk, d.ex⟩
theorem st_pass : PSw X L T W (.Pass pos) .pass := PS.fr ps_pass fun D σ H env h D0 re rel m d => d.nx _ _ _ _ m (.refl rel) re
theorem st_brk : PSw X L T W (.Break pos) .brk := PS.fr ps_break fun D σ H env h D0 re rel m d => d.bk _ _ _ _ m (.refl rel) re
theorem st_retN : PSw X L T W (.Return none pos) .retN := PS.fr ps_retN fun D σ H env h D0 re rel m d => d.rt.here rel m .non
theorem st_ret (ha : PEw X L T W l a) : PSw X L T W (.Return (some l) pos) (.ret a) := PS.fr (ps_ret ha) fun D σ H env h D0 re rel m d => .of (d.pt re rel) m d.rt
theorem st_ex (hn : noComp l = true) (ha : PEw X L T W l a) : PSw X L T W (.Expr l pos) (.ex a) :=
  PS.fr (ps_expr ha (noComp_sw hn)) fun D σ H env h D0 re rel m d => .of (d.pt re rel) m fun v h1 x H1 m1 s1 r1 => d.nx _ _ _ _ m1 s1 (re.ext s1.ext)
theorem st_if {c : CS.C} {a b : CS.Ss} {l : Expr} {sa sb : List Stmt} (hc : PTw X L T W l c) (ha : PSsw X L T W sa a) (hb : PSsw X L T W sb b) : PSw X L T W (.If l sa sb pos) (.iff c a b) :=
  PS.fr (ps_if hc ha hb) fun D σ H env h D0 re rel m d => .of (d.pt re rel) m fun k h1 H1 m1 s1 => by
    cases k with
    | true => exact .of (re.ext s1.ext) s1.rel m1 (d.go s1)
    | false => exact .of (re.ext s1.ext) s1.rel m1 (d.go s1)
/-! stores -/
theorem sw_tgt {t : Expr} {n : Nat} {en : PySem.Env} (h : (match t with | .Name _ _ => false | _ => true) = true) : swapsWith e (some t) n en = pure false := by
  cases t <;> first | exact absurd h Bool.false_ne_true | skip
  all_goals (cases e <;> rfl)
theorem st_name (g : Good X L T G W) {i : Nat} {x : Str} (hN : G.N[i]? = some x) (hl : locB G.sc x = true) (hn : noComp e = true) (ha : PEw X L T W e a) : PSw X L T W (.Assign [.Name x pos2] e pos) (.set (.name i) a) := by
  obtain ⟨h1, h2⟩ := g.loc hl
  exact PS.fr (ps_set g.nd (by rw [g.N]; exact hN) h1 ha (noComp_sw hn) h2) fun D σ H env h D0 re rel m d => .of (d.pt re rel) m fun v h1 x H1 m1 s1 r1 => d.nx _ _ _ _ m1 s1 ((re.ext s1.ext).set r1)
theorem st_tgtw (g : Good X L T G W) {t : Expr} {gt : CS.G} (h1 : (match t with | .Name _ _ => false | _ => true) = true) (h2 : swappedStores [t] e X.env = pure none) (hp : plainA t = true) (ha : PEw X L T W e a) (hg : PGw X L T t gt) : PSw X L T W (.Assign [t] e pos) (.set gt a) :=
  PS.fr (ps_asg ha hg (sw_tgt h1) h2 (by rw [tgt_cons hp]; rfl)) fun D σ H env h D0 re rel m d => .of (d.pt re rel) m fun v h1 x H1 m1 s1 r1 =>
    ⟨v, env, h1, D0.nx, re.ext s1.ext, s1.rel, r1, m1, fun env' h' σ' H' k s2 re2 _ => d.nx _ _ _ _ k (s1.trans s2) re2⟩
theorem st_tgt (g : Good X L T G W) {t : Expr} {gt : CS.G} (h1 : (match t with | .Name _ _ => false | _ => true) = true) (h2 : noSwap t e = true) (hp : plainA t = true) (ha : PEw X L T W e a) (hg : PGw X L T t gt) : PSw X L T W (.Assign [t] e pos) (.set gt a) := st_tgtw g h1 (noSwap_is h2) hp ha hg
def ipA (o : Op2) : TIp := match o with
  | .add => ipI fun i j => i + j
  | .sub => ipI fun i j => i - j
  | _ => fun _ _ _ _ => False
theorem ipA_ok (o : Op2) : PIp X (opOf o) (ipA o) := by
  cases o <;> first | exact ip_add | exact ip_sub | exact fun _ _ _ _ _ _ _ _ _ _ _ _ q => q.elim
theorem aug2_ip {o : Op2} {vx vy : Val} {K : Val → Prop} {x y : V} {Q : VK} (m : aug2 o vx vy K) (rx : RV L H x vx) (ry : RV L H y vy) (q : ∀ z v, K v → RV L H z v → Q z H) : ipA o x y H Q := by
  unfold aug2 at m
  split at m
  · exact ⟨_, _, rx.int_inv, ry.int_inv, q _ _ m (.int _)⟩
  · exact ⟨_, _, rx.int_inv, ry.int_inv, q _ _ m (.int _)⟩
  · exact m.elim
theorem st_aug (g : Good X L T G W) {i : Nat} {x : Str} {o : Op2} (hN : G.N[i]? = some x) (hl : locB G.sc x = true) (ha : PEw X L T W e a) : PSw X L T W (.AugAssign (.Name x pos2) (opOf o) e pos) (.augn i o a) := by
  obtain ⟨h1, h2⟩ := g.loc hl
  exact PS.fr (ps_aug g.nd (by rw [g.N]; exact hN) h1 ha (ipA_ok o) h2) fun D σ H env h D0 re rel ⟨x, e1, m⟩ d => by
    obtain ⟨y, e2, r⟩ := re.2 i x e1
    exact ⟨y, e2, .of (d.pt re rel) m fun v h1 z H1 m1 s1 r1 => aug2_ip m1 (r.ext s1.ext) r1 fun u v k ru => d.nx _ _ _ _ k s1 ((re.ext s1.ext).set ru)⟩
/-- a list's item -/
theorem pget_lst : PGet X (fun x y H Q => ∃ p xs i v, x = .ref p ∧ y = .int i ∧ SqL X.K H p xs ∧ atI xs i = some v ∧ Q v H) := by
  rintro pins s σ H o i ov iv Q I ro ri ⟨p, xs, k, z, rfl, rfl, hq, he, q⟩
  cases ro
  obtain ⟨t, rfl⟩ := ri
  obtain ⟨its, r, pl, hz⟩ := I.list hq
  obtain ⟨j, h1, h2, h3, h4, h5⟩ := atI_get he
  obtain ⟨w, ew, rw'⟩ := r.get h2
  have hl := r.length
  have hn := line63
  by_cases h0 : 0 ≤ k
  · have hj : k.toNat = j := by rw [seqIndex_of h0 h5] at h1; exact Option.some.inj h1
    exact wpAny_getItem_list pl.isList h0 (by omega) (by rw [hj]; simpa using ew) ⟨z, H, I, rw', q⟩
  · have hj : (k + (its.toArray.size : Int)).toNat = j := by
      rw [seqIndex_neg (by omega) h4] at h1
      rw [List.size_toArray, ← hl]
      exact Option.some.inj h1
    exact wpAny_getItem_list_neg pl.isList (by omega) (by rw [List.size_toArray]; omega) (by omega) (by rw [hj]; simpa using ew) ⟨z, H, I, rw', q⟩
theorem st_augs (g : Good X L T G W) {o : Op2} {l r v : Expr} {x i w : CS.E} (hs : noSl r = true) (ha : PEw X L T W l x) (hb : PEw X L T W r i) (hv : PEw X L T W v w) : PSw X L T W (.AugAssign (.Subscript l r pos2) (opOf o) v pos) (.augs x i o w) :=
  PS.fr (ps_augS ha hb pget_lst hv (ipA_ok o) (set_ok g.hu) (noSl_aug hs)) fun D σ H env h D0 re rel m d => .of (d.pt re rel) m fun vx h1 x1 H1 m1 s1 r1 => .of ((d.pt re rel).go s1) m1 fun vy h2 x2 H2 ⟨p, j, vs, u, e1, e2, e3, e4, m2⟩ s2 r2 => by
    subst e1; subst e2
    obtain rfl := (r1.ext s2.ext).ref_inv
    obtain rfl := r2.int_inv
    obtain ⟨ws, hH, t⟩ := s2.rel.at e3
    obtain ⟨u1, hu, ru⟩ := t.item e4
    exact ⟨p, ws, j, u1, rfl, rfl, .of hH, hu, .of (((d.pt re rel).go s1).go s2) m2 fun vw h4 x4 H4 m4 s4 r4 => aug2_ip m4 (ru.ext s4.ext) r4 fun z vz k rz =>
      ⟨h4, _, _, vz, _, s4.rel, .ref p, .int j, rz, k, fun h6 H6 k6 s6 => d.nx _ _ _ _ k6 (((s1.trans s2).trans s4).trans s6) (((re.ext s1.ext).ext s2.ext).ext s4.ext |>.ext s6.ext)⟩⟩
theorem RFs.put {H : L2.Hp} {f : Str} {w : V} {v : Val} (rv : RV L H w v) : ∀ {fs : List (Str × V)} {gs : List (Str × Val)}, RFs L H fs gs → RFs L H (putF f w fs) (fput f v gs)
  | _, _, .nil => .cons ⟨rfl, rv⟩ .nil
  | (a, x) :: fs, (b, y) :: gs, .cons r t => by
    obtain ⟨e, r⟩ := r
    simp only at e
    subst e
    show RFs L H (if a = f then (a, w) :: fs else (a, x) :: putF f w fs) (if a = f then (a, v) :: gs else (a, y) :: fput f v gs)
    by_cases c : a = f
    · rw [if_pos c, if_pos c]; exact .cons ⟨rfl, rv⟩ t
    · rw [if_neg c, if_neg c]; exact .cons ⟨rfl, r⟩ (RFs.put rv t)
theorem st_attr (g : Good X L T G W) {c f : Str} {ms : ClI} {o v : Expr} {x w : CS.E} (hc : G.cls.lookup c = some ms) (hf : G.flds.contains f = true) (ho : PEw X L T (fun _ _ _ _ => False) o x) (hv : PEw X L T W v w) : PSw X L T W (.Assign [.Attribute o f pos2] v pos) (.set (.attr c x f) w) := by
  obtain ⟨C, ct⟩ := g.tab.cl c ms hc
  have hn := ct.fl f (by simpa using hf)
  have hcl := ct.is
  have hmg := ct.mg
  obtain rfl := g.hL
  refine PS.fr (ps_fld ho hv (sw_tgt rfl)) fun D σ H env h D0 re rel m d => .of (d.pt re rel) m fun vw h1 y H1 m1 s1 r1 => .of (X0 := fun _ _ => False) ⟨re.ext s1.ext, s1.rel, .no⟩ m1 fun vo h2 z H2 ⟨b, fs, ex, hb, hl, k⟩ s2 r2 => ?_
  subst ex
  obtain rfl := r2.ref_inv
  obtain ⟨Ca, dx, fs', e1, e2, e3⟩ := s2.rel _ _ hb
  have e1' := hmg.symm.trans e1
  cases e1'
  have ln : fs'.length = fs.length := Paired.length e3
  refine ⟨b, C, dx, fs', rfl, e2, hcl, hn, by omega, d.nx _ _ _ _ k ?_ (((re.ext s1.ext).ext s2.ext).ext (.upd_mut e2 True.intro))⟩
  refine (s1.trans s2).trans (Stp.put s2.rel hb e2 True.intro ⟨C, dx, _, e1, upd_same, ?_⟩)
  exact RFs.ext (.upd_mut e2 True.intro) (RFs.put (r1.ext s2.ext) e3)
end
end CS

/-! Cs17 -/
/-! Cs17: loops, parallel stores, a comprehension's store. -/
namespace CS
open PySem PySem.Spec PyProof.Rows L2
section
variable {X : Cx} {L : Lk} {T : Tab} {G : Ctx} {W : WX} {σ : L2.St} {env : Env} {h h1 : HS} {H H1 : L2.Hp} {D : Ends} {D0 : Dn}
variable {pos pos2 pos3 pos4 : Pos} {l r e : Expr} {a b c : CS.E}
def forStep (T : Tab) (g : CS.G) (b : CS.Ss) (D : Dn) : Val → Env → HS → (Env → HS → Prop) → Prop := fun x e2 h2 K => wG T g x e2 h2 (fun e3 h3 => wSs T b e3 h3 { nx := K, rt := D.rt, bk := D.nx, ex := D.ex })
theorem st_for (g : Good X L T G W) {tg iter : Expr} {body : List Stmt} {gt : CS.G} {src : CS.Src} {b : CS.Ss} (hs : noSet iter = true) (hi : PIw X L T W tg iter src) (hg : PGw X L T tg gt) (hb : PSsw X L T W body b) :
    PSw X L T W (.For tg iter body [] pos) (.for_ gt src b) :=
  PS.fr (ps_for g.own g.calm hi hg hb (noSet_it hs)) fun D σ H env h D0 re rel m d =>
    ⟨env, h, fun vs ok h1 => forW (forStep T gt b D0) ok vs env h1 D0.nx, D0.ex env, d.pt re rel, m, fun vs ok h1 J H1 m1 s1 io => by
      refine ⟨fun i k σ2 H2 => k = vs.length - i ∧ i ≤ vs.length ∧ ∃ env2 h2, RE L H2 σ2 env2 ∧ Stp L h1 H1 h2 H2 ∧ forW (forStep T gt b D0) ok (vs.drop i) env2 h2 D0.nx, ⟨vs.length, by simp, Nat.zero_le _, env, h1, re.ext s1.ext, .refl s1.rel, m1⟩, ?_⟩
      rintro i k σ2 H2 ⟨rfl, hi2, env2, h2, re2, s2, m2⟩
      by_cases hlt : i < vs.length
      · rw [List.drop_eq_getElem_cons hlt] at m2
        obtain ⟨hok, m2⟩ := m2
        refine .inr ⟨io.go i h2 H2 s2.rel s2.ext hok hlt, fun σ3 H3 => i + 1 ≤ vs.length ∧ ∃ env3 h3, RE L H3 σ3 env3 ∧ Stp L h1 H1 h3 H3 ∧ forW (forStep T gt b D0) ok (vs.drop (i + 1)) env3 h3 D0.nx, fun σ3 H3 ⟨z1, z⟩ => ⟨vs.length - (i + 1), by omega, rfl, z1, z⟩, fun y H3 hy => ?_⟩
        obtain ⟨v, hv, s3, rv⟩ := io.yld i h2 H2 y H3 s2.rel s2.ext hok hlt hy
        have ev : vs[i] = v := by rw [List.getElem?_eq_getElem hlt] at hv; exact Option.some.inj hv
        rw [ev] at m2
        refine ⟨v, env2, h2, _, re2.ext s3.ext, s3.rel, rv, m2, fun env4 h4 σ4 H4 m4 s4 re4 _ => ?_⟩
        have s14 := (s2.trans s3).trans s4
        have s04 := s1.trans s14
        exact .of re4 s4.rel m4 ⟨fun env' h' σ' H' k s r => ⟨hlt, env', h', r, s14.trans s, k⟩, d.rt.ext s04, fun env' h' σ' H' k s r => d.nx _ _ _ _ k (s04.trans s) r, fun env' h' σ' H' s r => d.ex _ _ _ _ (s04.trans s) r⟩
      · have e : i = vs.length := by omega
        subst e
        rw [List.drop_length] at m2
        obtain ⟨hok, m2⟩ := m2
        exact .inl ⟨io.stop h2 H2 s2.rel s2.ext hok, d.nx _ _ _ _ m2 (s1.trans s2) re2⟩⟩
theorem st_while (g : Good X L T G W) {c : CS.C} {body : List Stmt} {b : CS.Ss} (hc : PTw X L T W l c) (hb : PSsw X L T W body b) : PSw X L T W (.While l body [] pos) (.whil c b) :=
  PS.fr (ps_while g.own hc hb) fun D σ H env h D0 re rel ⟨W0, ⟨m0, w0⟩, turn⟩ d => by
    refine ⟨fun m σ2 H2 => ∃ env2 h2, RE L H2 σ2 env2 ∧ Stp L h H h2 H2 ∧ W0 m env2 h2, ⟨m0, env, h, re, .refl rel, w0⟩, ?_⟩
    rintro m σ2 H2 ⟨env2, h2, re2, s2, w2⟩
    refine .of (X0 := D0.ex env2) ⟨re2, s2.rel, d.ex _ _ _ _ s2 re2⟩ (turn m env2 h2 w2) fun k h3 H3 m3 s3 => ?_
    have s23 := s2.trans s3
    cases k with
    | false => exact d.nx _ _ _ _ m3 s23 (re2.ext s3.ext)
    | true =>
      refine ⟨fun σ4 H4 => ∃ m', m' < m ∧ ∃ env4 h4, RE L H4 σ4 env4 ∧ Stp L h H h4 H4 ∧ W0 m' env4 h4, fun σ4 H4 q => q, ?_⟩
      exact .of (re2.ext s3.ext) s3.rel m3 ⟨fun env' h' σ' H' ⟨m', lt, k⟩ s r => ⟨m', lt, env', h', r, s23.trans s, k⟩, d.rt.ext s23, fun env' h' σ' H' k s r => d.nx _ _ _ _ k (s23.trans s) r, fun env' h' σ' H' s r => d.ex _ _ _ _ (s23.trans s) r⟩
/-! a, b = x, y -/
theorem kf (g : Good X L T G W) {x : Str} (h : G.sc.names.lookup x = some .local) : X.env.scope.names.lookup x = some .local := by
  rcases g.scl _ _ h with q | ⟨q, _⟩
  · exact q
  · cases q
def parB (G : Ctx) (i j : Nat) (x y : Str) (px py : Pos) (a b : Expr) : Bool :=
  decide (G.N[i]? = some x) && decide (G.N[j]? = some y) && decide (i ≠ j) && decide (G.sc.names.lookup x = some .local) && decide (G.sc.names.lookup y = some .local) && (py.line == px.line) && plainA a && plainA b && !([a, b].all (foldedForSure 8)) && !([a, b].all (constantsAlone 8))
theorem sw_par {en : PySem.Env} {x y : Str} {px py pt pt2 : Pos} {kt k2} {a b : Expr} (hk : en.scope.kind = .function) (hx : en.scope.names.lookup x = some .local) (hy : en.scope.names.lookup y = some .local) (hn : x ≠ y) (hl : (py.line == px.line) = true)
    (ha : plainA a = true) (hb : plainA b = true) (h1 : [a, b].all (foldedForSure 8) = false) (h2 : [a, b].all (constantsAlone 8) = false) : swappedStores [.Tuple [.Name x px, .Name y py] kt pt] (.Tuple [a, b] k2 pt2) en = pure (some [x, y]) := by
  have kx : en.kindOf x = some .local := hx
  have ky : en.kindOf y = some .local := hy
  have bk : en.blockKind = .function := by unfold PySem.Env.blockKind; rw [hk]; rfl
  have st : ([a, b].any fun | .Starred .. => true | _ => false) = false := by
    cases a <;> first | exact absurd ha Bool.false_ne_true | skip
    all_goals (cases b <;> first | exact absurd hb Bool.false_ne_true | rfl)
  have nxy : (x == y) = false := by simp [hn]
  have nyx : (y == x) = false := by simp [Ne.symm hn]
  have l2 : (Expr.Name y py).pos.line == px.line := hl
  have er : [x, y].eraseDups.length = 2 := by simp [List.eraseDups, List.eraseDupsBy, List.eraseDupsBy.loop, nyx]
  unfold swappedStores
  simp only [bk, List.length_cons, List.length_nil, List.head?_cons, Option.map_some, Option.getD_some, Expr.pos, List.filterMap_cons, List.filterMap_nil, kx, ky, hl, beq_self_eq_true, Bool.and_self, Bool.true_and, if_true]
  refine (if_neg (by decide)).trans ((if_neg (fun z => absurd (st.symm.trans z) Bool.false_ne_true)).trans ((if_neg (by rw [er]; decide)).trans ((if_neg (by rw [h1]; decide)).trans ((if_neg (by rw [h2]; decide)).trans rfl))))
theorem st_par (g : Good X L T G W) {i j : Nat} {x y : Str} {px py pt pt2 : Pos} {kt k2} {ea eb : Expr} (h : parB G i j x y px py ea eb = true) (ha : PEw X L T W ea a) (hb : PEw X L T W eb b) :
    PSw X L T W (.Assign [.Tuple [.Name x px, .Name y py] kt pt] (.Tuple [ea, eb] k2 pt2) pos) (.set (.tup (.cons (.name i) (.cons (.name j) .nil))) (.tup (.cons a (.cons b .nil)))) := by
  unfold parB at h
  simp only [Bool.and_eq_true, decide_eq_true_eq, Bool.not_eq_true'] at h
  obtain ⟨⟨⟨⟨⟨⟨⟨⟨⟨h1, h2⟩, h3⟩, h4⟩, h5⟩, h6⟩, h7⟩, h8⟩, h9⟩, h10⟩ := h
  have hn : x ≠ y := fun z => h3 (nodup_ix g.nd (by rw [g.N]; exact h1) (by rw [g.N, z]; exact h2))
  refine PS.fr (ps_par g.calm g.nd (by rw [g.N]; exact h1) (by rw [g.N]; exact h2) h3 (kf g h4) (kf g h5) (f_cons h7 ha (f_cons h8 hb f_nil)) (sw_par g.kind (kf g h4) (kf g h5) hn h6 h7 h8 h9 h10)) fun D σ H env h D0 re rel m d => ?_
  have m' : wEs T (.cons a (.cons b .nil)) env h (fun vs h1 => vs.length ≤ cap ∧ wG T (.tup (.cons (.name i) (.cons (.name j) .nil))) (.tup vs) env h1 D0.nx) (D0.ex env) := m
  refine tFA.of (d.pt re rel) m' fun vs h1 xs H1 ⟨_, m1⟩ s1 r1 => ?_
  obtain ⟨vs', ev, hz, m1⟩ := m1
  cases ev
  obtain ⟨v, r, e1, v2, r2, e2, e3, m1⟩ := m1
  subst e1; subst e2; subst e3
  obtain ⟨u, w, rfl, ru, rw'⟩ := r1.two
  exact ⟨u, w, rfl, d.nx _ _ _ _ m1 s1 (((re.ext s1.ext).set ru).set rw')⟩
/-- name = [..] on one line -/
theorem st_lc (g : Good X L T G W) {i : Nat} {y : Str} {py : Pos} {elt tg iter : Expr} {ifs : List Expr} {sc : Scope} {x : CS.E} {gt : CS.G} {src : CS.Src} {oc : CS.OC} {own : List Nat}
    (hN : G.N[i]? = some y) (hy : G.sc.names.lookup y = some .local) (hl : (py.line == pos2.line) = true) (hn : (sc.names.any fun (n, k) => n == y && (k == .local || k == .cell)) = false)
    (hb : blkC G.N G.sc sc (ownP G.N own) = true) (hs : noSet iter = true) (hsl : (gSl gt).all own.contains = true) (hi : PIw X L T W tg iter src)
    (hg : ∀ (X' : Cx) (W' : WX), Good X' L T (G.blk sc) W' → PGw X' L T tg gt) (ht : ∀ (X' : Cx) (W' : WX), Good X' L T (G.blk sc) W' → PTsw X' L T W' ifs oc) (he : ∀ (X' : Cx) (W' : WX), Good X' L T (G.blk sc) W' → PEw X' L T W' elt x) :
    PSw X L T W (.Assign [.Name y py] (.ListComp elt [⟨tg, iter, ifs, 0⟩] sc pos2) pos) (.set (.name i) (.lc x gt src oc own)) := by
  have P := ps_setLc (spos := pos) g.calm g.nd (by rw [g.N]; exact hN) (kf g hy) (sw_true g.kind (kf g hy) hl hn) hi (g.bok hb) (fun s H C cl fp => hg _ _ (g.blk hb s H C cl fp)) (fun s H C cl fp => ht _ _ (g.blk hb s H C cl fp)) (fun s H C cl fp => he _ _ (g.blk hb s H C cl fp)) (noSet_it hs)
  rw [own_ix] at P
  exact PS.fr P fun D σ H env h D0 re rel m d => lc_read hsl (d.pt re rel) m fun v h1 x H1 m1 s1 r1 => d.nx _ _ _ _ m1 s1 ((re.ext s1.ext).set r1)
end
end CS

/-! Cs18 -/
/-! Cs18: statements checked. -/
namespace CS
open PySem PySem.Spec PyProof.Rows L2
def notName : Expr → Bool
  | .Name _ _ => false
  | _ => true
def aName (G : Ctx) (gt : CS.G) (e : CS.E) (t v : Expr) : Bool := match gt, t with
  | .name i, .Name x _ => noComp v && decide (G.N[i]? = some x) && locB G.sc x && chkE G e v
  | _, _ => false
def aAttr (G : Ctx) (gt : CS.G) (e : CS.E) (t v : Expr) : Bool := match gt, t with
  | .attr c x f', .Attribute o f _ => decide (f' = f) && (G.cls.lookup c).isSome && G.flds.contains f && chkE G x o && chkE G e v
  | _, _ => false
def aTgt (G : Ctx) (gt : CS.G) (e : CS.E) (t v : Expr) : Bool := notName t && noSwap t v && plainA t && chkG G gt t && chkE G e v
def aCel (G : Ctx) (gt : CS.G) (e : CS.E) (t v : Expr) : Bool := match t, v with
  | .Tuple [.Name x _, .Name y _] _ _, .Tuple _ _ _ => (decide (G.sc.names.lookup x = some .cell) || decide (G.sc.names.lookup y = some .cell)) && chkG G gt t && chkE G e v
  | _, _ => false
def aPar (G : Ctx) (gt : CS.G) (e : CS.E) (t v : Expr) : Bool := match gt, e, t, v with
  | .tup (.cons (.name i) (.cons (.name j) .nil)), .tup (.cons a (.cons b .nil)), .Tuple [.Name x px, .Name y py] _ _, .Tuple [ea, eb] _ _ => parB G i j x y px py ea eb && chkE G a ea && chkE G b eb
  | _, _, _, _ => false
def aLc (G : Ctx) (gt : CS.G) (e : CS.E) (t v : Expr) : Bool := match gt, e, t, v with
  | .name i, .lc elt g s oc own, .Name y py, .ListComp x [⟨tg, iter, ifs, na⟩] sc pos2 =>
    decide (na = 0) && decide (G.N[i]? = some y) && decide (G.sc.names.lookup y = some .local) && (py.line == pos2.line) && !(sc.names.any fun (n, k) => n == y && (k == .local || k == .cell)) && noSet iter && blkC G.N G.sc sc (ownP G.N own) && (gSl g).all own.contains && chkG (G.blk sc) g tg && chkSrc G s iter (isTupT tg) && chkOC (G.blk sc) oc ifs && chkE (G.blk sc) elt x
  | _, _, _, _ => false
mutual
def chkS (G : Ctx) : CS.S → Stmt → Bool
  | .set gt e, .Assign ts v _ => (match ts with
    | [t] => aName G gt e t v || (aAttr G gt e t v || (aTgt G gt e t v || (aPar G gt e t v || (aCel G gt e t v || aLc G gt e t v))))
    | _ => false)
  | .augn i o e, .AugAssign t p v _ => (match t with
    | .Name x _ => decide (opOf o = p) && decide (G.N[i]? = some x) && locB G.sc x && chkE G e v
    | _ => false)
  | .augs a i o e, .AugAssign t p v _ => (match t with
    | .Subscript l r _ => decide (opOf o = p) && noSl r && chkE G a l && chkE G i r && chkE G e v
    | _ => false)
  | .ex e, .Expr v _ => noComp v && chkE G e v
  | .ret e, .Return v _ => (match v with
    | some v => chkE G e v
    | none => false)
  | .retN, .Return v _ => v.isNone
  | .iff c a b, .If t x y _ => chkC G c t && chkSs G a x && chkSs G b y
  | .for_ gt s b, .For tg it x oe _ => (match oe with
    | [] => noSet it && chkG G gt tg && chkSrc G s it (isTupT tg) && chkSs G b x
    | _ => false)
  | .whil c b, .While t x oe _ => (match oe with
    | [] => chkC G c t && chkSs G b x
    | _ => false)
  | .brk, .Break _ => true
  | .pass, .Pass _ => true
  | .raise _ _, .Raise _ _ _ => true
  | _, _ => false
def chkSs (G : Ctx) : CS.Ss → List Stmt → Bool
  | .nil, [] => true
  | .cons s ss, x :: xs => chkS G s x && chkSs G ss xs
  | _, _ => false
end
section
variable {X : Cx} {L : Lk} {T : Tab} {G : Ctx} {W : WX} {gt : CS.G} {e : CS.E} {t v : Expr} {pos : Pos}
theorem Good.quiet (g : Good X L T G W) : Good X L T G (fun _ _ _ _ => False) := ⟨g.kind, g.hL, g.calm, g.nd, g.N, g.scl, g.fnc, takes0, g.own, g.room, g.tab⟩
theorem s_aName (g : Good X L T G W) (h : aName G gt e t v = true) : PSw X L T W (.Assign [t] v pos) (.set gt e) := by
  unfold aName at h
  split at h
  · obtain ⟨h, h4⟩ := and2 h
    obtain ⟨h, h3⟩ := and2 h
    obtain ⟨h1, h2⟩ := and2 h
    exact st_name g (of_decide_eq_true h2) h3 h1 (sE e g v h4)
  · exact absurd h Bool.false_ne_true
theorem s_aAttr (g : Good X L T G W) (h : aAttr G gt e t v = true) : PSw X L T W (.Assign [t] v pos) (.set gt e) := by
  unfold aAttr at h
  split at h
  · obtain ⟨h, h5⟩ := and2 h
    obtain ⟨h, h4⟩ := and2 h
    obtain ⟨h, h3⟩ := and2 h
    obtain ⟨h1, h2⟩ := and2 h
    obtain rfl := of_decide_eq_true h1
    obtain ⟨ms, hc⟩ := Option.isSome_iff_exists.mp h2
    exact st_attr g hc h3 (sE _ g.quiet _ h4) (sE _ g _ h5)
  · exact absurd h Bool.false_ne_true
theorem s_aTgt (g : Good X L T G W) (h : aTgt G gt e t v = true) : PSw X L T W (.Assign [t] v pos) (.set gt e) := by
  obtain ⟨h, h5⟩ := and2 (show ((((notName t && noSwap t v) && plainA t) && chkG G gt t) && chkE G e v) = true from h)
  obtain ⟨h, h4⟩ := and2 h
  obtain ⟨h, h3⟩ := and2 h
  obtain ⟨h1, h2⟩ := and2 h
  exact st_tgt g (by cases t <;> first | rfl | exact absurd h1 Bool.false_ne_true) h2 h3 (sE e g v h5) (sG gt g t h4)
theorem s_aPar (g : Good X L T G W) (h : aPar G gt e t v = true) : PSw X L T W (.Assign [t] v pos) (.set gt e) := by
  unfold aPar at h
  split at h
  · obtain ⟨h, h3⟩ := and2 h
    obtain ⟨h1, h2⟩ := and2 h
    exact st_par g h1 (sE _ g _ h2) (sE _ g _ h3)
  · exact absurd h Bool.false_ne_true
theorem sw_cell {en : PySem.Env} {x y : Str} {px py pt pt2 : Pos} {kt k2} {vs : List Expr} (h : en.kindOf x = some .cell ∨ en.kindOf y = some .cell) : swappedStores [.Tuple [.Name x px, .Name y py] kt pt] (.Tuple vs k2 pt2) en = pure none := by
  have key : ([Expr.Name x px, Expr.Name y py].filterMap fun | .Name id pos => if en.kindOf id == some .local && pos.line == ([Expr.Name x px, Expr.Name y py].head?.map (·.pos.line)).getD 0 then some id else none | _ => none).length ≠ 2 := by
    rcases h with h | h
    · simp only [List.filterMap_cons, h]
      have e : (some NameKind.cell == some NameKind.local) = false := by decide
      rw [e]
      simp only [Bool.false_and, Bool.false_eq_true, if_false, List.filterMap_nil]
      split <;> simp
    · simp only [List.filterMap_cons, h]
      have e : (some NameKind.cell == some NameKind.local) = false := by decide
      rw [e]
      simp only [Bool.false_and, Bool.false_eq_true, if_false, List.filterMap_nil]
      split <;> simp
  unfold swappedStores
  simp only
  split
  · rfl
  · split
    · rfl
    · refine (if_pos ?_).trans rfl
      have k2 : (([Expr.Name x px, Expr.Name y py].filterMap fun | .Name id pos => if en.kindOf id == some .local && pos.line == ([Expr.Name x px, Expr.Name y py].head?.map (·.pos.line)).getD 0 then some id else none | _ => none).length != [Expr.Name x px, Expr.Name y py].length) = true := by
        simp only [bne_iff_ne]; exact key
      exact Bool.or_eq_true_iff.mpr (.inl k2)
theorem kc (g : Good X L T G W) {x : Str} (h : G.sc.names.lookup x = some .cell) : X.env.kindOf x = some .cell := by
  rcases g.scl _ _ h with q | ⟨q, _⟩
  · exact q
  · cases q
theorem s_aCel (g : Good X L T G W) (h : aCel G gt e t v = true) : PSw X L T W (.Assign [t] v pos) (.set gt e) := by
  unfold aCel at h
  split at h
  · obtain ⟨h, h3⟩ := and2 h
    obtain ⟨h1, h2⟩ := and2 h
    have hw : ∀ {px py pt pt2 kt k2 vs}, swappedStores [.Tuple [.Name _ px, .Name _ py] kt pt] (.Tuple vs k2 pt2) X.env = pure none := fun {px py pt pt2 kt k2 vs} => sw_cell (px := px) (py := py) (pt := pt) (pt2 := pt2) (kt := kt) (k2 := k2) (vs := vs) (by
      rcases Bool.or_eq_true_iff.mp h1 with z | z
      · exact .inl (kc g (of_decide_eq_true z))
      · exact .inr (kc g (of_decide_eq_true z)))
    exact st_tgtw g rfl hw rfl (sE e g _ h3) (sG gt g _ h2)
  · exact absurd h Bool.false_ne_true
theorem s_aLc (g : Good X L T G W) (h : aLc G gt e t v = true) : PSw X L T W (.Assign [t] v pos) (.set gt e) := by
  unfold aLc at h
  split at h
  · simp only [Bool.and_eq_true, decide_eq_true_eq, Bool.not_eq_true'] at h
    obtain ⟨⟨⟨⟨⟨⟨⟨⟨⟨⟨⟨h0, h1⟩, h2⟩, h3⟩, h4⟩, h5⟩, h6⟩, h7⟩, h8⟩, h9⟩, h10⟩, h11⟩ := h
    subst h0
    exact st_lc g h1 h2 h3 h4 h6 h5 h7 (sSrc _ g _ _ h9) (fun X' W' g' => sG _ g' _ h8) (fun X' W' g' => sOC _ g' _ h10) (fun X' W' g' => sE _ g' _ h11)
  · exact absurd h Bool.false_ne_true
end
mutual
theorem sS : ∀ (a : CS.S) {X : Cx} {L : Lk} {T : Tab} {G : Ctx} {W : WX}, Good X L T G W → ∀ s : Stmt, chkS G a s = true → PSw X L T W s a
  | .set gt e, X, L, T, G, W, g, s, h => by
    cases s <;> first | exact absurd h Bool.false_ne_true | skip
    rename_i ts v pos
    match ts, h with
    | [t], h =>
      have h : (aName G gt e t v || (aAttr G gt e t v || (aTgt G gt e t v || (aPar G gt e t v || (aCel G gt e t v || aLc G gt e t v))))) = true := h
      simp only [Bool.or_eq_true] at h
      rcases h with h | h | h | h | h | h
      · exact s_aName g h
      · exact s_aAttr g h
      · exact s_aTgt g h
      · exact s_aPar g h
      · exact s_aCel g h
      · exact s_aLc g h
    | [], h => exact absurd h Bool.false_ne_true
    | _ :: _ :: _, h => exact absurd h Bool.false_ne_true
  | .augn i o e, X, L, T, G, W, g, s, h => by
    cases s <;> first | exact absurd h Bool.false_ne_true | skip
    rename_i t p v pos
    cases t <;> first | exact absurd h Bool.false_ne_true | skip
    rename_i x pos2
    obtain ⟨h, h4⟩ := and2 (show (((decide (opOf o = p) && decide (G.N[i]? = some x)) && locB G.sc x) && chkE G e v) = true from h)
    obtain ⟨h, h3⟩ := and2 h
    obtain ⟨h1, h2⟩ := and2 h
    obtain rfl := of_decide_eq_true h1
    exact st_aug g (of_decide_eq_true h2) h3 (sE e g v h4)
  | .augs a i o e, X, L, T, G, W, g, s, h => by
    cases s <;> first | exact absurd h Bool.false_ne_true | skip
    rename_i t p v pos
    cases t <;> first | exact absurd h Bool.false_ne_true | skip
    rename_i l r pos2
    obtain ⟨h, h5⟩ := and2 (show ((((decide (opOf o = p) && noSl r) && chkE G a l) && chkE G i r) && chkE G e v) = true from h)
    obtain ⟨h, h4⟩ := and2 h
    obtain ⟨h, h3⟩ := and2 h
    obtain ⟨h1, h2⟩ := and2 h
    obtain rfl := of_decide_eq_true h1
    exact st_augs g h2 (sE a g l h3) (sE i g r h4) (sE e g v h5)
  | .ex e, X, L, T, G, W, g, s, h => by
    cases s <;> first | exact absurd h Bool.false_ne_true | skip
    rename_i v pos
    have h := and2 (show (noComp v && chkE G e v) = true from h)
    exact st_ex h.1 (sE e g v h.2)
  | .ret e, X, L, T, G, W, g, s, h => by
    cases s <;> first | exact absurd h Bool.false_ne_true | skip
    rename_i v pos
    cases v with
    | none => exact absurd h Bool.false_ne_true
    | some v => exact st_ret (sE e g v h)
  | .retN, X, L, T, G, W, g, s, h => by
    cases s <;> first | exact absurd h Bool.false_ne_true | skip
    rename_i v pos
    cases v with
    | none => exact st_retN
    | some v => exact absurd h Bool.false_ne_true
  | .iff c a b, X, L, T, G, W, g, s, h => by
    cases s <;> first | exact absurd h Bool.false_ne_true | skip
    rename_i t x y pos
    obtain ⟨h, h3⟩ := and2 (show ((chkC G c t && chkSs G a x) && chkSs G b y) = true from h)
    obtain ⟨h1, h2⟩ := and2 h
    exact st_if (sC c g t h1) (sSs a g x h2) (sSs b g y h3)
  | .for_ gt src b, X, L, T, G, W, g, s, h => by
    cases s <;> first | exact absurd h Bool.false_ne_true | skip
    rename_i tg it x oe pos
    match oe, h with
    | [], h =>
      obtain ⟨h, h4⟩ := and2 (show (((noSet it && chkG G gt tg) && chkSrc G src it (isTupT tg)) && chkSs G b x) = true from h)
      obtain ⟨h, h3⟩ := and2 h
      obtain ⟨h1, h2⟩ := and2 h
      exact st_for g h1 (sSrc src g it tg h3) (sG gt g tg h2) (sSs b g x h4)
    | _ :: _, h => exact absurd h Bool.false_ne_true
  | .whil c b, X, L, T, G, W, g, s, h => by
    cases s <;> first | exact absurd h Bool.false_ne_true | skip
    rename_i t x oe pos
    match oe, h with
    | [], h =>
      have h := and2 (show (chkC G c t && chkSs G b x) = true from h)
      exact st_while g (sC c g t h.1) (sSs b g x h.2)
    | _ :: _, h => exact absurd h Bool.false_ne_true
  | .brk, X, L, T, G, W, g, s, h => by
    cases s <;> first | exact absurd h Bool.false_ne_true | skip
    exact st_brk
  | .pass, X, L, T, G, W, g, s, h => by
    cases s <;> first | exact absurd h Bool.false_ne_true | skip
    exact st_pass
  | .raise c es, X, L, T, G, W, g, s, h => CS.PS.imp ps_never fun D σ H ⟨_, _, _, _, _, m, _⟩ => m
  | .try_ b hs, X, L, T, G, W, g, s, h => by cases s <;> exact absurd h Bool.false_ne_true
theorem sSs : ∀ (a : CS.Ss) {X : Cx} {L : Lk} {T : Tab} {G : Ctx} {W : WX}, Good X L T G W → ∀ s : List Stmt, chkSs G a s = true → PSsw X L T W s a
  | .nil, X, L, T, G, W, g, s, h => by
    match s, h with
    | [], h => exact ss_nil
    | _ :: _, h => exact absurd h Bool.false_ne_true
  | .cons a as, X, L, T, G, W, g, s, h => by
    match s, h with
    | [], h => exact absurd h Bool.false_ne_true
    | x :: xs, h =>
      have h := and2 (show (chkS G a x && chkSs G as xs) = true from h)
      exact ss_cons (sS a g x h.1) (sSs as g xs h.2)
end
end CS

/-! Cs19 -/
/-! Cs19: a def by its checked body; the table; the law's end. -/
namespace CS
open PySem PySem.Spec PyProof.Rows L2
section
variable {P : Program} {w : World} {K : PySem.W.Frag} {mg : Str → Option Value} {base : Heap} {T : Tab} {G : Ctx}
theorem good_of {N ps : List Str} {qual : Str} {f : Addr} {cdv : Value} {A : Around} {outer : List PySem.Env} {s : Shared} {H : L2.Hp} {E : XK} (S : FnScope N ps G.sc) (eN : G.N = N) (tab : TabOk P w ⟨K, mg⟩ base G T)
    (room : Room G.k (A.deeper (envOfC qual G.sc s.heap.objs.size f cdv))) : Good (cxOf (L2.CX P w) P w K mg base N qual G.sc f cdv A outer s H E) ⟨K, mg⟩ T G (fun cls d _ H => E cls d H) where
  kind := S.kind
  hL := rfl
  calm := rfl
  nd := S.nd
  N := eN.symm
  scl _ _ e := .inl e
  fnc _ _ := rfl
  tk := takes_of rfl rfl rfl rfl
  own := passes_of rfl
  room := room
  tab := tab
theorem start_re {N ps : List Str} {H : L2.Hp} {vs : List V} {args : List Val} (r : RVs ⟨K, mg⟩ H vs args) (hl : args.length ≤ N.length) : RE ⟨K, mg⟩ H (L2.start N vs) (args.map some ++ List.replicate (N.length - args.length) none) := by
  have l := r.length
  refine ⟨by unfold L2.start; simp [l], fun i v e => ?_⟩
  by_cases hi : i < args.length
  · rw [List.getElem?_append_left (by simpa using hi), List.getElem?_map] at e
    cases ha : args[i]? with
    | none => rw [ha] at e; cases e
    | some u =>
      rw [ha] at e
      cases e
      obtain ⟨x, hx, rx⟩ := r.get ha
      refine ⟨x, ?_, rx⟩
      unfold L2.start
      rw [List.getElem?_append_left (by simpa [l] using hi), List.getElem?_map, hx]
      rfl
  · rw [List.getElem?_append_right (by simpa using hi), List.getElem?_replicate] at e
    split at e <;> cases e
/-- a def whose body is checked and keeps its promise -/
theorem mk_fn {x qual : Str} {params : Arguments} {stmts : List Stmt} {scope : Scope} {f : Addr} {oc dV kV doc pm cdv ct : Value} {od an : Option Addr} {osl : Array (Option Value)} {N ps : List Str} {sp : FS} {body : CS.Ss}
    (l : K.lookup f = some ⟨oc, od, .func (PySem.W.fnOf x qual params stmts scope dV kV doc pm an cdv ct), osl⟩) (c : PySem.W.codeIn K cdv qual = true) (S : FnScope N ps scope) (eN : G.N = N) (es : G.sc = scope)
    (chk : chkSs G body stmts = true) (tab : TabOk P w ⟨K, mg⟩ base G T) (kp : Keeps T N.length ps.length body sp) : FnOk P w K mg base (L2.CX P w) (G.k + 1) f (PySem.W.fnOf x qual params stmts scope dV kV doc pm an cdv ct) ps (spOf ⟨K, mg⟩ sp) := by
  subst es
  have hpl : ps.length ≤ N.length := by have := congrArg List.length S.pre; rw [List.length_take] at this; omega
  refine fn_of l c S (fun vs H Q E ⟨args, h, Q0, X0, r, rel, m, _⟩ => r.length.trans (kp _ _ _ _ m).1) fun A outer s H vs Q E room ⟨args, h, Q0, X0, r, rel, m, q, xw⟩ => ⟨_, sSs body (good_of S eN tab room) stmts chk, ?_⟩
  obtain ⟨hl, m⟩ := kp _ _ _ _ m
  refine ⟨_, h, _, start_re (N := N) (ps := ps) r (by omega), rel, m, ⟨?_, ?_, ?_, ?_⟩⟩
  · rintro env' h' σ' H' ⟨h0, sb, k⟩ st re'
    exact q _ _ _ _ k (st.drop sb) .non
  · rintro v h' y H' ⟨h0, sb, k⟩ st rv
    exact q _ _ _ _ k (st.drop sb) rv
  · rintro env' h' σ' H' k
    exact k.elim
  · rintro env' h' σ' H' st re' e h2 c d H2 ⟨h0, sb, k⟩ st2 rx
    exact xw e h0 c d H2 k ((st.trans st2).drop sb) rx
theorem fnT_of {x qual : Str} {st : Stmt} {f : Addr} {fd : FuncData} {N ps : List Str} {sp : FS} {body : CS.Ss} (F : L2.Fun K x qual st f fd) (hb : Binds K fd ps []) (S : FnScope N ps (defScope st)) (eN : G.N = N) (es : G.sc = defScope st)
    (chk : chkSs G body (defBody st) = true) (tab : TabOk P w ⟨K, mg⟩ base G T) (kp : Keeps T N.length ps.length body sp) : FnT P w ⟨K, mg⟩ base ⟨ps, G.k + 1⟩ [] sp f := by
  obtain ⟨oc, od, kV, doc, pm, an, cdv, ct, osl, rfl, lk, hcd⟩ := F.ex
  exact ⟨_, [], [], mk_fn lk hcd S eN es chk tab kp, hb, .nil, fun _ => .nil⟩
end
section
variable {P : Program} {w : World} {K : PySem.W.Frag} {mg : Str → Option Value} {base : Heap}
/-- a def whose last default is the empty tuple -/
theorem fnT_e {x qual : Str} {params : Arguments} {stmts : List Stmt} {scope : Scope} {f Td Ea : Addr} {oc kV doc pm cdv ct : Value} {od an : Option Addr} {osl : Array (Option Value)} {ps : List Str} {k n2 n3 : Nat} {sp : FS} {oT oE : PySem.Obj}
    (l : K.lookup f = some ⟨oc, od, .func (PySem.W.fnOf x qual params stmts scope (.ref Td) kV doc pm an cdv ct), osl⟩) (c : PySem.W.codeIn K cdv qual = true) (kp : PySem.W.keepIn K (.ref f) = true)
    (lT : K.lookup Td = some oT) (dT : oT.data = .seq #[.ref Ea] n2) (lE : K.lookup Ea = some oE) (cE : oE.cls = .type "tuple") (dE : oE.data = .seq #[] n3)
    (ok : FnOk P w K mg base (L2.CX P w) k f (PySem.W.fnOf x qual params stmts scope (.ref Td) kV doc pm an cdv ct) ps (spOf ⟨K, mg⟩ sp))
    (h0 : ∀ (T : Addr) (kV doc pm : Value) (an : Option Addr) (cdv ct : Value) (us its : List Value), us.length + 1 = ps.length → its.length = 1 → ∃ g, bindArgs (PySem.W.fnOf x qual params stmts scope (.ref T) kV doc pm an cdv ct) ⟨us, []⟩ = seqItems? (.ref T) >>= g ∧ g (some its.toArray) = pure (ps.zip (us ++ its.drop 0)))
    (h1 : ∀ (T : Addr) (kV doc pm : Value) (an : Option Addr) (cdv ct : Value) (us its : List Value), us.length = ps.length → its.length = 1 → ∃ g, bindArgs (PySem.W.fnOf x qual params stmts scope (.ref T) kV doc pm an cdv ct) ⟨us, []⟩ = seqItems? (.ref T) >>= g ∧ g (some its.toArray) = pure (ps.zip (us ++ its.drop 1))) (hp : 1 ≤ ps.length) :
    FnT P w ⟨K, mg⟩ base ⟨ps, k⟩ [] sp f ∧ FnT P w ⟨K, mg⟩ base ⟨ps, k⟩ [.tup []] sp f := by
  have F : FunD K x qual params stmts scope [.ref Ea] [] f (PySem.W.fnOf x qual params stmts scope (.ref Td) kV doc pm an cdv ct) := ⟨⟨oc, od, _, kV, doc, pm, an, cdv, ct, osl, rfl, l, c, .inr ⟨by simp, Td, oT, [.ref Ea], n2, rfl, lT, dT, .cons rfl .nil⟩, .inl rfl⟩, kp⟩
  obtain ⟨d1, v1, b1⟩ := F.binds1 (ps := ps) ps.length 1 (by simp) (by simp) fun T kV doc pm an cdv ct us its e1 e2 => h1 T kV doc pm an cdv ct us its e1 e2
  obtain ⟨d0, v0, b0⟩ := F.binds1 (ps := ps) (ps.length - 1) 0 (by simp) (by simp; omega) fun T kV doc pm an cdv ct us its e1 e2 => h0 T kV doc pm an cdv ct us its (by omega) e2
  refine ⟨⟨_, [], d1, ok, b1, v1, fun _ => .nil⟩, ⟨_, [.ref Ea], d0, ok, b0, v0, fun H => .cons (.tup0 (.inr ⟨oE, #[], n3, lE, cE, dE, Nat.zero_le _, .nil⟩)) .nil⟩⟩
end
/-! ### the table -/
def AllP {α : Type} (φ : α → Prop) : List α → Prop
  | [] => True
  | x :: r => φ x ∧ AllP φ r
theorem AllP.mem {α : Type} {φ : α → Prop} : ∀ {l : List α}, AllP φ l → ∀ x ∈ l, φ x
  | _ :: _, h, _, .head _ => h.1
  | _ :: _, h, _, .tail _ m => AllP.mem h.2 _ m
theorem look_mem {α : Type} {x : Str} {v : α} : ∀ {l : List (Str × α)}, l.lookup x = some v → (x, v) ∈ l
  | [], h => by simp at h
  | (y, u) :: r, h => by
    rw [List.lookup_cons] at h
    cases e : x == y with
    | true =>
      rw [e] at h
      simp only at h
      rw [eq_of_beq e, Option.some.inj h]
      exact .head _
    | false =>
      rw [e] at h
      exact .tail _ (look_mem h)
def FnE (P : Program) (w : World) (L : Lk) (base : Heap) (T : Tab) (k : Nat) (p : Str × FI) : Prop := p.2.lv ≤ k ∧ ∃ fa, L.mg p.1 = some (.ref fa) ∧ PySem.W.keepIn L.K (.ref fa) = true ∧ FnT P w L base p.2 [] (T.fn p.1) fa
theorem tab_mk {P : Program} {w : World} {L : Lk} {base : Heap} {G : Ctx} {T : Tab} (hf : AllP (FnE P w L base T G.k) G.fns) (hc : AllP (fun p => ∃ C, ClT P w L base G T p.1 p.2 C) G.cls)
    (hcc : AllP (fun p => AllP (fun q => p.1 = q.1 ∨ T.cs.contains p.1 = false ∨ G.isc.contains q.1 = false ∨ ∃ C D, L.mg p.1 = some (.ref C) ∧ L.mg q.1 = some (.ref D) ∧ PySem.W.kitOne L.K (.ref C) (.ref D) = some false) G.cls) G.cls)
    (hg : AllP (fun p => GlV L p.1 p.2) G.gls) (hb : AllP (fun x => L.mg x = none) G.blt) (hs : AllP (fun c => (G.cls.lookup c).isSome = true) T.cs) : TabOk P w L base G T where
  fn f i e := hf.mem _ (look_mem e)
  cl c ms e := hc.mem _ (look_mem e)
  cc c d ms ns C D e1 e2 k1 k2 hn m1 m2 := by
    rcases (hcc.mem _ (look_mem e1)).mem _ (look_mem e2) with z | z | z | ⟨C', D', a1, a2, a3⟩
    · exact absurd z hn
    · rw [k1] at z; cases z
    · rw [k2] at z; cases z
    · rw [m1] at a1; rw [m2] at a2
      cases a1; cases a2
      exact a3
  gl x v e := hg.mem _ (look_mem e)
  bl x e := hb.mem _ e
  cs c e := Option.isSome_iff_exists.mp (hs.mem _ (by simpa using e))
/-! ### the law -/
def lawFS (n : Nat) : FS := fun args h Q X => ∃ ns : List Int, args = [.rol (ns.map .int)] ∧ ns.length ≤ n ∧ (∀ z ∈ ns, Builtin.Int.intBits z ≤ 1048576) ∧ ∀ h', Q (.bl true) h'
def spLaw (K : PySem.W.Frag) (n : Nat) : Sp := fun vs H Q E => ∃ (a : Addr) (ns : List Int), vs = [.ref a] ∧ ns.length ≤ n ∧ (∀ z ∈ ns, Builtin.Int.intBits z ≤ 1048576) ∧ Only H ∧ SqL K H a (ns.map V.int) ∧ ∀ H', Q (.bl true) H'
theorem law_imp {K : PySem.W.Frag} {mg : Str → Option Value} {n : Nat} {vs : List V} {H : L2.Hp} {Q : VK} {E : XK} (h : spLaw K n vs H Q E) : spOf ⟨K, mg⟩ (lawFS n) vs H Q E := by
  obtain ⟨a, ns, rfl, hl, hb, ho, hs, q⟩ := h
  have hr : RoL ⟨K, mg⟩ H a (ns.map V.int) := by
    rcases hs with (hs | hs) | hs
    · rcases ho a with z | ⟨o, xs, z⟩
      · rw [z] at hs; cases hs
      · rw [z] at hs; cases hs
    · exact .inl hs
    · exact .inr hs
  refine ⟨[.rol (ns.map .int)], fun _ => none, fun v _ => v = .bl true, fun _ _ => False, .cons (.rol hr (RVs.of_ints ns)) .nil, fun a o e => absurd e (by simp), ⟨ns, rfl, hl, hb, fun _ => rfl⟩, fun v h' x H' e _ r => ?_, fun _ _ _ _ _ z => z.elim⟩
  subst e
  rw [r.bl_inv]
  exact q H'
theorem walk_cs {l : PySem.W.OpenLaw} {n k : Nat} {q : Program} {loose : List Str} {XP : (Str → Option Value) → Heap → Prop} {YP : World → Heap → Prop} {d : DefRec} {K : Params → PySem.W.Frag} {x : Str} (hn : l.most = some n) (hn2 : n ≤ sizeLine) (hdf : d.params.defaults = []) (room : Room k callerA)
    (hY : ∀ (w : World) (h : Heap), YP w h → (K w.params).In h)
    (F : ∀ (w : World) (mg : Str → Option Value) (fa : Addr) (h : Heap), (K w.params).In h → h.Ns mainGlobals mg → mg d.name = some (.ref fa) →
      ∃ fd : FuncData, (∀ (s : Shared) (u : Value), BindsTo s fd ⟨[u], []⟩ [(x, u)]) ∧ ∀ base : Heap, (K w.params).In base → base.Ns mainGlobals mg → FnOk l.prog w (K w.params) mg base (L2.CX l.prog w) k fa fd [x] (spOf ⟨K w.params, mg⟩ (lawFS n))) :
    PySem.W.WalkO q loose XP YP l.row.toRowW d [] (fun f vs => PySem.call f vs) := by
  refine walk_ofB (l := l) (n := n) (k := k) (x := x) (CX := fun w => L2.CX l.prog w) (sp := fun w => spLaw (K w.params) n) hn hn2 hdf room hY (fun w mg fa h a b c => ?_) (fun w H a ns h1 h2 h3 h4 => ⟨a, ns, rfl, h1, h2, h3, h4, fun _ => rfl⟩) fun w H s e s' z => ?_
  · obtain ⟨fd, hb, hF⟩ := F w mg fa h a b c
    exact ⟨fd, hb, fun base kb nb => (hF base kb nb).imp fun _ _ _ _ => law_imp⟩
  · obtain ⟨_, _, _, _, _, _, _, _, _, _, _, _, z⟩ := z
    exact z
end CS

/-! Cs20 -/
/-! Cs20: rules by which the small language's conditions are shown, from the head. -/
namespace CS
open PySem
theorem up_at (h : HS) (a : Nat) (o : Obj) : (h.up a o) a = some o := by unfold HS.up; rw [if_pos rfl]
theorem up_ne {h : HS} {a b : Nat} {o : Obj} (n : b ≠ a) : (h.up a o) b = h b := by unfold HS.up; rw [if_neg n]
theorem up_up (h : HS) (a : Nat) (o o' : Obj) : (h.up a o).up a o' = h.up a o' := by
  funext b
  unfold HS.up
  split <;> rfl
theorem ne_new {h : HS} {a p : Nat} {o : Obj} (e : h a = some o) (n : h p = none) : a ≠ p := fun z => by rw [z, n] at e; cases e
theorem Sub.refl (h : HS) : Sub h h := fun _ _ e => e
theorem Sub.trans {h h1 h2 : HS} (a : Sub h h1) (b : Sub h1 h2) : Sub h h2 := fun p o e => b p o (a p o e)
theorem Sub.new {h : HS} {p : Nat} {o : Obj} (n : h p = none) : Sub h (h.up p o) := fun a x e => by rw [up_ne (ne_new e n)]; exact e
theorem Sub.up {h h1 : HS} {p : Nat} {o : Obj} (s : Sub h h1) : Sub (h.up p o) (h1.up p o) := fun a x e => by
  unfold HS.up at e ⊢
  split at e
  · rename_i c; rw [if_pos c]; exact e
  · rename_i c; rw [if_neg c]; exact s _ _ e
theorem ClQ.of {Q : PV} {v : Val} {h h' : HS} (q : Q v h) (s : Sub h h') : ClQ Q v h' := ⟨h, s, q⟩
theorem ClQ.here {Q : PV} {v : Val} {h : HS} (q : Q v h) : ClQ Q v h := ⟨h, .refl h, q⟩
section
variable {h : HS} {Q : PV} {K : HS → Prop} {B : Bool → Prop} {i j : Int} {a b : Nat} {vs ws : List Val} {v w : Val}
/-! operators -/
theorem o_add (q : Q (.int (i + j)) h) : op2 .add h (.int i) (.int j) Q := q
theorem o_sub (q : Q (.int (i - j)) h) : op2 .sub h (.int i) (.int j) Q := q
theorem o_mulL (h1 : -(2 ^ 64) < i) (h2 : i < 2 ^ 64) (q : Q (.int (i * j)) h) : op2 .mul h (.int i) (.int j) Q := ⟨.inl ⟨h1, h2⟩, q⟩
theorem o_mulR (h1 : -(2 ^ 64) < j) (h2 : j < 2 ^ 64) (q : Q (.int (i * j)) h) : op2 .mul h (.int i) (.int j) Q := ⟨.inr ⟨h1, h2⟩, q⟩
theorem o_div (h1 : 0 < j) (h2 : j < 1073741824) (q : Q (.int (i / j)) h) : op2 .fdiv h (.int i) (.int j) Q := ⟨⟨by omega, by omega⟩, by rw [Int.fdiv_eq_ediv_of_nonneg _ (by omega)]; exact q⟩
theorem o_mod (h1 : 0 < j) (q : Q (.int (i % j)) h) : op2 .mod h (.int i) (.int j) Q := ⟨by omega, by rw [Int.fmod_eq_emod_of_nonneg _ (by omega)]; exact q⟩
theorem o_pow (h1 : 0 ≤ j) (h2 : j ≤ 1000000) (h3 : i.natAbs < 2 ^ 64) (q : Q (.int (i ^ j.toNat)) h) : op2 .pow h (.int i) (.int j) Q := ⟨⟨h1, h2, h3⟩, q⟩
theorem o_addT (hl : vs.length + ws.length ≤ cap) (q : Q (.tup (vs ++ ws)) h) : op2 .add h (.tup vs) (.tup ws) Q := ⟨hl, q⟩
theorem o_addL (e1 : h a = some (.list vs)) (e2 : h b = some (.list ws)) (hl : vs.length + ws.length ≤ cap) (q : ∀ p, h p = none → Q (.ref p) (h.up p (.list (vs ++ ws)))) : op2 .add h (.ref a) (.ref b) Q := by
  simp only [op2, e1, e2]
  exact ⟨hl, q⟩
theorem o_addR (e2 : h b = some (.list ws)) (hl : vs.length + ws.length ≤ cap) (q : ∀ p, h p = none → Q (.ref p) (h.up p (.list (vs ++ ws)))) : op2 .add h (.rol vs) (.ref b) Q := by
  simp only [op2, e2]
  exact ⟨hl, q⟩
theorem o_rep (e1 : h a = some (.list vs)) (h1 : 0 ≤ i) (h2 : i < 100000) (hl : vs.length ≤ 100) (q : ∀ p, h p = none → Q (.ref p) (h.up p (.list (List.replicate i.toNat vs).flatten))) : op2 .mul h (.ref a) (.int i) Q := by
  simp only [op2, e1]
  refine ⟨by omega, by omega, ?_, q⟩
  have h3 : i.toNat ≤ 100000 := by omega
  exact Nat.le_trans (Nat.mul_le_mul hl h3) (by decide)
/-! comparisons -/
theorem c_lt (q : B (decide (i < j))) : cmp2 .lt h (.int i) (.int j) B := ⟨_, _, rfl, rfl, q⟩
theorem c_le (q : B (decide (i ≤ j))) : cmp2 .le h (.int i) (.int j) B := ⟨_, _, rfl, rfl, q⟩
theorem c_gt (q : B (decide (j < i))) : cmp2 .gt h (.int i) (.int j) B := ⟨_, _, rfl, rfl, q⟩
theorem c_ge (q : B (decide (j ≤ i))) : cmp2 .ge h (.int i) (.int j) B := ⟨_, _, rfl, rfl, q⟩
theorem toD_int (n : Nat) : toD h n (.int i) = some (.int i) := by cases n <;> rfl
theorem eqv_int (i j : Int) : PyData.eqv (.int i) (.int j) = decide (i = j) := by
  by_cases e : i = j
  · subst e; simp [PyData.eqv]
  · simp [PyData.eqv, e]
theorem c_eqI (q : B (decide (i = j))) : cmp2 .eq h (.int i) (.int j) B := ⟨_, _, toD_int _, toD_int _, by rw [eqv_int]; exact q⟩
theorem c_neI (q : B (!decide (i = j))) : cmp2 .ne h (.int i) (.int j) B := ⟨_, _, toD_int _, toD_int _, by rw [eqv_int]; exact q⟩
theorem c_isN (q : B (isNon v)) : cmp2 .is h v .non B := ⟨rfl, q⟩
theorem c_nisN (q : B (!isNon v)) : cmp2 .nis h v .non B := ⟨rfl, q⟩
/-! subscripts -/
theorem x_lst (e : h a = some (.list vs)) (ei : itemAt vs i = some v) (q : Q v h) : ixS h (.ref a) (.int i) Q := by
  simp only [ixS, e]
  exact ⟨i, vs, v, rfl, by unfold listAt; rw [e], ei, q⟩
theorem x_tup (ei : itemAt vs i = some v) (q : Q v h) : ixS h (.tup vs) (.int i) Q := ⟨i, v, rfl, ei, q⟩
theorem x_set {k : Nat} (e : h a = some (.list vs)) (ei : ixAt vs.length i = some k) (q : K (h.up a (.list (vs.set k v)))) : setIx h (.ref a) (.int i) v K := by
  simp only [setIx, e]
  exact ⟨i, k, rfl, ei, q⟩
theorem itemAt_nat {n : Nat} (e : vs[n]? = some v) : itemAt vs (n : Int) = some v := by
  have hl := (List.getElem?_eq_some_iff.mp e).1
  unfold itemAt ixAt
  rw [if_pos (Int.natCast_nonneg n), if_pos (by omega)]
  exact e
/-! tests -/
theorem t_if {c : Bool} {A C : Prop} (h1 : c = true → A) (h2 : c = false → C) : if c = true then A else C := by
  cases c
  · exact h2 rfl
  · exact h1 rfl
theorem t_dec {p : Prop} [Decidable p] {A C : Prop} (h1 : p → A) (h2 : ¬p → C) : if decide p = true then A else C := by
  by_cases c : p
  · rw [if_pos (decide_eq_true c)]; exact h1 c
  · rw [if_neg (by simp [c])]; exact h2 c
theorem t_decN {p : Prop} [Decidable p] {A C : Prop} (h1 : ¬p → A) (h2 : p → C) : if (!decide p) = true then A else C := by
  by_cases c : p
  · rw [if_neg (by simp [c])]; exact h2 c
  · rw [if_pos (by simp [c])]; exact h1 c
theorem t_ff {A C : Prop} (q : C) : if false = true then A else C := by rw [if_neg Bool.false_ne_true]; exact q
theorem t_T {A C : Prop} [inst : Decidable True] (q : A) : @ite Prop True inst A C := by rw [if_pos True.intro]; exact q
theorem t_F {A C : Prop} [inst : Decidable False] (q : C) : @ite Prop False inst A C := by rw [if_neg id]; exact q
theorem t_tt {A C : Prop} (q : A) : if true = true then A else C := by rw [if_pos rfl]; exact q
/-! built-ins -/
theorem b_lenT (q : Q (.int vs.length) h) : biS .len [.tup vs] h Q := q
theorem b_lenR (q : Q (.int vs.length) h) : biS .len [.rol vs] h Q := q
theorem b_lenL (e : h a = some (.list vs)) (q : Q (.int vs.length) h) : biS .len [.ref a] h Q := by
  simp only [biS, e]
  exact ⟨vs, by unfold listAt; rw [e], q⟩
theorem b_listT (q : ∀ p, h p = none → Q (.ref p) (h.up p (.list vs))) : biS .list [.tup vs] h Q := q
theorem b_listR (q : ∀ p, h p = none → Q (.ref p) (h.up p (.list vs))) : biS .list [.rol vs] h Q := q
theorem b_listL (e : h a = some (.list vs)) (q : ∀ p, h p = none → Q (.ref p) (h.up p (.list vs))) : biS .list [.ref a] h Q := by
  simp only [biS, e]
  exact ⟨vs, by unfold listAt; rw [e], q⟩
theorem b_tupL (e : h a = some (.list vs)) (q : Q (.tup vs) h) : biS .tuple [.ref a] h Q := ⟨vs, by unfold seqOf listAt; simp only [e], q⟩
theorem ints_of (ns : List Int) : (ns.map Val.int).mapM asInt = some ns := by
  induction ns with
  | nil => rfl
  | cons n ns ih => rw [List.map_cons, List.mapM_cons, ih]; rfl
theorem b_sorted {ns : List Int} (e : h a = some (.list (ns.map .int))) (q : ∀ p, h p = none → Q (.ref p) (h.up p (.list ((sortI ns).map .int)))) : biS .sorted [.ref a] h Q := ⟨_, ns, by unfold listAt; rw [e], ints_of ns, q⟩
theorem b_sum {ns : List Int} (e : h a = some (.list (ns.map .int))) (q : Q (.int ns.sum) h) : biS .sum [.ref a] h Q := ⟨_, ns, by unfold listAt; rw [e], ints_of ns, q⟩
theorem b_minL {ns : List Int} {m : Int} (e : h a = some (.list (ns.map .int))) (em : minI ns = some m) (q : Q (.int m) h) : biS .min [.ref a] h Q := ⟨_, ns, m, by unfold listAt; rw [e], ints_of ns, em, q⟩
theorem b_maxL {ns : List Int} {m : Int} (e : h a = some (.list (ns.map .int))) (em : maxI ns = some m) (q : Q (.int m) h) : biS .max [.ref a] h Q := ⟨_, ns, m, by unfold listAt; rw [e], ints_of ns, em, q⟩
theorem b_min2 (q : Q (.int (min i j)) h) : biS .min [.int i, .int j] h Q := q
theorem b_max2 (q : Q (.int (max i j)) h) : biS .max [.int i, .int j] h Q := q
theorem b_intB {c : Bool} (q : Q (.int (if c then 1 else 0)) h) : biS .int [.bl c] h Q := q
theorem m_app (e : h a = some (.list vs)) (hl : vs.length < cap) (q : Q .non (h.up a (.list (vs ++ [v])))) : bmS .append (.ref a) [v] h Q := ⟨a, vs, v, rfl, rfl, e, hl, q⟩
theorem m_ext (e : h a = some (.list vs)) (e2 : h b = some (.list ws)) (hl : vs.length + ws.length ≤ cap) (q : Q .non (h.up a (.list (vs ++ ws)))) : bmS .extend (.ref a) [.ref b] h Q := ⟨a, vs, b, ws, rfl, rfl, e, e2, hl, q⟩
theorem m_clr (e : h a = some (.list vs)) (q : Q .non (h.up a (.list []))) : bmS .clear (.ref a) [] h Q := ⟨a, vs, rfl, rfl, e, q⟩
theorem bm_lst {m : BM} (hm : bmT m h (.ref a) = ∃ p us, Val.ref a = .ref p ∧ h p = some (.list us)) (e : h a = some (.list vs)) : bmT m h (.ref a) := by rw [hm]; exact ⟨a, vs, rfl, e⟩
theorem s_lst {lo hi : Option Int} (e : h a = some (.list vs)) (q : ∀ p, h p = none → Q (.ref p) (h.up p (.list (cut vs lo hi)))) : slS h (.ref a) lo hi Q := ⟨vs, by unfold listAt; rw [e], q⟩
theorem s_tup {lo hi : Option Int} (q : Q (.tup (cut vs lo hi)) h) : slS h (.tup vs) lo hi Q := q
theorem la (e : h a = some (.list vs)) : listAt h a = some vs := by unfold listAt; rw [e]
theorem sq (e : h a = some (.list vs)) : seqOf h (.ref a) = some vs := la e
/-! loops -/
theorem for_inv {step : Val → Env → HS → (Env → HS → Prop) → Prop} {ok : HS → Prop} {vs : List Val} {env : Env} {h : HS} {K : Env → HS → Prop} (I : Nat → Env → HS → Prop) (h0 : I 0 env h) (hok : ∀ i e h, I i e h → ok h)
    (hs : ∀ i x e h K', vs[i]? = some x → I i e h → (∀ e1 h1, I (i + 1) e1 h1 → K' e1 h1) → step x e h K') (hd : ∀ e h, I vs.length e h → K e h) : forW step ok vs env h K := by
  have key : ∀ (us : List Val) (n : Nat) (e : Env) (h : HS), (∀ j, us[j]? = vs[n + j]?) → n + us.length = vs.length → I n e h → forW step ok us e h K := by
    intro us
    induction us with
    | nil => intro n e h _ hl hi; exact ⟨hok _ _ _ hi, hd _ _ (by simp at hl; rw [← hl]; exact hi)⟩
    | cons u us ih =>
      intro n e h hj hl hi
      refine ⟨hok _ _ _ hi, hs n u e h _ (by have := hj 0; simpa using this.symm) hi fun e1 h1 hi1 => ih (n + 1) e1 h1 (fun j => ?_) (by simp at hl; omega) hi1⟩
      have := hj (j + 1)
      rw [show n + 1 + j = n + (j + 1) by omega, ← this]
      simp
  exact key vs 0 env h (fun j => by simp) (by simp) h0
theorem lc_inv {step : Val → HS → (Option Val → HS → Prop) → Prop} {ok : HS → Prop} {vs : List Val} {h : HS} {K : List Val → HS → Prop} (I : Nat → List Val → HS → Prop) (h0 : I 0 [] h) (hok : ∀ i acc h, I i acc h → ok h)
    (hs : ∀ i x acc h K', vs[i]? = some x → I i acc h → (∀ y h1, I (i + 1) (acc ++ y.toList) h1 → K' y h1) → step x h K') (hd : ∀ acc h, I vs.length acc h → K acc h) : lcW step ok vs h [] K := by
  have key : ∀ (us : List Val) (n : Nat) (acc : List Val) (h : HS), (∀ j, us[j]? = vs[n + j]?) → n + us.length = vs.length → I n acc h → lcW step ok us h acc K := by
    intro us
    induction us with
    | nil => intro n e h _ hl hi; exact ⟨hok _ _ _ hi, hd _ _ (by simp at hl; rw [← hl]; exact hi)⟩
    | cons u us ih =>
      intro n e h hj hl hi
      refine ⟨hok _ _ _ hi, hs n u e h _ (by have := hj 0; simpa using this.symm) hi fun y h1 hi1 => ih (n + 1) _ h1 (fun j => ?_) (by simp at hl; omega) hi1⟩
      have := hj (j + 1)
      rw [show n + 1 + j = n + (j + 1) by omega, ← this]
      simp
  exact key vs 0 [] h (fun j => by simp) (by simp) h0
theorem mapIdx_inv {f : Nat → Val → Val} {vs : List Val} {i : Nat} {x : Val} (e : (vs.mapIdx f)[i]? = some x) : ∃ v, vs[i]? = some v ∧ x = f i v := by
  rw [List.getElem?_mapIdx] at e
  cases hv : vs[i]? with
  | none => rw [hv] at e; cases e
  | some v => rw [hv] at e; exact ⟨v, rfl, (Option.some.inj e).symm⟩
theorem for_enum {step : Val → Env → HS → (Env → HS → Prop) → Prop} {ok : HS → Prop} {vs : List Val} {env : Env} {h : HS} {K : Env → HS → Prop} (I : Nat → Env → HS → Prop) (h0 : I 0 env h) (hok : ∀ i e h, I i e h → ok h)
    (hs : ∀ i v e h K', vs[i]? = some v → I i e h → (∀ e1 h1, I (i + 1) e1 h1 → K' e1 h1) → step (.tup [.int (i : Int), v]) e h K') (hd : ∀ e h, I vs.length e h → K e h) : forW step ok (vs.mapIdx fun k v => .tup [.int (k : Int), v]) env h K :=
  for_inv I h0 hok (fun i x e h K' ex hi k => by
    obtain ⟨v, hv, rfl⟩ := mapIdx_inv ex
    exact hs i v e h K' hv hi k) fun e h hi => hd e h (by rw [List.length_mapIdx] at hi; exact hi)
theorem rng_len (a b : Int) : (rngV a b).length = (b - a).toNat := by unfold rngV; rw [List.length_map, List.length_range]
theorem rng_inv {a b : Int} {i : Nat} {x : Val} (e : (rngV a b)[i]? = some x) : i < (b - a).toNat ∧ x = .int (a + i) := by
  unfold rngV at e
  rw [List.getElem?_map] at e
  by_cases hi : i < (b - a).toNat
  · rw [List.getElem?_range hi] at e
    exact ⟨hi, (Option.some.inj e).symm⟩
  · rw [List.getElem?_eq_none (by rw [List.length_range]; omega)] at e
    cases e
theorem for_rng {step : Val → Env → HS → (Env → HS → Prop) → Prop} {a b : Int} {env : Env} {h : HS} {K : Env → HS → Prop} (I : Nat → Env → HS → Prop) (h0 : I 0 env h)
    (hs : ∀ i e h K', i < (b - a).toNat → I i e h → (∀ e1 h1, I (i + 1) e1 h1 → K' e1 h1) → step (.int (a + i)) e h K') (hd : ∀ e h, I (b - a).toNat e h → K e h) : forW step (fun _ => True) (rngV a b) env h K :=
  for_inv I h0 (fun _ _ _ _ => True.intro) (fun i x e h K' ex hi k => by
    obtain ⟨h1, rfl⟩ := rng_inv ex
    exact hs i e h K' h1 hi k) fun e h hi => hd e h (by rw [rng_len] at hi; exact hi)
/-- a comprehension that reads: f gives what is put -/
theorem lc_pure {step : Val → HS → (Option Val → HS → Prop) → Prop} {ok : HS → Prop} {vs : List Val} {h : HS} {K : List Val → HS → Prop} (f : Val → Option Val) (hok : ok h) (hs : ∀ x K', x ∈ vs → K' (f x) h → step x h K') (hd : K (vs.filterMap f) h) : lcW step ok vs h [] K := by
  have key : ∀ (us acc : List Val), (∀ x ∈ us, x ∈ vs) → K (acc ++ us.filterMap f) h → lcW step ok us h acc K := by
    intro us
    induction us with
    | nil => intro acc _ k; exact ⟨hok, by simpa using k⟩
    | cons u us ih =>
      intro acc hu k
      refine ⟨hok, hs u _ (hu u (.head _)) (ih _ (fun x hx => hu x (.tail _ hx)) ?_)⟩
      rw [List.filterMap_cons] at k
      cases e : f u with
      | none => rw [e] at k; simpa using k
      | some y => rw [e] at k; simpa using k
  exact key vs [] (fun _ hx => hx) (by simpa using hd)
theorem lc_cont {step : Val → HS → (Option Val → HS → Prop) → Prop} {ok : HS → Prop} {vs : List Val} {h : HS} {K : List Val → HS → Prop} (g : Nat → Option Val) (hok : ok h) (hs : ∀ i v K', vs[i]? = some v → K' (g i) h → step v h K') (hd : K ((List.range vs.length).filterMap g) h) : lcW step ok vs h [] K := by
  refine lc_inv (fun i acc h' => h' = h ∧ acc = (List.range i).filterMap g) ⟨rfl, rfl⟩ (fun _ _ _ z => z.1 ▸ hok) ?_ fun acc h' ⟨z1, z2⟩ => by subst z1; subst z2; exact hd
  rintro i x acc h' K' hx ⟨rfl, rfl⟩ k
  refine hs i x K' hx (k _ _ ⟨rfl, ?_⟩)
  rw [List.range_succ, List.filterMap_append, List.filterMap_cons, List.filterMap_nil]
  cases g i <;> rfl
theorem lc_enum {step : Val → HS → (Option Val → HS → Prop) → Prop} {ok : HS → Prop} {vs : List Val} {h : HS} {K : List Val → HS → Prop} (g : Nat → Option Val) (hok : ok h) (hs : ∀ (i : Nat) v K', vs[i]? = some v → K' (g i) h → step (.tup [.int (i : Int), v]) h K') (hd : K ((List.range vs.length).filterMap g) h) : lcW step ok (vs.mapIdx fun k v => .tup [.int (k : Int), v]) h [] K :=
  lc_cont g hok (fun i x K' ex k => by
    obtain ⟨v, hv, rfl⟩ := mapIdx_inv ex
    exact hs i v K' hv k) (by rw [List.length_mapIdx]; exact hd)
theorem lc_rng {step : Val → HS → (Option Val → HS → Prop) → Prop} {a b : Int} {h : HS} {K : List Val → HS → Prop} (g : Nat → Option Val) (hs : ∀ i K', i < (b - a).toNat → K' (g i) h → step (.int (a + i)) h K') (hd : K ((List.range (b - a).toNat).filterMap g) h) : lcW step (fun _ => True) (rngV a b) h [] K :=
  lc_cont g True.intro (fun i x K' ex k => by
    obtain ⟨h1, rfl⟩ := rng_inv ex
    exact hs i K' h1 k) (by rw [rng_len]; exact hd)
theorem filterMap_some {α β : Type} (f : α → β) (l : List α) : (l.filterMap fun x => some (f x)) = l.map f := by induction l <;> simp_all
theorem lc_map {α : Type} (c : α → Val) {cs : List α} {step : Val → HS → (Option Val → HS → Prop) → Prop} {ok : HS → Prop} {h : HS} {K : List Val → HS → Prop} (f : α → Option Val) (hok : ok h) (hs : ∀ x K', x ∈ cs → K' (f x) h → step (c x) h K') (hd : K (cs.filterMap f) h) : lcW step ok (cs.map c) h [] K := by
  have key : ∀ (us : List α) (acc : List Val), (∀ x ∈ us, x ∈ cs) → K (acc ++ us.filterMap f) h → lcW step ok (us.map c) h acc K := by
    intro us
    induction us with
    | nil => intro acc _ k; exact ⟨hok, by simpa using k⟩
    | cons u us ih =>
      intro acc hu k
      refine ⟨hok, hs u _ (hu u (.head _)) (ih _ (fun x hx => hu x (.tail _ hx)) ?_)⟩
      rw [List.filterMap_cons] at k
      cases e : f u with
      | none => rw [e] at k; simpa using k
      | some y => rw [e] at k; simpa using k
  exact key cs [] (fun _ hx => hx) (by simpa using hd)
theorem filterMap_if {α β : Type} (p : α → Bool) (c : α → β) (l : List α) : (l.filterMap fun x => if p x = true then some (c x) else none) = (l.filter p).map c := by
  induction l with
  | nil => rfl
  | cons x l ih =>
    rw [List.filterMap_cons, List.filter_cons]
    cases p x <;> simp [ih]
end
end CS

/-! K20b -/
/-! the mathematics of shapes and corners, no program in sight -/
namespace M20
abbrev Cell := Nat × Nat
/-- a shape: at most 8 rows of 1 to 8, not increasing -/
structure Sh (s : List Nat) : Prop where
  len : s.length ≤ 8
  lo : ∀ x ∈ s, 1 ≤ x
  hi : ∀ x ∈ s, x ≤ 8
  dec : s.Pairwise (fun a b => b ≤ a)
def row (s : List Nat) (r : Nat) : Nat := s.getD r 0
theorem Sh.row_hi {s : List Nat} (h : Sh s) (r : Nat) : row s r ≤ 8 := by
  unfold row
  rw [List.getD_eq_getElem?_getD]
  cases e : s[r]? with
  | none => simp
  | some x => exact h.hi x (List.mem_of_getElem? e)
theorem Sh.row_lo {s : List Nat} (h : Sh s) {r : Nat} (hr : r < s.length) : 1 ≤ row s r := by
  unfold row
  rw [List.getD_eq_getElem?_getD, List.getElem?_eq_getElem hr]
  exact h.lo _ (List.getElem_mem hr)
theorem row_out {s : List Nat} {r : Nat} (hr : s.length ≤ r) : row s r = 0 := by
  unfold row
  rw [List.getD_eq_getElem?_getD, List.getElem?_eq_none hr]; rfl
theorem Sh.row_dec {s : List Nat} (h : Sh s) (r : Nat) : row s (r + 1) ≤ row s r := by
  by_cases h1 : r + 1 < s.length
  · have h0 : r < s.length := by omega
    have := List.pairwise_iff_getElem.mp h.dec r (r + 1) h0 h1 (by omega)
    unfold row
    rw [List.getD_eq_getElem?_getD, List.getD_eq_getElem?_getD, List.getElem?_eq_getElem h0, List.getElem?_eq_getElem h1]
    exact this
  · rw [row_out (by omega)]; exact Nat.zero_le _
/-- the cells of rows n, n + 1, .. -/
def cellsFrom (inner : List Nat) : Nat → List Nat → List Cell
  | _, [] => []
  | n, l :: r => ((List.range (l - row inner n)).map fun k => (n, row inner n + k)) ++ cellsFrom inner (n + 1) r
def cells (outer inner : List Nat) : List Cell := cellsFrom inner 0 outer
theorem mem_from {n : Nat} : ∀ {s : List Nat} {r c : Nat}, (r, c) ∈ cellsFrom [] n s ↔ n ≤ r ∧ c < row s (r - n)
  | [], r, c => by simp [cellsFrom, row]
  | l :: s, r, c => by
    unfold cellsFrom
    rw [List.mem_append, mem_from (s := s)]
    simp only [List.mem_map, List.mem_range, Prod.mk.injEq]
    have e0 : row [] n = 0 := by simp [row]
    rw [e0]
    constructor
    · rintro (⟨k, hk, e1, e2⟩ | ⟨h1, h2⟩)
      · subst e1
        rw [Nat.sub_self]
        refine ⟨Nat.le_refl _, ?_⟩
        show c < (l :: s).getD 0 0
        simp; omega
      · refine ⟨by omega, ?_⟩
        have e : r - n = (r - (n + 1)) + 1 := by omega
        rw [e]
        simpa [row] using h2
    · rintro ⟨h1, h2⟩
      by_cases hn : r = n
      · subst hn
        rw [Nat.sub_self] at h2
        left
        refine ⟨c, ?_, rfl, by omega⟩
        simpa [row] using h2
      · right
        refine ⟨by omega, ?_⟩
        have e : r - n = (r - (n + 1)) + 1 := by omega
        rw [e] at h2
        simpa [row] using h2
theorem mem_cells {s : List Nat} {r c : Nat} : (r, c) ∈ cells s [] ↔ c < row s r := by
  unfold cells
  rw [mem_from]
  simp
/-- the law's inner corners -/
def lawIn (s : List Nat) : List Cell := (cells s []).filter fun p => decide ((p.1, p.2 + 1) ∉ cells s []) && decide ((p.1 + 1, p.2) ∉ cells s [])
/-- the program's -/
def progIn (s : List Nat) : List Cell := (List.range s.length).filterMap fun r => if row s (r + 1) < row s r then some (r, row s r - 1) else none
theorem filter_last (n m : Nat) (hn : 1 ≤ n) (f : Nat → Bool) (hf : ∀ c, c < n → (f c = true ↔ n ≤ c + 1 ∧ m ≤ c)) : (List.range n).filter f = if m < n then [n - 1] else [] := by
  obtain ⟨k, rfl⟩ : ∃ k, n = k + 1 := ⟨n - 1, by omega⟩
  rw [List.range_succ, List.filter_append]
  have h1 : (List.range k).filter f = [] := by
    rw [List.filter_eq_nil_iff]
    intro c hc
    have hc' := List.mem_range.mp hc
    rw [hf c (by omega)]
    omega
  rw [h1, List.nil_append]
  by_cases h : m < k + 1
  · rw [if_pos h]
    have : f k = true := (hf k (by omega)).mpr ⟨by omega, by omega⟩
    simp [this]
  · rw [if_neg h]
    have : f k = false := by
      cases e : f k with
      | false => rfl
      | true => have := (hf k (by omega)).mp e; omega
    simp [this]
theorem in_from {s : List Nat} (h : Sh s) : ∀ (t : List Nat) (n : Nat), (∀ j, row t j = row s (n + j)) → t.length + n = s.length → (cellsFrom [] n t).filter (fun p => decide ((p.1, p.2 + 1) ∉ cells s []) && decide ((p.1 + 1, p.2) ∉ cells s [])) = ((List.range t.length).map (n + ·)).filterMap fun r => if row s (r + 1) < row s r then some (r, row s r - 1) else none
  | [], n, _, _ => rfl
  | l :: t, n, hr, hl => by
    have e0 : row [] n = 0 := by simp [row]
    have el : l = row s n := by have := hr 0; simpa [row] using this
    have hn : n < s.length := by simp at hl; omega
    have ih := in_from h t (n + 1) (fun j => by have := hr (j + 1); rw [show n + 1 + j = n + (j + 1) by omega, ← this]; simp [row]) (by simp at hl; omega)
    unfold cellsFrom
    rw [List.filter_append, ih, e0, List.length_cons, List.range_succ_eq_map, List.map_cons, List.map_map, List.filterMap_cons]
    have hmap : (List.range t.length).map ((fun x => n + x) ∘ Nat.succ) = (List.range t.length).map (n + 1 + ·) := by
      apply List.map_congr_left
      intro x _
      show n + (x + 1) = n + 1 + x
      omega
    rw [hmap]
    have hfl : (List.map (fun k => (n, 0 + k)) (List.range (l - 0))).filter (fun p : Cell => decide ((p.1, p.2 + 1) ∉ cells s []) && decide ((p.1 + 1, p.2) ∉ cells s [])) = if row s (n + 1) < row s n then [(n, row s n - 1)] else [] := by
      rw [List.filter_map, Nat.sub_zero]
      have := filter_last l (row s (n + 1)) (by rw [el]; exact h.row_lo hn) ((fun p : Cell => decide ((p.1, p.2 + 1) ∉ cells s []) && decide ((p.1 + 1, p.2) ∉ cells s [])) ∘ fun k => (n, 0 + k)) (fun c hc => by
        simp only [Function.comp, Bool.and_eq_true, decide_eq_true_eq, mem_cells, Nat.zero_add]
        rw [← el]; omega)
      rw [this, ← el]
      split <;> simp
    rw [hfl]
    simp only [Nat.add_zero]
    split <;> simp
theorem lawIn_eq {s : List Nat} (h : Sh s) : lawIn s = progIn s := by
  unfold lawIn progIn
  have := in_from h s 0 (fun j => by simp) (by simp)
  unfold cells at this ⊢
  rw [this]
  congr 1
  simp
/-- the law's outer corners, the program's -/
def lawOut (s : List Nat) : List Cell := ((List.range 8).map fun r => ((List.range 8).filter fun c => (decide (c = 0) || decide ((r, c - 1) ∈ cells s [])) && (decide (r = 0) || decide ((r - 1, c) ∈ cells s [])) && decide ((r, c) ∉ cells s [])).map fun c => (r, c)).flatten
def progOut (s : List Nat) : List Cell := (List.range (min (s.length + 1) 8)).filterMap fun r => if row s r < 8 ∧ (r = 0 ∨ row s r < row s (r - 1)) then some (r, row s r) else none
theorem filter_one (n m : Nat) (b : Bool) (f : Nat → Bool) (hf : ∀ c, c < n → (f c = true ↔ c = m ∧ b = true)) : (List.range n).filter f = if m < n ∧ b = true then [m] else [] := by
  induction n with
  | zero => simp
  | succ k ih =>
    rw [List.range_succ, List.filter_append, ih fun c hc => hf c (by omega)]
    have hk := hf k (by omega)
    cases e : f k with
    | true =>
      obtain ⟨h1, h2⟩ := hk.mp e
      subst h1
      simp [e, h2]
    | false =>
      have : ¬ (k = m ∧ b = true) := fun z => by rw [hk.mpr z] at e; cases e
      simp only [e, List.filter_cons, List.filter_nil, Bool.false_eq_true, if_false, List.append_nil]
      by_cases hb : b = true
      · have : k ≠ m := fun z => this ⟨z, hb⟩
        by_cases hm : m < k
        · rw [if_pos ⟨hm, hb⟩, if_pos ⟨by omega, hb⟩]
        · rw [if_neg (fun z => hm z.1), if_neg (fun z => by omega)]
      · rw [if_neg (fun z => hb z.2), if_neg (fun z => hb z.2)]
theorem flat_opt {α β : Type} (f : α → Option β) : ∀ l : List α, (l.map fun x => (f x).toList).flatten = l.filterMap f
  | [] => rfl
  | x :: l => by
    rw [List.map_cons, List.flatten_cons, flat_opt f l, List.filterMap_cons]
    cases f x <;> rfl
theorem lawOut_eq {s : List Nat} (h : Sh s) : lawOut s = progOut s := by
  have key : ∀ r, ((List.range 8).filter fun c => (decide (c = 0) || decide ((r, c - 1) ∈ cells s [])) && (decide (r = 0) || decide ((r - 1, c) ∈ cells s [])) && decide ((r, c) ∉ cells s [])) = if row s r < 8 ∧ (decide (r = 0 ∨ row s r < row s (r - 1))) = true then [row s r] else [] := by
    intro r
    refine filter_one 8 (row s r) _ _ fun c hc => ?_
    simp only [Bool.and_eq_true, Bool.or_eq_true, decide_eq_true_eq, mem_cells]
    constructor
    · rintro ⟨⟨h1, h2⟩, h3⟩
      have : c = row s r := by omega
      refine ⟨this, ?_⟩
      rw [← this]; exact h2
    · rintro ⟨rfl, h2⟩
      refine ⟨⟨by omega, h2⟩, by omega⟩
  have e1 : lawOut s = (List.range 8).filterMap fun r => if row s r < 8 ∧ (r = 0 ∨ row s r < row s (r - 1)) then some (r, row s r) else none := by
    unfold lawOut
    rw [← flat_opt]
    congr 1
    apply List.map_congr_left
    intro r _
    rw [key r]
    simp only [decide_eq_true_eq]
    split <;> rfl
  rw [e1]
  unfold progOut
  have hm : min (s.length + 1) 8 ≤ 8 := Nat.min_le_right _ _
  obtain ⟨d, hd⟩ : ∃ d, 8 = min (s.length + 1) 8 + d := ⟨8 - min (s.length + 1) 8, by omega⟩
  have hr8 : List.range 8 = List.range (min (s.length + 1) 8) ++ (List.range d).map (fun x => min (s.length + 1) 8 + x) := by
    conv => lhs; rw [hd]
    rw [List.range_add]
  rw [hr8, List.filterMap_append]
  suffices hs : (List.map (fun x => min (s.length + 1) 8 + x) (List.range d)).filterMap (fun r => if row s r < 8 ∧ (r = 0 ∨ row s r < row s (r - 1)) then some (r, row s r) else none) = [] by
    rw [hs, List.append_nil]
  rw [List.filterMap_eq_nil_iff]
  intro r hr
  obtain ⟨x, hx, rfl⟩ := List.mem_map.mp hr
  have hx' := List.mem_range.mp hx
  have hge : s.length + 1 ≤ min (s.length + 1) 8 + x := by omega
  rw [if_neg]
  rintro ⟨_, h2⟩
  rw [row_out (by omega), row_out (by omega)] at h2
  omega
end M20

/-! K20a -/
namespace K20
open PySem PySem.Spec PyProof.Rows L2 CS
def topS (i : Nat) : Stmt := PySem.Challenge.pw_crowdswap_k20_corners.main.body.getD i (.Pass ⟨0, 0, 0, 0⟩)
def clsS (i j : Nat) : Stmt := (C8.clsBody (topS i)).getD j (.Pass ⟨0, 0, 0, 0⟩)
/-! is_int -/
def s_is_int : Stmt := topS 6
def b_is_int : CS.Ss := (.cons (.ret (.and (.isi (.var 0) (.b .int)) (.not (.isi (.var 0) (.b .bool))))) .nil)
def N_is_int : List Str := ["value"]
def i_is_int : FI := ⟨["value"], 1⟩
def G_is_int : CS.Ctx := { N := N_is_int, sc := defScope s_is_int, k := 0, fns := [], cls := [], flds := [], gls := [], blt := ["bool", "int", "isinstance"] }
theorem sc_is_int : FnScope N_is_int ["value"] (defScope s_is_int) := ⟨rfl, rfl, rfl, by decide +kernel, rfl, by decide +kernel, by decide +kernel⟩
theorem ck_is_int : chkSs G_is_int b_is_int (defBody s_is_int) = true := by decide +kernel
/-! check_shape -/
def s_check_shape : Stmt := topS 7
def b_check_shape : CS.Ss := (.cons (.iff (.or (.not (.val (.isi (.var 0) (.b .tuple)))) (.cmp .gt (.bi .len (.cons (.var 0) .nil)) (.glob "MAX_SIZE" (.int 8)))) (.cons (.raise "" .nil) .nil) .nil) (.cons (.for_ (.tup (.cons (.name 1) (.cons (.name 2) .nil))) (.enum (.var 0)) (.cons (.iff (.or (.not (.val (.call "is_int" (.cons (.var 2) .nil)))) (.or (.not (.chain .le .le (.lit (.int 1)) (.var 2) (.glob "MAX_SIZE" (.int 8)))) (.and (.cmp .gt (.var 1) (.lit (.int 0))) (.cmp .gt (.var 2) (.ix (.var 0) (.op .sub (.var 1) (.lit (.int 1)))))))) (.cons (.raise "" .nil) .nil) .nil) .nil)) .nil))
def N_check_shape : List Str := ["shape", "index", "length"]
def i_check_shape : FI := ⟨["shape"], 2⟩
def G_check_shape : CS.Ctx := { N := N_check_shape, sc := defScope s_check_shape, k := 1, fns := [("is_int", i_is_int)], cls := [], flds := [], gls := [("MAX_SIZE", .int 8)], blt := ["enumerate", "isinstance", "len", "tuple"] }
theorem sc_check_shape : FnScope N_check_shape ["shape"] (defScope s_check_shape) := ⟨rfl, rfl, rfl, by decide +kernel, rfl, by decide +kernel, by decide +kernel⟩
theorem ck_check_shape : chkSs G_check_shape b_check_shape (defBody s_check_shape) = true := by decide +kernel
/-! Region.__init__ -/
def s_Region_init : Stmt := clsS 8 0
def b_Region_init : CS.Ss := (.cons (.ex (.call "check_shape" (.cons (.var 1) .nil))) (.cons (.ex (.call "check_shape" (.cons (.var 2) .nil))) (.cons (.for_ (.tup (.cons (.name 3) (.cons (.name 4) .nil))) (.enum (.var 2)) (.cons (.iff (.or (.cmp .ge (.var 3) (.bi .len (.cons (.var 1) .nil))) (.cmp .gt (.var 4) (.ix (.var 1) (.var 3)))) (.cons (.raise "" .nil) .nil) .nil) .nil)) (.cons (.set (.attr "Region" (.var 0) "outer") (.var 1)) (.cons (.set (.attr "Region" (.var 0) "inner") (.var 2)) .nil)))))
def N_Region_init : List Str := ["self", "outer", "inner", "row", "length"]
def i_Region_init : FI := ⟨["self", "outer", "inner"], 3⟩
def G_Region_init : CS.Ctx := { N := N_Region_init, sc := defScope s_Region_init, k := 2, fns := [("check_shape", i_check_shape)], cls := [("Region", ⟨[], []⟩)], flds := ["inner", "outer"], gls := [], blt := ["enumerate", "len"] }
theorem sc_Region_init : FnScope N_Region_init ["self", "outer", "inner"] (defScope s_Region_init) := ⟨rfl, rfl, rfl, by decide +kernel, rfl, by decide +kernel, by decide +kernel⟩
theorem ck_Region_init : chkSs G_Region_init b_Region_init (defBody s_Region_init) = true := by decide +kernel
/-! _law_cells -/
def s_law_cells : Stmt := topS 18
def b_law_cells : CS.Ss := (.cons (.set (.name 2) (.op .add (.bi .list (.cons (.var 1) .nil)) (.op .mul (.lst (.cons (.lit (.int 0)) .nil)) (.bi .len (.cons (.var 0) .nil))))) (.cons (.set (.name 3) (.lst .nil)) (.cons (.for_ (.tup (.cons (.name 4) (.cons (.name 5) .nil))) (.enum (.var 0)) (.cons (.set (.name 3) (.op .add (.var 3) (.lc (.tup (.cons (.var 4) (.cons (.var 6) .nil))) (.name 6) (.rng2 (.ix (.var 2) (.var 4)) (.var 5)) .no [6]))) .nil)) (.cons (.ret (.var 3)) .nil))))
def N_law_cells : List Str := ["_law_outer", "_law_inner", "_law_starts", "_law_found", "_law_row", "_law_length", "_law_column"]
def i_law_cells : FI := ⟨["_law_outer", "_law_inner"], 1⟩
def G_law_cells : CS.Ctx := { N := N_law_cells, sc := defScope s_law_cells, k := 0, fns := [], cls := [], flds := [], gls := [], blt := ["enumerate", "len", "list", "range"] }
theorem sc_law_cells : FnScope N_law_cells ["_law_outer", "_law_inner"] (defScope s_law_cells) := ⟨rfl, rfl, rfl, by decide +kernel, rfl, by decide +kernel, by decide +kernel⟩
theorem ck_law_cells : chkSs G_law_cells b_law_cells (defBody s_law_cells) = true := by decide +kernel
/-! _law_corners -/
def s_law_corners : Stmt := topS 19
def b_law_corners : CS.Ss := (.cons (.set (.tup (.cons (.name 2) (.cons (.name 3) .nil))) (.tup (.cons (.call "_law_cells" (.cons (.var 1) (.cons (.tup .nil) .nil))) (.cons (.call "_law_cells" (.cons (.var 0) (.cons (.tup .nil) .nil))) .nil)))) (.cons (.set (.name 4) (.lc (.var 5) (.name 5) (.ex (.var 2)) (.so (.and (.cmp .nmem (.tup (.cons (.ix (.var 5) (.lit (.int 0))) (.cons (.op .add (.ix (.var 5) (.lit (.int 1))) (.lit (.int 1))) .nil))) (.var 2)) (.cmp .nmem (.tup (.cons (.op .add (.ix (.var 5) (.lit (.int 0))) (.lit (.int 1))) (.cons (.ix (.var 5) (.lit (.int 1))) .nil))) (.var 2)))) [5])) (.cons (.set (.name 6) (.lst .nil)) (.cons (.for_ (.name 7) (.rng1 (.lit (.int 8))) (.cons (.for_ (.name 8) (.rng1 (.lit (.int 8))) (.cons (.set (.name 9) (.or (.cmp .eq (.var 8) (.lit (.int 0))) (.cmp .mem (.tup (.cons (.var 7) (.cons (.op .sub (.var 8) (.lit (.int 1))) .nil))) (.var 3)))) (.cons (.iff (.and (.val (.var 9)) (.and (.or (.cmp .eq (.var 7) (.lit (.int 0))) (.cmp .mem (.tup (.cons (.op .sub (.var 7) (.lit (.int 1))) (.cons (.var 8) .nil))) (.var 3))) (.cmp .nmem (.tup (.cons (.var 7) (.cons (.var 8) .nil))) (.var 3)))) (.cons (.ex (.bm .append (.var 6) (.cons (.tup (.cons (.var 7) (.cons (.var 8) .nil))) .nil))) .nil) .nil) .nil))) .nil)) (.cons (.ret (.tup (.cons (.var 4) (.cons (.var 6) .nil)))) .nil)))))
def N_law_corners : List Str := ["_law_outer", "_law_inner", "_law_inside", "_law_whole", "_law_found", "_law_cell", "_law_more", "_law_row", "_law_column", "_law_good"]
def i_law_corners : FI := ⟨["_law_outer", "_law_inner"], 2⟩
def G_law_corners : CS.Ctx := { N := N_law_corners, sc := defScope s_law_corners, k := 1, fns := [("_law_cells", i_law_cells)], cls := [], flds := [], gls := [], blt := ["range"] }
theorem sc_law_corners : FnScope N_law_corners ["_law_outer", "_law_inner"] (defScope s_law_corners) := ⟨rfl, rfl, rfl, by decide +kernel, rfl, by decide +kernel, by decide +kernel⟩
theorem ck_law_corners : chkSs G_law_corners b_law_corners (defBody s_law_corners) = true := by decide +kernel
/-! _law_draw -/
def s_law_draw : Stmt := topS 15
def b_law_draw : CS.Ss := (.cons (.iff (.cmp .gt (.ix (.var 0) (.lit (.int 0))) (.lit (.int 0))) (.cons (.set (.name 2) (.op .mod (.ix (.var 0) (.lit (.int 0))) (.var 1))) (.cons (.set (.sub (.var 0) (.lit (.int 0))) (.op .fdiv (.ix (.var 0) (.lit (.int 0))) (.var 1))) (.cons (.ret (.var 2)) .nil))) .nil) (.cons (.set (.sub (.var 0) (.lit (.int 2))) (.op .add (.ix (.var 0) (.lit (.int 2))) (.lit (.int 1)))) (.cons (.set (.name 3) (.op .mod (.op .mul (.op .add (.op .add (.ix (.var 0) (.lit (.int 1))) (.op .mul (.lit (.int 104729)) (.ix (.var 0) (.lit (.int 2))))) (.lit (.int 1))) (.lit (.int 48271))) (.lit (.int 2147483647)))) (.cons (.set (.name 3) (.op .mod (.op .mul (.var 3) (.op .add (.op .fdiv (.var 3) (.lit (.int 1009))) (.lit (.int 69621)))) (.lit (.int 2147483647)))) (.cons (.ret (.op .mod (.op .mod (.op .mul (.var 3) (.op .add (.op .fdiv (.var 3) (.lit (.int 2003))) (.lit (.int 40692)))) (.lit (.int 2147483399))) (.var 1))) .nil)))))
def N_law_draw : List Str := ["_law_well", "_law_limit", "_law_found", "_law_number"]
def i_law_draw : FI := ⟨["_law_well", "_law_limit"], 1⟩
def G_law_draw : CS.Ctx := { N := N_law_draw, sc := defScope s_law_draw, k := 0, fns := [], cls := [], flds := [], gls := [], blt := [] }
theorem sc_law_draw : FnScope N_law_draw ["_law_well", "_law_limit"] (defScope s_law_draw) := ⟨rfl, rfl, rfl, by decide +kernel, rfl, by decide +kernel, by decide +kernel⟩
theorem ck_law_draw : chkSs G_law_draw b_law_draw (defBody s_law_draw) = true := by decide +kernel
/-! _law_shape -/
def s_law_shape : Stmt := topS 16
def b_law_shape : CS.Ss := (.cons (.set (.name 3) (.lc (.call "_law_draw" (.cons (.var 0) (.cons (.op .add (.var 2) (.lit (.int 1))) .nil))) (.name 4) (.rng1 (.call "_law_draw" (.cons (.var 0) (.cons (.op .add (.var 1) (.lit (.int 1))) .nil)))) .no [4])) (.cons (.ret (.bi .tuple (.cons (.lc (.var 5) (.name 5) (.ex (.rev (.bi .sorted (.cons (.var 3) .nil)))) (.so (.cmp .gt (.var 5) (.lit (.int 0)))) [5]) .nil))) .nil))
def N_law_shape : List Str := ["_law_well", "_law_rows", "_law_columns", "_law_lengths", "_law_k", "_law_length"]
def i_law_shape : FI := ⟨["_law_well", "_law_rows", "_law_columns"], 2⟩
def G_law_shape : CS.Ctx := { N := N_law_shape, sc := defScope s_law_shape, k := 1, fns := [("_law_draw", i_law_draw)], cls := [], flds := [], gls := [], blt := ["range", "sorted", "tuple"] }
theorem sc_law_shape : FnScope N_law_shape ["_law_well", "_law_rows", "_law_columns"] (defScope s_law_shape) := ⟨rfl, rfl, rfl, by decide +kernel, rfl, by decide +kernel, by decide +kernel⟩
theorem ck_law_shape : chkSs G_law_shape b_law_shape (defBody s_law_shape) = true := by decide +kernel
/-! _law_within -/
def s_law_within : Stmt := topS 17
def b_law_within : CS.Ss := (.cons (.set (.name 2) (.lst .nil)) (.cons (.for_ (.name 3) (.ex (.var 1)) (.cons (.set (.name 4) (.bi .min (.cons (.op .add (.lst (.cons (.var 3) .nil)) (.sl (.var 2) (.so (.neg (.lit (.int 1)))) .no)) .nil))) (.cons (.ex (.bm .append (.var 2) (.cons (.ix (.lst (.cons (.var 4) (.cons (.call "_law_draw" (.cons (.var 0) (.cons (.op .add (.var 4) (.lit (.int 1))) .nil))) (.cons (.call "_law_draw" (.cons (.var 0) (.cons (.op .add (.var 4) (.lit (.int 1))) .nil))) .nil)))) (.call "_law_draw" (.cons (.var 0) (.cons (.lit (.int 3)) .nil)))) .nil))) .nil))) (.cons (.ret (.bi .tuple (.cons (.lc (.var 3) (.name 3) (.ex (.var 2)) (.so (.cmp .gt (.var 3) (.lit (.int 0)))) [3]) .nil))) .nil)))
def N_law_within : List Str := ["_law_well", "_law_outer", "_law_found", "_law_length", "_law_limit"]
def i_law_within : FI := ⟨["_law_well", "_law_outer"], 2⟩
def G_law_within : CS.Ctx := { N := N_law_within, sc := defScope s_law_within, k := 1, fns := [("_law_draw", i_law_draw)], cls := [], flds := [], gls := [], blt := ["min", "tuple"] }
theorem sc_law_within : FnScope N_law_within ["_law_well", "_law_outer"] (defScope s_law_within) := ⟨rfl, rfl, rfl, by decide +kernel, rfl, by decide +kernel, by decide +kernel⟩
theorem ck_law_within : chkSs G_law_within b_law_within (defBody s_law_within) = true := by decide +kernel
/-! length_of -/
def s_length_of : Stmt := topS 10
def b_length_of : CS.Ss := (.cons (.ret (.ifx (.cmp .lt (.var 1) (.bi .len (.cons (.var 0) .nil))) (.ix (.var 0) (.var 1)) (.lit (.int 0)))) .nil)
def N_length_of : List Str := ["shape", "row"]
def i_length_of : FI := ⟨["shape", "row"], 1⟩
def G_length_of : CS.Ctx := { N := N_length_of, sc := defScope s_length_of, k := 0, fns := [], cls := [], flds := [], gls := [], blt := ["len"] }
theorem sc_length_of : FnScope N_length_of ["shape", "row"] (defScope s_length_of) := ⟨rfl, rfl, rfl, by decide +kernel, rfl, by decide +kernel, by decide +kernel⟩
theorem ck_length_of : chkSs G_length_of b_length_of (defBody s_length_of) = true := by decide +kernel
/-! inner_corners -/
def s_inner_corners : Stmt := topS 11
def b_inner_corners : CS.Ss := (.cons (.set (.name 1) (.attr "Region" (.var 0) "inner")) (.cons (.ret (.lc (.tup (.cons (.var 2) (.cons (.op .sub (.var 3) (.lit (.int 1))) .nil))) (.tup (.cons (.name 2) (.cons (.name 3) .nil))) (.enum (.var 1)) (.so (.cmp .lt (.call "length_of" (.cons (.var 1) (.cons (.op .add (.var 2) (.lit (.int 1))) .nil))) (.var 3))) [2, 3])) .nil))
def N_inner_corners : List Str := ["region", "inner", "row", "length"]
def i_inner_corners : FI := ⟨["region"], 2⟩
def G_inner_corners : CS.Ctx := { N := N_inner_corners, sc := defScope s_inner_corners, k := 1, fns := [("length_of", i_length_of)], cls := [("Region", ⟨[], []⟩)], flds := ["inner"], gls := [], blt := ["enumerate"] }
theorem sc_inner_corners : FnScope N_inner_corners ["region"] (defScope s_inner_corners) := ⟨rfl, rfl, rfl, by decide +kernel, rfl, by decide +kernel, by decide +kernel⟩
theorem ck_inner_corners : chkSs G_inner_corners b_inner_corners (defBody s_inner_corners) = true := by decide +kernel
/-! outer_corners -/
def s_outer_corners : Stmt := topS 12
def b_outer_corners : CS.Ss := (.cons (.set (.name 1) (.attr "Region" (.var 0) "outer")) (.cons (.set (.name 2) (.lst .nil)) (.cons (.for_ (.name 3) (.rng1 (.bi .min (.cons (.op .add (.bi .len (.cons (.var 1) .nil)) (.lit (.int 1))) (.cons (.glob "MAX_SIZE" (.int 8)) .nil)))) (.cons (.set (.name 4) (.call "length_of" (.cons (.var 1) (.cons (.var 3) .nil)))) (.cons (.iff (.and (.cmp .lt (.var 4) (.glob "MAX_SIZE" (.int 8))) (.or (.cmp .eq (.var 3) (.lit (.int 0))) (.cmp .gt (.ix (.var 1) (.op .sub (.var 3) (.lit (.int 1)))) (.var 4)))) (.cons (.ex (.bm .append (.var 2) (.cons (.tup (.cons (.var 3) (.cons (.var 4) .nil))) .nil))) .nil) .nil) .nil))) (.cons (.ret (.var 2)) .nil))))
def N_outer_corners : List Str := ["region", "outer", "found", "row", "column"]
def i_outer_corners : FI := ⟨["region"], 2⟩
def G_outer_corners : CS.Ctx := { N := N_outer_corners, sc := defScope s_outer_corners, k := 1, fns := [("length_of", i_length_of)], cls := [("Region", ⟨[], []⟩)], flds := ["outer"], gls := [("MAX_SIZE", .int 8)], blt := ["len", "min", "range"] }
theorem sc_outer_corners : FnScope N_outer_corners ["region"] (defScope s_outer_corners) := ⟨rfl, rfl, rfl, by decide +kernel, rfl, by decide +kernel, by decide +kernel⟩
theorem ck_outer_corners : chkSs G_outer_corners b_outer_corners (defBody s_outer_corners) = true := by decide +kernel
/-! corners -/
def s_corners : Stmt := topS 13
def b_corners : CS.Ss := (.cons (.ret (.tup (.cons (.call "inner_corners" (.cons (.var 0) .nil)) (.cons (.call "outer_corners" (.cons (.var 0) .nil)) .nil)))) .nil)
def N_corners : List Str := ["region"]
def i_corners : FI := ⟨["region"], 3⟩
def G_corners : CS.Ctx := { N := N_corners, sc := defScope s_corners, k := 2, fns := [("inner_corners", i_inner_corners), ("outer_corners", i_outer_corners)], cls := [], flds := [], gls := [], blt := [] }
theorem sc_corners : FnScope N_corners ["region"] (defScope s_corners) := ⟨rfl, rfl, rfl, by decide +kernel, rfl, by decide +kernel, by decide +kernel⟩
theorem ck_corners : chkSs G_corners b_corners (defBody s_corners) = true := by decide +kernel
/-! _law_right -/
def s_law_right : Stmt := topS 22
def b_law_right : CS.Ss := (.cons (.set (.name 2) (.ix (.lst (.cons (.lit (.int 4)) (.cons (.lit (.int 8)) .nil))) (.call "_law_draw" (.cons (.var 0) (.cons (.lit (.int 2)) .nil))))) (.cons (.set (.name 3) (.call "_law_shape" (.cons (.var 0) (.cons (.var 2) (.cons (.var 2) .nil))))) (.cons (.set (.name 4) (.call "_law_within" (.cons (.var 0) (.cons (.var 3) .nil)))) (.cons (.set (.name 5) (.mk "Region" (.cons (.var 3) (.cons (.var 4) .nil)) [])) (.cons (.set (.name 6) (.call "_law_corners" (.cons (.var 3) (.cons (.var 4) .nil)))) (.cons (.set (.name 7) (.call "corners" (.cons (.var 5) .nil))) (.cons (.iff (.or (.not (.val (.isi (.var 7) (.b .tuple)))) (.cmp .ne (.bi .len (.cons (.var 7) .nil)) (.lit (.int 2)))) (.cons (.ret (.lit (.bl false))) .nil) .nil) (.cons (.iff (.or (.not (.val (.isi (.ix (.var 7) (.lit (.int 0))) (.b .list)))) (.or (.not (.val (.isi (.ix (.var 7) (.lit (.int 1))) (.b .list)))) (.cmp .ne (.var 7) (.var 6)))) (.cons (.ret (.lit (.bl false))) .nil) .nil) (.cons (.ex (.bm .append (.ix (.var 7) (.lit (.int 0))) (.cons (.lit .non) .nil))) (.cons (.ex (.bm .clear (.ix (.var 7) (.lit (.int 1))) .nil)) (.cons (.ret (.and (.cmp .eq (.call "corners" (.cons (.mk "Region" (.cons (.var 3) (.cons (.var 4) .nil)) []) .nil)) (.var 6)) (.cmp .eq (.call "corners" (.cons (.var 5) .nil)) (.var 6)))) .nil)))))))))))
def N_law_right : List Str := ["_law_well", "_law_k", "_law_size", "_law_outer", "_law_inner", "_law_area", "_law_due", "_law_found"]
def i_law_right : FI := ⟨["_law_well", "_law_k"], 5⟩
def G_law_right : CS.Ctx := { N := N_law_right, sc := defScope s_law_right, k := 4, fns := [("_law_corners", i_law_corners), ("_law_draw", i_law_draw), ("_law_shape", i_law_shape), ("_law_within", i_law_within), ("corners", i_corners)], cls := [("Region", ⟨[], [(i_Region_init, [])]⟩)], flds := [], gls := [], blt := ["isinstance", "len", "list", "tuple"] }
theorem sc_law_right : FnScope N_law_right ["_law_well", "_law_k"] (defScope s_law_right) := ⟨rfl, rfl, rfl, by decide +kernel, rfl, by decide +kernel, by decide +kernel⟩
theorem ck_law_right : chkSs G_law_right b_law_right (defBody s_law_right) = true := by decide +kernel
/-! law -/
def s_law : Stmt := topS 23
def b_law : CS.Ss := (.cons (.for_ (.tup (.cons (.name 1) (.cons (.name 2) .nil))) (.enum (.sl (.op .add (.var 0) (.lst (.cons (.lit (.int 0)) .nil))) .no (.so (.lit (.int 4))))) (.cons (.iff (.not (.val (.call "_law_right" (.cons (.lst (.cons (.op .mul (.var 2) (.bi .int (.cons (.cmp .ge (.var 2) (.op .pow (.lit (.int 10)) (.lit (.int 18)))) .nil))) (.cons (.op .add (.op .mod (.var 2) (.lit (.int 2147483647))) (.op .mul (.lit (.int 7919)) (.var 1))) (.cons (.lit (.int 0)) .nil)))) (.cons (.var 1) .nil))))) (.cons (.ret (.lit (.bl false))) .nil) .nil) .nil)) (.cons (.ret (.and (.cmp .eq (.call "corners" (.cons (.mk "Region" (.cons (.op .mul (.tup (.cons (.lit (.int 8)) .nil)) (.lit (.int 8))) .nil) [.tup []]) .nil)) (.tup (.cons (.lst .nil) (.cons (.lst .nil) .nil)))) (.cmp .eq (.call "corners" (.cons (.mk "Region" (.cons (.tup .nil) .nil) [.tup []]) .nil)) (.tup (.cons (.lst .nil) (.cons (.lst (.cons (.tup (.cons (.lit (.int 0)) (.cons (.lit (.int 0)) .nil))) .nil)) .nil)))))) .nil))
def N_law : List Str := ["_law_script", "_law_k", "_law_cell"]
def i_law : FI := ⟨["_law_script"], 6⟩
def G_law : CS.Ctx := { N := N_law, sc := defScope s_law, k := 5, fns := [("_law_right", i_law_right), ("corners", i_corners)], cls := [("Region", ⟨[], [(i_Region_init, [.tup []])]⟩)], flds := [], gls := [], blt := ["enumerate", "int"] }
theorem sc_law : FnScope N_law ["_law_script"] (defScope s_law) := ⟨rfl, rfl, rfl, by decide +kernel, rfl, by decide +kernel, by decide +kernel⟩
theorem ck_law : chkSs G_law b_law (defBody s_law) = true := by decide +kernel
end K20

/-! K20c -/
namespace K20
open PySem CS M20
def shV (s : List Nat) : Val := .tup (s.map fun (n : Nat) => .int (n : Int))
def spIsInt : FS := fun args h Q X => ∃ i, args = [.int i] ∧ Q (.bl true) h
def spCheck : FS := fun args h Q X => ∃ s, args = [shV s] ∧ Sh s ∧ Q .non h
theorem kp_is_int (T : Tab) : Keeps T N_is_int.length 1 b_is_int spIsInt := by
  rintro args h Q X ⟨i, rfl, q⟩
  refine ⟨rfl, ?_⟩
  show wSs T b_is_int [some (.int i)] h _
  dsimp only [b_is_int, wSs, wS, wC, wE, wG]
  exact ⟨_, rfl, true, rfl, true, rfl, _, rfl, false, rfl, false, rfl, .here q⟩
theorem kp_check (T : Tab) (t1 : T.fn "is_int" = spIsInt) : Keeps T N_check_shape.length 1 b_check_shape spCheck := by
  rintro args h Q X ⟨s, rfl, sh, q⟩
  refine ⟨rfl, ?_⟩
  show wSs T b_check_shape [some (shV s), none, none] h _
  dsimp only [b_check_shape, wSs, wS, wC, wE, wEs, wG, wGs, wSrc]
  refine ⟨_, rfl, true, rfl, true, rfl, t_ff ⟨_, rfl, b_lenT (c_gt (t_dec (fun c => ?_) fun _ => ?_))⟩⟩
  · have := sh.len
    simp only [List.length_map] at c
    omega
  refine ⟨_, rfl, _, rfl, for_enum (fun i e h1 => h1 = h ∧ ∃ x1 x2, e = [some (shV s), x1, x2]) ⟨rfl, _, _, rfl⟩ (fun i e h1 _ => True.intro) ?_ fun e h1 ⟨e1, _⟩ => by subst e1; exact .here q⟩
  rintro i v e h1 K' hv ⟨rfl, x1, x2, rfl⟩ k
  obtain ⟨n, hn, rfl⟩ : ∃ n, s[i]? = some n ∧ v = .int (n : Int) := by
    rw [List.getElem?_map] at hv
    cases hs : s[i]? with
    | none => rw [hs] at hv; cases hv
    | some n => rw [hs] at hv; exact ⟨n, rfl, (Option.some.inj hv).symm⟩
  have n1 := sh.lo n (List.mem_of_getElem? hn)
  have n2 := sh.hi n (List.mem_of_getElem? hn)
  refine ⟨_, rfl, rfl, _, _, rfl, _, _, rfl, rfl, _, rfl, ?_⟩
  rw [t1]
  refine ⟨_, rfl, true, rfl, t_ff ⟨_, rfl, c_le (t_dec (fun _ => c_le (t_decN (fun c => by omega) fun _ => ?_)) fun c => by omega)⟩⟩
  refine ⟨_, rfl, c_gt (t_dec (fun c => ?_) fun c => t_ff (k _ _ ⟨rfl, _, _, rfl⟩))⟩
  obtain ⟨j, rfl⟩ : ∃ j, i = j + 1 := ⟨i - 1, by omega⟩
  have hj : j < s.length := by have := (List.getElem?_eq_some_iff.mp hn).1; omega
  refine ⟨_, rfl, _, rfl, _, rfl, o_sub (x_tup (v := .int ((s[j] : Nat) : Int)) ?_ (c_gt (t_dec (fun c => ?_) fun _ => k _ _ ⟨rfl, _, _, rfl⟩)))⟩
  · rw [show ((j + 1 : Nat) : Int) - 1 = (j : Int) by omega]
    exact itemAt_nat (by rw [List.getElem?_map, List.getElem?_eq_getElem hj]; rfl)
  · obtain ⟨h1, e1⟩ := List.getElem?_eq_some_iff.mp hn
    have := List.pairwise_iff_getElem.mp sh.dec j (j + 1) hj h1 (by omega)
    rw [e1] at this
    omega
/-! Region -/
def regF (o i : List Nat) : List (Str × Val) := [("outer", shV o), ("inner", shV i)]
structure In (o i : List Nat) : Prop where
  len : i.length ≤ o.length
  le : ∀ r, row i r ≤ row o r
def spInit : FS := fun args h Q X => ∃ p o i, args = [.ref p, shV o, shV i] ∧ h p = some (.inst "Region" []) ∧ Sh o ∧ Sh i ∧ In o i ∧ Q .non (h.up p (.inst "Region" (regF o i)))
theorem sh_at {s : List Nat} {i : Nat} {v : Val} (hv : (s.map fun (n : Nat) => Val.int (n : Int))[i]? = some v) : ∃ n, s[i]? = some n ∧ v = .int (n : Int) := by
  rw [List.getElem?_map] at hv
  cases hs : s[i]? with
  | none => rw [hs] at hv; cases hv
  | some n => rw [hs] at hv; exact ⟨n, rfl, (Option.some.inj hv).symm⟩
theorem row_at {s : List Nat} {i n : Nat} (h : s[i]? = some n) : row s i = n := by unfold row; rw [List.getD_eq_getElem?_getD, h]; rfl
theorem sh_item {s : List Nat} {i : Nat} (h : i < s.length) : itemAt (s.map fun (n : Nat) => Val.int (n : Int)) (i : Int) = some (.int (row s i : Nat)) :=
  itemAt_nat (by rw [List.getElem?_map, List.getElem?_eq_getElem h, row_at (List.getElem?_eq_getElem h)]; rfl)
theorem kp_init (T : Tab) (t1 : T.fn "check_shape" = spCheck) : Keeps T N_Region_init.length 3 b_Region_init spInit := by
  rintro args h Q X ⟨p, o, i, rfl, hp, so, si, oi, q⟩
  refine ⟨rfl, ?_⟩
  show wSs T b_Region_init [some (.ref p), some (shV o), some (shV i), none, none] h _
  dsimp only [b_Region_init, wSs, wS, wC, wE, wEs, wG, wGs, wSrc]
  refine ⟨_, rfl, ?_⟩
  rw [t1]
  refine ⟨o, rfl, so, _, rfl, ?_⟩
  refine ⟨i, rfl, si, _, rfl, _, rfl, for_enum (fun j e h1 => h1 = h ∧ ∃ x1 x2, e = [some (.ref p), some (shV o), some (shV i), x1, x2]) ⟨rfl, _, _, rfl⟩ (fun i e h1 _ => True.intro) ?_ ?_⟩
  · rintro j v e h1 K' hv ⟨rfl, x1, x2, rfl⟩ k
    obtain ⟨n, hn, rfl⟩ := sh_at hv
    have hj : j < i.length := (List.getElem?_eq_some_iff.mp hn).1
    have hjo : j < o.length := Nat.lt_of_lt_of_le hj oi.len
    have := oi.le j
    rw [row_at hn] at this
    refine ⟨_, rfl, rfl, _, _, rfl, _, _, rfl, rfl, _, rfl, _, rfl, b_lenT (c_ge (t_dec (fun c => ?_) fun _ => ⟨_, rfl, _, rfl, _, rfl, x_tup (sh_item hjo) (c_gt (t_dec (fun c => by omega) fun _ => k _ _ ⟨rfl, _, _, rfl⟩))⟩))⟩
    rw [List.length_map] at c
    omega
  · rintro e h1 ⟨rfl, x1, x2, rfl⟩
    refine ⟨_, rfl, _, rfl, p, [], rfl, hp, by decide, _, rfl, _, rfl, p, _, rfl, up_at .., Nat.lt_of_sub_eq_succ rfl, ?_⟩
    rw [up_up]
    exact .here q
/-! corners -/
def spLen : FS := fun args h Q X => ∃ s r, args = [shV s, .int (r : Nat)] ∧ Q (.int (row s r : Nat)) h
theorem kp_len (T : Tab) : Keeps T N_length_of.length 2 b_length_of spLen := by
  rintro args h Q X ⟨s, r, rfl, q⟩
  refine ⟨rfl, ?_⟩
  show wSs T b_length_of [some (shV s), some (.int (r : Nat))] h _
  dsimp only [b_length_of, wSs, wS, wC, wE, wEs, wG, wGs, wSrc]
  refine ⟨_, rfl, _, rfl, b_lenT (c_lt (t_dec (fun c => ?_) fun c => ?_))⟩
  · rw [List.length_map] at c
    exact ⟨_, rfl, _, rfl, x_tup (sh_item (by omega)) (.here q)⟩
  · rw [List.length_map] at c
    rw [row_out (by omega)] at q
    exact .here q
def cellV (p : Cell) : Val := .tup [.int (p.1 : Nat), .int (p.2 : Nat)]
def spIn : FS := fun args h Q X => ∃ p o i, args = [.ref p] ∧ h p = some (.inst "Region" (regF o i)) ∧ Sh i ∧ ∀ l, h l = none → Q (.ref l) (h.up l (.list ((progIn i).map cellV)))
theorem kp_in (T : Tab) (t1 : T.fn "length_of" = spLen) : Keeps T N_inner_corners.length 1 b_inner_corners spIn := by
  rintro args h Q X ⟨p, o, i, rfl, hp, si, q⟩
  refine ⟨rfl, ?_⟩
  show wSs T b_inner_corners [some (.ref p), none, none, none] h _
  dsimp only [b_inner_corners, wSs, wS, wC, wE, wEs, wG, wGs, wSrc, wOC]
  refine ⟨_, rfl, p, _, _, rfl, hp, rfl, _, rfl, _, rfl, ?_, ?_⟩
  · rw [List.length_mapIdx, List.length_map]
    exact Nat.le_trans si.len (by decide)
  refine lc_enum (fun r => if row i (r + 1) < row i r then some (cellV (r, row i r - 1)) else none) True.intro (fun r v K' hv k => ?_) ?_
  · obtain ⟨n, hn, rfl⟩ := sh_at hv
    have er := row_at hn
    have hr : r < i.length := (List.getElem?_eq_some_iff.mp hn).1
    refine ⟨_, rfl, rfl, _, _, rfl, _, _, rfl, rfl, _, rfl, _, rfl, o_add ?_⟩
    rw [t1]
    refine ⟨i, r + 1, rfl, _, rfl, c_lt (t_dec (fun c => ?_) fun c => ?_)⟩
    · refine ⟨_, rfl, _, rfl, o_sub ⟨Nat.le_of_ble_eq_true rfl, ?_⟩⟩
      rw [if_pos (by omega)] at k
      have e : ((n : Int) - 1) = ((row i r - 1 : Nat) : Int) := by omega
      rw [e]
      exact k
    · rw [if_neg (by omega)] at k
      exact k
  · intro l hl
    rw [List.length_map]
    have e : ((List.range i.length).filterMap fun r => if row i (r + 1) < row i r then some (cellV (r, row i r - 1)) else none) = (progIn i).map cellV := by
      unfold progIn
      rw [List.map_filterMap]
      congr 1
      funext r
      split <;> rfl
    rw [e]
    exact .here (q l hl)
def spOut : FS := fun args h Q X => ∃ p o i, args = [.ref p] ∧ h p = some (.inst "Region" (regF o i)) ∧ Sh o ∧ ∀ l, h l = none → Q (.ref l) (h.up l (.list ((progOut o).map cellV)))
theorem kp_out (T : Tab) (t1 : T.fn "length_of" = spLen) : Keeps T N_outer_corners.length 1 b_outer_corners spOut := by
  rintro args h Q X ⟨p, o, i, rfl, hp, so, q⟩
  refine ⟨rfl, ?_⟩
  show wSs T b_outer_corners [some (.ref p), none, none, none, none] h _
  dsimp only [b_outer_corners, wSs, wS, wC, wE, wEs, wG, wGs, wSrc, wOC]
  refine ⟨_, rfl, p, _, _, rfl, hp, rfl, by decide, fun l hl => ⟨_, rfl, b_lenT (o_add (b_min2 ⟨_, rfl, ?_, ?_⟩))⟩⟩
  · rw [List.length_map]; exact ⟨by omega, by omega⟩
  have hN : (min (((o.map fun (n : Nat) => Val.int (n : Int)).length : Int) + 1) 8 - 0).toNat = min (o.length + 1) 8 := by
    rw [List.length_map]; omega
  let F : Nat → Option Cell := fun r => if row o r < 8 ∧ (r = 0 ∨ row o r < row o (r - 1)) then some (r, row o r) else none
  refine for_rng (fun j e h1 => (∃ x3 x4, e = [some (.ref p), some (shV o), some (.ref l), x3, x4]) ∧ h1 = h.up l (.list (((List.range j).filterMap F).map cellV))) ⟨⟨_, _, rfl⟩, rfl⟩ ?_ ?_
  · rintro j e h1 K' hj ⟨⟨x3, x4, rfl⟩, rfl⟩ k
    rw [hN] at hj
    simp only [Int.zero_add]
    have hlt : ((List.range j).filterMap F).length ≤ j := by have := List.length_filterMap_le F (List.range j); rw [List.length_range] at this; exact this
    have go : F j = none → K' [some (.ref p), some (shV o), some (.ref l), some (.int (j : Nat)), some (.int (row o j : Nat))] (h.up l (.list (((List.range j).filterMap F).map cellV))) := fun e => k _ _ ⟨⟨_, _, rfl⟩, by rw [List.range_succ, List.filterMap_append]; simp [e]⟩
    have add : F j = some (j, row o j) → bmS .append (.ref l) [.tup [.int (j : Nat), .int (row o j : Nat)]] (h.up l (.list (((List.range j).filterMap F).map cellV))) (fun _ h1 => K' [some (.ref p), some (shV o), some (.ref l), some (.int (j : Nat)), some (.int (row o j : Nat))] h1) := fun e => by
      refine m_app (up_at ..) (by rw [List.length_map]; exact Nat.lt_of_le_of_lt hlt (by have : j < 8 := by omega
                                                                                         exact Nat.lt_trans this (by decide))) ?_
      rw [up_up]
      refine k _ _ ⟨⟨_, _, rfl⟩, ?_⟩
      rw [List.range_succ, List.filterMap_append]
      simp [e, cellV]
    refine ⟨_, rfl, _, rfl, ?_⟩
    rw [t1]
    refine ⟨o, j, rfl, _, rfl, c_lt (t_dec (fun c => ?_) fun c => ?_)⟩
    · refine ⟨_, rfl, c_eqI (t_dec (fun c2 => ?_) fun c2 => ?_)⟩
      · refine ⟨_, rfl, ⟨l, _, rfl, up_at ..⟩, _, rfl, _, rfl, Nat.le_of_ble_eq_true rfl, add ?_⟩
        show (if _ then _ else _) = _
        rw [if_pos ⟨by omega, .inl (by omega)⟩]
      · obtain ⟨m, rfl⟩ : ∃ m, j = m + 1 := ⟨j - 1, by omega⟩
        refine ⟨_, rfl, _, rfl, o_sub (x_tup (v := .int (row o m : Nat)) ?_ ⟨_, rfl, c_gt (t_dec (fun c3 => ?_) fun c3 => ?_)⟩)⟩
        · rw [show ((m + 1 : Nat) : Int) - 1 = (m : Int) by omega]
          exact sh_item (by omega)
        · refine ⟨_, rfl, ⟨l, _, rfl, up_at ..⟩, _, rfl, _, rfl, Nat.le_of_ble_eq_true rfl, add ?_⟩
          show (if _ then _ else _) = _
          rw [if_pos ⟨by omega, .inr (by simp only [Nat.add_sub_cancel]; omega)⟩]
        · refine go ?_
          show (if _ then _ else _) = _
          rw [if_neg (fun z => by simp only [Nat.add_sub_cancel] at z; omega)]
    · refine go ?_
      show (if _ then _ else _) = _
      rw [if_neg (fun z => by omega)]
  · rintro e h1 ⟨⟨x3, x4, rfl⟩, rfl⟩
    rw [hN]
    exact ⟨_, rfl, .here (q l hl)⟩
def spCor : FS := fun args h Q X => ∃ p o i, args = [.ref p] ∧ h p = some (.inst "Region" (regF o i)) ∧ Sh o ∧ Sh i ∧ ∀ l m, h l = none → h m = none → l ≠ m → Q (.tup [.ref l, .ref m]) ((h.up l (.list ((progIn i).map cellV))).up m (.list ((progOut o).map cellV)))
theorem kp_cor (T : Tab) (t1 : T.fn "inner_corners" = spIn) (t2 : T.fn "outer_corners" = spOut) : Keeps T N_corners.length 1 b_corners spCor := by
  rintro args h Q X ⟨p, o, i, rfl, hp, so, si, q⟩
  refine ⟨rfl, ?_⟩
  show wSs T b_corners [some (.ref p)] h _
  dsimp only [b_corners, wSs, wS, wC, wE, wEs, wG, wGs, wSrc, wOC]
  refine ⟨_, rfl, ?_⟩
  rw [t1]
  refine ⟨p, o, i, rfl, hp, si, fun l hl => ⟨_, rfl, ?_⟩⟩
  rw [t2]
  have nl := ne_new hp hl
  refine ⟨p, o, i, rfl, by rw [up_ne nl]; exact hp, so, fun m hm => ⟨Nat.le_of_ble_eq_true rfl, ?_⟩⟩
  have nm : m ≠ l := fun z => by rw [z, up_at] at hm; cases hm
  rw [up_ne nm] at hm
  exact .here (q l m hl hm (Ne.symm nm))
end K20

/-! K20d -/
namespace K20
open PySem CS M20
def wellO (x y z : Int) : CS.Obj := .list [.int x, .int y, .int z]
def spDraw : FS := fun args h Q X => ∃ a x y z m, args = [.ref a, .int m] ∧ h a = some (wellO x y z) ∧ 0 < m ∧ m < 1000 ∧ ∀ x' z' r, 0 ≤ r → r < m → Q (.int r) (h.up a (wellO x' y z'))
theorem kp_draw (T : Tab) : Keeps T N_law_draw.length 2 b_law_draw spDraw := by
  rintro args h Q X ⟨a, x, y, z, m, rfl, hl, h1, h2, q⟩
  refine ⟨rfl, ?_⟩
  show wSs T b_law_draw [some (.ref a), some (.int m), none, none] h _
  dsimp only [b_law_draw, wSs, wS, wC, wE, wG]
  refine ⟨_, rfl, x_lst hl rfl (c_gt (t_dec (fun c => ?_) fun c => ?_))⟩
  · refine ⟨_, rfl, x_lst hl rfl ⟨_, rfl, o_mod h1 ⟨_, rfl, x_lst hl rfl ⟨_, rfl, o_div h1 (by omega) ⟨_, rfl, x_set hl rfl ⟨_, rfl, ?_⟩⟩⟩⟩⟩⟩
    exact .here (q _ _ _ (Int.emod_nonneg _ (by omega)) (Int.emod_lt_of_pos _ h1))
  · refine ⟨_, rfl, x_lst hl rfl (o_add ⟨_, rfl, x_set hl rfl ?_⟩)⟩
    have hl2 := up_at h a (.list [.int x, .int y, .int (z + 1)])
    refine ⟨_, rfl, x_lst hl2 rfl ⟨_, rfl, x_lst hl2 rfl (o_mulL (by decide) (by decide) (o_add (o_add (o_mulR (by decide) (by decide) (o_mod (by decide) ⟨_, rfl, ⟨_, rfl, o_div (by decide) (by decide) (o_add ?_)⟩⟩)))))⟩⟩
    generalize hn : ((y + 104729 * (z + 1) + 1) * 48271) % 2147483647 = n
    have n0 : 0 ≤ n := by rw [← hn]; exact Int.emod_nonneg _ (by decide)
    have n1 : n < 2147483647 := by rw [← hn]; exact Int.emod_lt_of_pos _ (by decide)
    refine o_mulL (by omega) (by omega) (o_mod (by decide) ⟨_, rfl, ⟨_, rfl, o_div (by decide) (by decide) (o_add ?_)⟩⟩)
    generalize hn2 : (n * (n / 1009 + 69621)) % 2147483647 = k
    have k0 : 0 ≤ k := by rw [← hn2]; exact Int.emod_nonneg _ (by decide)
    have k1 : k < 2147483647 := by rw [← hn2]; exact Int.emod_lt_of_pos _ (by decide)
    refine o_mulL (by omega) (by omega) (o_mod (by decide) ⟨_, rfl, o_mod h1 ?_⟩)
    exact .here (q x (z + 1) _ (Int.emod_nonneg _ (by omega)) (Int.emod_lt_of_pos _ h1))
/-! the well -/
def Wl (h : HS) (a : Nat) (y : Int) (h' : HS) : Prop := ∃ x z, Sub (h.up a (wellO x y z)) h'
section
variable {h h' : HS} {a b p : Nat} {x y z : Int} {o o' : CS.Obj} {Q : PV} {v : Val}
theorem Wl.here (e : h a = some (wellO x y z)) : Wl h a y h := ⟨x, z, fun b o q => by
  unfold HS.up at q
  split at q
  · rename_i c; rw [c, e]; exact q
  · exact q⟩
theorem Wl.at (w : Wl h a y h') : ∃ x z, h' a = some (wellO x y z) := let ⟨x, z, s⟩ := w; ⟨x, z, s _ _ (up_at ..)⟩
theorem Wl.up (w : Wl h a y h') : Wl h a y (h'.up a (wellO x y z)) := by
  obtain ⟨x0, z0, s⟩ := w
  refine ⟨x, z, fun b o q => ?_⟩
  unfold HS.up at q ⊢
  split at q
  · rename_i c; rw [if_pos c]; exact q
  · rename_i c
    rw [if_neg c]
    exact s b o (by rw [up_ne c]; exact q)
theorem Wl.new (w : Wl h a y h') (n : h' p = none) : Wl h a y (h'.up p o) := let ⟨x, z, s⟩ := w; ⟨x, z, s.trans (.new n)⟩
theorem Wl.put (w : Wl h a y h') (n : h p = none) (na : p ≠ a) : Wl h a y (h'.up p o) := by
  obtain ⟨x, z, s⟩ := w
  refine ⟨x, z, fun b ob q => ?_⟩
  have nb : b ≠ p := fun c => by rw [c, up_ne na, n] at q; cases q
  rw [up_ne nb]
  exact s b ob q
theorem Wl.keep (w : Wl h a y h') (e : h b = some o) (n : b ≠ a) : h' b = some o := let ⟨_, _, s⟩ := w; s b o (by rw [up_ne n]; exact e)
theorem Wl.free (w : Wl h a y h') (e : h' p = none) : h p = none ∧ p ≠ a := by
  obtain ⟨x, z, s⟩ := w
  have na : p ≠ a := fun c => by rw [c] at e; rw [s a _ (up_at ..)] at e; cases e
  refine ⟨?_, na⟩
  cases q : h p with
  | none => rfl
  | some o => have := s p o (by rw [up_ne na]; exact q); rw [e] at this; cases this
theorem Wl.q (w : Wl h a y h') (q : ∀ x z, Q v (h.up a (wellO x y z))) : ClQ Q v h' := let ⟨x, z, s⟩ := w; .of (q x z) s
end
def posI : Val → Option Val
  | .int i => if 0 < i then some (.int i) else none
  | _ => none
theorem pos_map (ms : List Int) : (ms.map Val.int).filterMap posI = (ms.filter (0 < ·)).map Val.int := by
  induction ms with
  | nil => rfl
  | cons m ms ih =>
    rw [List.map_cons, List.filterMap_cons]
    simp only [posI]
    by_cases c : 0 < m
    · rw [if_pos c, List.filter_cons_of_pos (by simpa using c), List.map_cons, ← ih]
    · rw [if_neg c, List.filter_cons_of_neg (by simpa using c), ← ih]
def natL (ms : List Int) : List Nat := (ms.filter (0 < ·)).map Int.toNat
theorem natL_V (ms : List Int) : shV (natL ms) = .tup ((ms.filter (0 < ·)).map Val.int) := by
  unfold shV natL
  rw [List.map_map]
  congr 1
  apply List.map_congr_left
  intro m hm
  have := (List.mem_filter.mp hm).2
  simp only [decide_eq_true_eq] at this
  show Val.int ((m.toNat : Nat) : Int) = _
  rw [Int.toNat_of_nonneg (by omega)]
theorem natL_sh {ms : List Int} {c : Int} (hl : ms.length ≤ 8) (hc : ∀ m ∈ ms, m ≤ c) (h8 : c ≤ 8) (hp : ms.Pairwise (fun a b => b ≤ a)) : Sh (natL ms) ∧ (natL ms).length ≤ ms.length ∧ ∀ v ∈ natL ms, (v : Int) ≤ c := by
  have le : (natL ms).length ≤ ms.length := by unfold natL; rw [List.length_map]; exact List.length_filter_le ..
  have mem : ∀ v ∈ natL ms, ∃ m ∈ ms, 0 < m ∧ v = m.toNat := fun v hv => by
    obtain ⟨m, hm, rfl⟩ := List.mem_map.mp hv
    obtain ⟨h1, h2⟩ := List.mem_filter.mp hm
    exact ⟨m, h1, by simpa using h2, rfl⟩
  refine ⟨⟨by omega, fun v hv => ?_, fun v hv => ?_, ?_⟩, le, fun v hv => ?_⟩
  · obtain ⟨m, h1, h2, rfl⟩ := mem v hv; omega
  · obtain ⟨m, h1, h2, rfl⟩ := mem v hv; have := hc m h1; omega
  · unfold natL
    rw [List.pairwise_map]
    refine (hp.filter _).imp_of_mem fun {a b} ha hb hab => ?_
    omega
  · obtain ⟨m, h1, h2, rfl⟩ := mem v hv; have := hc m h1; omega
def spShape : FS := fun args h Q X => ∃ a x y z, ∃ r c : Nat, args = [.ref a, .int r, .int c] ∧ h a = some (wellO x y z) ∧ r ≤ 8 ∧ c ≤ 8 ∧ ∀ x' z' s, Sh s → s.length ≤ r → (∀ v ∈ s, v ≤ c) → Q (shV s) (h.up a (wellO x' y z'))
theorem kp_shape (T : Tab) (t1 : T.fn "_law_draw" = spDraw) : Keeps T N_law_shape.length 3 b_law_shape spShape := by
  rintro args h Q X ⟨a, x, y, z, r, c, rfl, ha, hr, hc, q⟩
  refine ⟨rfl, ?_⟩
  show wSs T b_law_shape [some (.ref a), some (.int r), some (.int c), none, none, none] h _
  dsimp only [b_law_shape, wSs, wS, wC, wE, wEs, wG, wGs, wSrc, wOC]
  refine ⟨_, rfl, _, rfl, o_add ?_⟩
  rw [t1]
  refine ⟨a, x, y, z, _, rfl, ha, by omega, by omega, fun x1 z1 k k0 k1 => ⟨k, rfl, ⟨by omega, by omega⟩, ?_, ?_⟩⟩
  · rw [rng_len]
    exact Nat.le_trans (by omega : _ ≤ 8) (by decide)
  refine lc_inv (fun j acc h' => j ≤ 8 ∧ Wl h a y h' ∧ ∃ ns : List Int, acc = ns.map .int ∧ ns.length = j ∧ ∀ n ∈ ns, n ≤ (c : Int)) ⟨Nat.zero_le _, (Wl.here ha).up, [], rfl, rfl, fun n hn => by cases hn⟩ (fun _ _ _ _ => True.intro) ?_ ?_
  · rintro j v acc h' K' hv ⟨hj, w, ns, rfl, hl, hn⟩ k
    obtain ⟨hj2, rfl⟩ := rng_inv hv
    obtain ⟨x2, z2, ha2⟩ := w.at
    refine t_tt ⟨_, rfl, _, rfl, o_add ⟨a, x2, y, z2, _, rfl, ha2, by omega, by omega, fun x3 z3 i i0 i1 => k _ _ ⟨by omega, w.up, ns ++ [i], by simp, by simp [hl], fun n hm => ?_⟩⟩⟩
    rcases List.mem_append.mp hm with m | m
    · exact hn n m
    · rw [List.mem_singleton.mp m]; omega
  · rintro acc h' ⟨hj, w, ns, rfl, hl, hn⟩ p hp
    have e1 := up_at h' p (.list (ns.map .int))
    have w1 := w.new (o := .list (ns.map .int)) hp
    refine ⟨_, rfl, b_sorted e1 fun p2 hp2 => ⟨p2, _, rfl, la (up_at ..), fun p3 hp3 => ⟨_, sq (up_at ..), ?_, ?_⟩⟩⟩
    · have l1 : (sortI ns).length = ns.length := (sortI_perm ns).length_eq
      simp only [List.length_reverse, List.length_map, l1, hl]
      rw [rng_len] at hj ⊢
      exact Nat.le_trans (by omega : _ ≤ 8) (by decide)
    have w2 := w1.new (o := .list ((sortI ns).map .int)) hp2
    have w3 := w2.new (o := .list ((sortI ns).map .int).reverse) hp3
    refine lc_pure posI rfl (fun v K' hv k => ?_) ?_
    · rw [List.mem_reverse] at hv
      obtain ⟨i, _, rfl⟩ := List.mem_map.mp hv
      refine ⟨_, rfl, c_gt (t_dec (fun c => ?_) fun c => ?_)⟩
      · simp only [posI, if_pos c] at k; exact ⟨_, rfl, k⟩
      · simp only [posI, if_neg c] at k; exact k
    · intro p4 hp4
      refine b_tupL (up_at ..) ?_
      rw [← List.map_reverse] at w3 hp4 ⊢
      rw [pos_map, ← natL_V]
      have l1 : (sortI ns).reverse.length = ns.length := by rw [List.length_reverse]; exact (sortI_perm ns).length_eq
      obtain ⟨s1, s2, s3⟩ := natL_sh (ms := (sortI ns).reverse) (c := c) (by rw [l1, hl]; exact hj) (fun m hm => hn m ((sortI_perm ns).mem_iff.mp (List.mem_reverse.mp hm))) (by omega) (by rw [List.pairwise_reverse]; exact sortI_pw ns)
      rw [rng_len] at hl
      refine (w3.new hp4).q fun x' z' => q x' z' _ s1 (by omega) fun v hv => by have := s3 v hv; omega
end K20

/-! K20e -/
namespace K20
open PySem CS M20
theorem cut_last (ns : List Int) : cut (ns.map Val.int) (some (-1)) none = (ns.drop (ns.length - 1)).map Val.int := by
  unfold cut six
  simp only [List.length_map]
  rw [if_pos (by decide), show (-1 + (ns.length : Int)).toNat = ns.length - 1 by omega, ← List.map_drop, ← List.map_take]
  congr 1
  exact List.take_of_length_le (by rw [List.length_drop]; omega)
/-- the law's rows as they are drawn: under the outer ones, not increasing -/
structure Under (o : List Nat) (ns : List Int) : Prop where
  lo : ∀ n ∈ ns, 0 ≤ n
  dec : ns.Pairwise (fun a b => b ≤ a)
  le : ∀ t n, ns[t]? = some n → n ≤ (row o t : Int)
theorem Under.next {o : List Nat} {ns : List Int} {r m : Int} (u : Under o ns) (h0 : 0 ≤ r) (hr : r ≤ m) (hm : m ≤ (row o ns.length : Int)) (hl : ∀ y ∈ ns.drop (ns.length - 1), m ≤ y) : Under o (ns ++ [r]) where
  lo n hn := by
    rcases List.mem_append.mp hn with z | z
    · exact u.lo n z
    · rw [List.mem_singleton.mp z]; exact h0
  dec := by
    rw [List.pairwise_append]
    refine ⟨u.dec, List.pairwise_singleton .., fun x hx z hz => ?_⟩
    rw [List.mem_singleton.mp hz]
    have hne : ns ≠ [] := fun e => by rw [e] at hx; cases hx
    have hlast : m ≤ ns.getLast hne := hl _ (by
      rw [List.mem_iff_getElem?]
      refine ⟨0, ?_⟩
      rw [List.getElem?_drop, Nat.add_zero, ← List.getLast?_eq_getElem?, List.getLast?_eq_getLast hne])
    have hx2 : ns.getLast hne ≤ x := by
      obtain ⟨t, ht, rfl⟩ := List.mem_iff_getElem.mp hx
      rw [List.getLast_eq_getElem]
      by_cases e : t = ns.length - 1
      · subst e; exact Int.le_refl _
      · exact List.pairwise_iff_getElem.mp u.dec t (ns.length - 1) ht (by omega) (by omega)
    omega
  le t n e := by
    by_cases ht : t < ns.length
    · rw [List.getElem?_append_left ht] at e; exact u.le t n e
    · rw [List.getElem?_append_right (by omega)] at e
      have : t - ns.length = 0 := by
        have := (List.getElem?_eq_some_iff.mp e).1
        simp at this; omega
      rw [this] at e
      have et : t = ns.length := by omega
      simp at e
      rw [et, ← e]; omega
theorem natL_row {ns : List Int} (h : ns.Pairwise (fun a b => b ≤ a)) (h0 : ∀ n ∈ ns, 0 ≤ n) : ∀ t, (row (natL ns) t : Int) = ((ns[t]?).getD 0) := by
  induction ns with
  | nil => intro t; simp [natL, row]
  | cons n ns ih =>
    intro t
    have h2 := List.pairwise_cons.mp h
    have n0 := h0 n (.head _)
    by_cases c : 0 < n
    · have e : natL (n :: ns) = n.toNat :: natL ns := by unfold natL; rw [List.filter_cons_of_pos (by simpa using c)]; rfl
      rw [e]
      cases t with
      | zero => simp [row]; omega
      | succ t => have := ih h2.2 (fun m hm => h0 m (.tail _ hm)) t; simpa [row] using this
    · have e : natL (n :: ns) = [] := by
        unfold natL
        rw [List.map_eq_nil_iff, List.filter_eq_nil_iff]
        intro m hm
        rcases List.mem_cons.mp hm with z | z
        · rw [z]; simpa using c
        · have := h2.1 m z; simp; omega
      rw [e]
      have z : ∀ m ∈ n :: ns, m = 0 := fun m hm => by
        have hm0 := h0 m hm
        rcases List.mem_cons.mp hm with z | z
        · rw [z] at hm0 ⊢; omega
        · have := h2.1 m z; omega
      cases q : (n :: ns)[t]? with
      | none => simp [row]
      | some m => rw [z m (List.mem_of_getElem? q)]; simp [row]
theorem Under.in {o : List Nat} {ns : List Int} (so : Sh o) (u : Under o ns) (hl : ns.length = o.length) : Sh (natL ns) ∧ In o (natL ns) := by
  have hc : ∀ n ∈ ns, n ≤ 8 := fun n hn => by
    obtain ⟨t, e⟩ := List.mem_iff_getElem?.mp hn
    have := u.le t n e
    have := so.row_hi t
    omega
  obtain ⟨s1, s2, _⟩ := natL_sh (c := 8) (by rw [hl]; exact so.len) hc (by omega) u.dec
  refine ⟨s1, by omega, fun t => ?_⟩
  have := natL_row u.dec u.lo t
  cases q : ns[t]? with
  | none => rw [q] at this; simp at this; omega
  | some m => rw [q] at this; have := u.le t m q; simp at *; omega
def spWithin : FS := fun args h Q X => ∃ a x y z o, args = [.ref a, shV o] ∧ h a = some (wellO x y z) ∧ Sh o ∧ ∀ x' z' i, Sh i → In o i → Q (shV i) (h.up a (wellO x' y z'))
theorem kp_within (T : Tab) (t1 : T.fn "_law_draw" = spDraw) : Keeps T N_law_within.length 2 b_law_within spWithin := by
  rintro args h Q X ⟨a, x, y, z, o, rfl, ha, so, q⟩
  refine ⟨rfl, ?_⟩
  show wSs T b_law_within [some (.ref a), some (shV o), none, none, none] h _
  dsimp only [b_law_within, wSs, wS, wC, wE, wEs, wG, wGs, wSrc, wOC, wO]
  rw [t1]
  refine ⟨Nat.le_of_ble_eq_true rfl, fun l hl => ⟨_, rfl, _, rfl, ?_⟩⟩
  have nla : l ≠ a := (ne_new ha hl).symm
  refine for_inv (fun j e h' => ∃ x3 x4 ns, e = [some (.ref a), some (shV o), some (.ref l), x3, x4] ∧ Wl h a y h' ∧ h' l = some (.list (ns.map .int)) ∧ ns.length = j ∧ Under o ns) ⟨none, none, [], rfl, (Wl.here ha).put hl nla, up_at .., rfl, ⟨(fun _ h => absurd h (by simp)), List.Pairwise.nil, (fun _ _ h => absurd h (by simp))⟩⟩ (fun _ _ _ _ => True.intro) ?_ ?_
  · rintro j v e h' K' hv ⟨x3, x4, ns, rfl, w, el, hj, u⟩ k
    obtain ⟨n, hn, rfl⟩ := sh_at hv
    have ern := row_at hn
    have n1 := so.lo n (List.mem_of_getElem? hn)
    have n2 := so.hi n (List.mem_of_getElem? hn)
    subst hj
    refine ⟨_, rfl, Nat.le_of_ble_eq_true rfl, fun p1 hp1 => ⟨_, rfl, 1, rfl, some (-1), rfl, none, rfl, ?_⟩⟩
    have l1 : (h'.up p1 (.list [.int (n : Int)])) l = some (.list (ns.map .int)) := by rw [up_ne (ne_new el hp1)]; exact el
    refine s_lst l1 fun p2 hp2 => ?_
    rw [cut_last]
    have l2 := (up_ne (o := .list ((ns.drop (ns.length - 1)).map .int)) (ne_new l1 hp2)).trans l1
    have np : p1 ≠ p2 := ne_new (up_at ..) hp2
    obtain ⟨m, em⟩ : ∃ m, minI ((n : Int) :: ns.drop (ns.length - 1)) = some m := ⟨_, rfl⟩
    obtain ⟨m1, m2⟩ := minI_spec em
    have mn : m ≤ n := m2 _ (.head _)
    have m0 : 0 ≤ m := by
      rcases List.mem_cons.mp m1 with z | z
      · omega
      · exact u.lo m (List.mem_of_mem_drop z)
    refine o_addL (vs := [.int (n : Int)]) (ws := (ns.drop (ns.length - 1)).map .int) ((up_ne np).trans (up_at ..)) (up_at ..) ?_ fun p3 hp3 => ?_
    · rw [List.length_map, List.length_drop]
      exact Nat.le_trans (by simp; omega : _ ≤ 2) (by decide)
    have l3 := (up_ne (o := .list ([.int (n : Int)] ++ (ns.drop (ns.length - 1)).map .int)) (ne_new l2 hp3)).trans l2
    have w3 := ((w.new (o := .list [.int (n : Int)]) hp1).new (o := .list ((ns.drop (ns.length - 1)).map .int)) hp2).new (o := .list ([.int (n : Int)] ++ (ns.drop (ns.length - 1)).map .int)) hp3
    refine b_minL (ns := (n : Int) :: ns.drop (ns.length - 1)) (up_at ..) em ⟨_, rfl, ⟨l, _, rfl, l3⟩, _, rfl, _, rfl, _, rfl, o_add ?_⟩
    obtain ⟨y1, y2, ea⟩ := w3.at
    refine ⟨a, y1, y, y2, _, rfl, ea, by omega, by omega, fun u1 u2 r1 a1 b1 => ⟨_, rfl, _, rfl, o_add ?_⟩⟩
    have l4 := (up_ne (o := wellO u1 y u2) nla).trans l3
    have w4 := w3.up (x := u1) (z := u2)
    obtain ⟨y1, y2, ea⟩ := w4.at
    refine ⟨a, y1, y, y2, _, rfl, ea, by omega, by omega, fun u3 u4 r2 a2 b2 => ⟨Nat.le_of_ble_eq_true rfl, fun p4 hp4 => ⟨_, rfl, ?_⟩⟩⟩
    have l5 := (up_ne (o := wellO u3 y u4) nla).trans l4
    have w5 := w4.up (x := u3) (z := u4)
    have l6 := (up_ne (o := .list [.int m, .int r1, .int r2]) (ne_new l5 hp4)).trans l5
    have w6 := w5.new (o := .list [.int m, .int r1, .int r2]) hp4
    obtain ⟨y1, y2, ea⟩ := w6.at
    have nap : p4 ≠ a := (w5.free hp4).2
    refine ⟨a, y1, y, y2, _, rfl, ea, by omega, by omega, fun u5 u6 i a3 b3 => ?_⟩
    have l7 := (up_ne (o := wellO u5 y u6) nla).trans l6
    have w7 := w6.up (x := u5) (z := u6)
    obtain ⟨r, er, r0, rm⟩ : ∃ r, itemAt [Val.int m, Val.int r1, Val.int r2] i = some (.int r) ∧ 0 ≤ r ∧ r ≤ m := by
      rcases (by omega : i = 0 ∨ i = 1 ∨ i = 2) with e | e | e <;> subst e
      · exact ⟨m, rfl, m0, Int.le_refl _⟩
      · exact ⟨r1, rfl, a1, by omega⟩
      · exact ⟨r2, rfl, a2, by omega⟩
    refine x_lst (vs := [.int m, .int r1, .int r2]) ((up_ne nap).trans (up_at ..)) er (m_app l7 ?_ ?_)
    · have : ns.length < o.length := (List.getElem?_eq_some_iff.mp hn).1
      have := so.len
      rw [List.length_map]
      exact Nat.lt_trans (by omega : _ < 9) (by decide)
    · refine k _ _ ⟨_, _, ns ++ [r], rfl, w7.put hl nla, by rw [up_at, List.map_append]; rfl, by simp, u.next r0 rm (by omega) fun v hv => m2 v (.tail _ hv)⟩
  · rintro e h' ⟨x3, x4, ns, rfl, w, el, hj, u⟩
    rw [List.length_map] at hj
    refine ⟨_, rfl, _, sq el, ?_, ?_⟩
    · rw [List.length_map, hj]
      exact Nat.le_trans so.len (by decide)
    refine lc_pure posI rfl (fun v K' hv k => ?_) ?_
    · obtain ⟨i, _, rfl⟩ := List.mem_map.mp hv
      refine ⟨_, rfl, c_gt (t_dec (fun c => ?_) fun c => ?_)⟩
      · simp only [posI, if_pos c] at k; exact ⟨_, rfl, k⟩
      · simp only [posI, if_neg c] at k; exact k
    · intro p4 hp4
      refine b_tupL (up_at ..) ?_
      rw [pos_map]
      rw [← natL_V]
      obtain ⟨s1, s2⟩ := u.in so hj
      exact (w.new hp4).q fun x' z' => q x' z' _ s1 s2
end K20

/-! K20f -/
namespace K20
open PySem CS M20
def rowC (o i : List Nat) (n : Nat) : List Cell := (List.range (row o n - row i n)).map fun k => (n, row i n + k)
def upto (o i : List Nat) (j : Nat) : List Cell := ((List.range j).map (rowC o i)).flatten
theorem upto_succ (o i : List Nat) (j : Nat) : upto o i (j + 1) = upto o i j ++ rowC o i j := by unfold upto; rw [List.range_succ, List.map_append, List.flatten_append]; simp
theorem from_eq {o i : List Nat} : ∀ (t : List Nat) (n : Nat), (∀ j, row t j = row o (n + j)) → M20.cellsFrom i n t = ((List.range t.length).map fun j => rowC o i (n + j)).flatten
  | [], _, _ => rfl
  | l :: t, n, h => by
    have e0 := h 0
    have ih := from_eq (o := o) (i := i) t (n + 1) fun j => by have := h (j + 1); rw [show n + 1 + j = n + (j + 1) by omega, ← this]; simp [row]
    unfold M20.cellsFrom
    rw [ih, List.length_cons, List.range_succ_eq_map, List.map_cons, List.flatten_cons, List.map_map]
    congr 1
    · unfold rowC
      have el : l = row o n := by simpa [row] using e0
      rw [Nat.add_zero, ← el]
    · congr 1
      apply List.map_congr_left
      intro j _
      show rowC o i (n + 1 + j) = rowC o i (n + (j + 1))
      rw [show n + 1 + j = n + (j + 1) by omega]
theorem cells_upto (o i : List Nat) : cells o i = upto o i o.length := by
  unfold cells upto
  rw [from_eq (o := o) o 0 fun j => by simp]
  simp
theorem rowC_len {o : List Nat} (so : Sh o) (i : List Nat) (n : Nat) : (rowC o i n).length ≤ 8 := by unfold rowC; rw [List.length_map, List.length_range]; have := so.row_hi n; omega
theorem upto_len {o : List Nat} (so : Sh o) (i : List Nat) : ∀ j, (upto o i j).length ≤ 8 * j
  | 0 => by simp [upto]
  | j + 1 => by rw [upto_succ, List.length_append]; have := upto_len so i j; have := rowC_len so i j; omega
theorem cap_of {n : Nat} (h : n ≤ 1000) : n ≤ cap := Nat.le_trans h (by decide)
def spCells : FS := fun args h Q X => ∃ o i, args = [shV o, shV i] ∧ Sh o ∧ Sh i ∧ ∀ l, h l = none → Q (.ref l) (h.up l (.list ((cells o i).map cellV)))
theorem kp_cells (T : Tab) : Keeps T N_law_cells.length 2 b_law_cells spCells := by
  rintro args h Q X ⟨o, i, rfl, so, si, q⟩
  refine ⟨rfl, ?_⟩
  show wSs T b_law_cells [some (shV o), some (shV i), none, none, none, none, none] h _
  dsimp only [b_law_cells, wSs, wS, wC, wE, wEs, wG, wGs, wSrc, wOC, wO]
  refine ⟨_, rfl, b_listT fun p1 hp1 => ⟨Nat.le_of_ble_eq_true rfl, fun p2 hp2 => ⟨_, rfl, b_lenT ?_⟩⟩⟩
  have lo := so.len
  have li := si.len
  refine o_rep (up_at ..) (by omega) (by rw [List.length_map]; omega) (by decide) fun p3 hp3 => ?_
  rw [List.length_map]
  have n12 : p1 ≠ p2 := ne_new (up_at ..) hp2
  have e1 : ∀ o', (((h.up p1 (.list (i.map fun (n : Nat) => .int (n : Int)))).up p2 (.list [.int 0])).up p3 o') p1 = some (.list (i.map fun (n : Nat) => .int (n : Int))) := fun o' =>
    (up_ne (ne_new ((up_ne n12).trans (up_at ..)) hp3)).trans ((up_ne n12).trans (up_at ..))
  refine o_addL (e1 _) (up_at ..) (cap_of (by simp; omega)) fun p4 hp4 => ⟨Nat.le_of_ble_eq_true rfl, fun l hl => ⟨_, rfl, _, rfl, ?_⟩⟩
  -- the starts
  generalize hst : (i.map fun (n : Nat) => Val.int (n : Int)) ++ (List.replicate (o.length : Int).toNat [Val.int 0]).flatten = st at hl ⊢
  have hs : ∀ j, j < o.length → itemAt st (j : Int) = some (.int (row i j : Nat)) := fun j hj => by
    refine itemAt_nat ?_
    rw [← hst]
    by_cases c : j < i.length
    · rw [List.getElem?_append_left (by simpa using c), List.getElem?_map, List.getElem?_eq_getElem c, row_at (List.getElem?_eq_getElem c)]; rfl
    · rw [List.getElem?_append_right (by simpa using c), row_out (by omega), List.length_map]
      have e : (List.replicate (o.length : Int).toNat [Val.int 0]).flatten = List.replicate o.length (Val.int 0) := by
        rw [Int.toNat_natCast]
        induction o.length with
        | zero => rfl
        | succ n ih => rw [List.replicate_succ, List.flatten_cons, ih, List.replicate_succ]; rfl
      rw [e, List.getElem?_replicate, if_pos (by omega)]
      rfl
  refine for_enum (fun j e h' => ∃ x4 x5 x6 l, e = [some (shV o), some (shV i), some (.ref p4), some (.ref l), x4, x5, x6] ∧ h l = none ∧ Sub h h' ∧ h' p4 = some (.list st) ∧ h' l = some (.list ((upto o i j).map cellV))) ?_ (fun _ _ _ _ => True.intro) ?_ ?_
  · have s1 := Sub.new (o := .list (i.map fun (n : Nat) => Val.int (n : Int))) hp1
    have s2 := s1.trans (Sub.new (o := .list [.int 0]) hp2)
    have s3 := s2.trans (Sub.new (o := .list (List.replicate (o.length : Int).toNat [Val.int 0]).flatten) hp3)
    have s4 := s3.trans (Sub.new (o := .list st) hp4)
    have fr : h l = none := by
      cases z : h l with
      | none => rfl
      | some ob => have := s4 l ob z; rw [hl] at this; cases this
    exact ⟨none, none, none, l, rfl, fr, s4.trans (.new hl), (up_ne (ne_new (up_at ..) hl)).trans (up_at ..), up_at ..⟩
  · rintro j v e h' K' hv ⟨x4, x5, x6, l, rfl, fr, sb, e4, el⟩ k
    obtain ⟨n, hn, rfl⟩ := sh_at hv
    have ern := row_at hn
    have hj : j < o.length := (List.getElem?_eq_some_iff.mp hn).1
    have nh := so.hi n (List.mem_of_getElem? hn)
    refine ⟨_, rfl, rfl, _, _, rfl, _, _, rfl, rfl, _, rfl, _, rfl, _, rfl, x_lst e4 (hs j hj) ⟨_, rfl, _, _, rfl, rfl, ⟨by omega, by have := si.row_hi j; omega⟩, ⟨by omega, by omega⟩, ?_, ?_⟩⟩
    · rw [rng_len]; exact cap_of (by omega)
    refine lc_rng (fun k => some (cellV (j, row i j + k))) (fun m K2 hm k2 => t_tt ⟨_, rfl, _, rfl, Nat.le_of_ble_eq_true rfl, ?_⟩) ?_
    · have e : (row i j : Int) + (m : Int) = ((row i j + m : Nat) : Int) := by omega
      rw [e]
      exact k2
    · intro p5 hp5
      have eR : ((List.range ((n : Int) - (row i j : Int)).toNat).filterMap fun k => some (cellV (j, row i j + k))) = (rowC o i j).map cellV := by
        rw [filterMap_some]
        unfold rowC
        rw [List.map_map, ern, show ((n : Int) - (row i j : Int)).toNat = n - row i j by omega]
        rfl
      rw [eR]
      have el2 := (up_ne (o := .list ((rowC o i j).map cellV)) (ne_new el hp5)).trans el
      refine o_addL el2 (up_at ..) (cap_of ?_) fun p6 hp6 => ?_
      · rw [List.length_map, List.length_map]
        have := upto_len so i j
        have := rowC_len so i j
        omega
      · rw [← List.map_append, ← upto_succ]
        have s5 := sb.trans (Sub.new (o := .list ((rowC o i j).map cellV)) hp5)
        refine k _ _ ⟨_, _, _, p6, rfl, ?_, s5.trans (.new hp6), ?_, up_at ..⟩
        · cases z : h p6 with
          | none => rfl
          | some ob => have := s5 p6 ob z; rw [hp6] at this; cases this
        · have := (up_ne (o := .list ((rowC o i j).map cellV)) (ne_new e4 hp5)).trans e4
          exact (up_ne (ne_new this hp6)).trans this
  · rintro e h' ⟨x4, x5, x6, l, rfl, fr, sb, e4, el⟩
    rw [List.length_map, ← cells_upto] at el
    refine ⟨_, rfl, .of (q l fr) fun b ob e => ?_⟩
    unfold HS.up at e
    split at e
    · rename_i c; rw [c, el]; exact e
    · exact sb b ob e
end K20

/-! K20g -/
namespace K20
open PySem CS M20
/-! cells as data -/
def cellD (p : Cell) : PyData := .tuple [.int (p.1 : Nat), .int (p.2 : Nat)]
theorem toD_cell (h : HS) (n : Nat) (p : Cell) : toD h (n + 1) (cellV p) = some (cellD p) := by
  simp only [cellV, toD, List.mapM_cons, List.mapM_nil, toD_int]
  rfl
theorem toD_cells (h : HS) (n : Nat) (cs : List Cell) : (cs.map cellV).mapM (toD h (n + 1)) = some (cs.map cellD) := by
  induction cs with
  | nil => rfl
  | cons c cs ih => rw [List.map_cons, List.mapM_cons, toD_cell, ih]; rfl
theorem eqv_cell (p q : Cell) : PyData.eqv (cellD p) (cellD q) = decide (p = q) := by
  obtain ⟨a, b⟩ := p
  obtain ⟨c, d⟩ := q
  simp only [cellD, PyData.eqv, PyData.eqvAll, Bool.and_true]
  by_cases h : a = c ∧ b = d
  · obtain ⟨rfl, rfl⟩ := h; simp
  · rw [decide_eq_false (fun z => h (by cases z; exact ⟨rfl, rfl⟩))]
    by_cases h1 : a = c
    · have h2 : b ≠ d := fun z => h ⟨h1, z⟩
      have h3 : ((b : Int) == (d : Int)) = false := by simp; omega
      rw [h3, Bool.and_false]
    · have h3 : ((a : Int) == (c : Int)) = false := by simp; omega
      rw [h3, Bool.false_and]
theorem any_cell (cs : List Cell) (p : Cell) : (cs.map cellD).any (fun z => PyData.eqv z (cellD p)) = decide (p ∈ cs) := by
  induction cs with
  | nil => rfl
  | cons c cs ih =>
    rw [List.map_cons, List.any_cons, ih, eqv_cell]
    by_cases h : c = p
    · subst h; simp
    · rw [decide_eq_false h, Bool.false_or]
      by_cases h2 : p ∈ cs
      · simp [h2]
      · simp [h2, Ne.symm h]
section
variable {h : HS} {a : Nat} {cs : List Cell} {p : Cell} {B : Bool → Prop}
theorem c_memC (e : h a = some (.list (cs.map cellV))) (q : B (decide (p ∈ cs))) : cmp2 .mem h (cellV p) (.ref a) B := by
  simp only [cmp2, e]
  exact ⟨cellD p, _, _, toD_cell h 19 p, la e, toD_cells h 19 cs, by rw [any_cell]; exact q⟩
theorem c_nmemC (e : h a = some (.list (cs.map cellV))) (q : B (!decide (p ∈ cs))) : cmp2 .nmem h (cellV p) (.ref a) B := by
  simp only [cmp2, e]
  exact ⟨cellD p, _, _, toD_cell h 19 p, la e, toD_cells h 19 cs, by rw [any_cell]; exact q⟩
end
def gOut (o : List Nat) (r c : Nat) : Bool := (decide (c = 0) || decide ((r, c - 1) ∈ cells o [])) && (decide (r = 0) || decide ((r - 1, c) ∈ cells o [])) && decide ((r, c) ∉ cells o [])
def rOut (o : List Nat) (r k : Nat) : List Cell := ((List.range k).filter (gOut o r)).map fun c => (r, c)
def uOut (o : List Nat) (j : Nat) : List Cell := ((List.range j).map fun r => rOut o r 8).flatten
theorem uOut_succ (o : List Nat) (j : Nat) : uOut o (j + 1) = uOut o j ++ rOut o j 8 := by unfold uOut; rw [List.range_succ, List.map_append, List.flatten_append]; simp
theorem rOut_succ (o : List Nat) (r k : Nat) : rOut o r (k + 1) = rOut o r k ++ if gOut o r k = true then [(r, k)] else [] := by
  unfold rOut
  rw [List.range_succ, List.filter_append, List.map_append]
  congr 1
  by_cases c : gOut o r k = true <;> simp [c]
theorem lawOut_u (o : List Nat) : lawOut o = uOut o 8 := rfl
theorem rOut_len (o : List Nat) (r k : Nat) : (rOut o r k).length ≤ k := by unfold rOut; rw [List.length_map]; have := List.length_filter_le (gOut o r) (List.range k); rw [List.length_range] at this; exact this
theorem uOut_len (o : List Nat) : ∀ j, (uOut o j).length ≤ 8 * j
  | 0 => by simp [uOut]
  | j + 1 => by rw [uOut_succ, List.length_append]; have := uOut_len o j; have := rOut_len o j 8; omega
theorem lt_cap {n : Nat} (h : n < 1000) : n < cap := Nat.lt_trans h (by decide)
def spLC : FS := fun args h Q X => ∃ o i, args = [shV o, shV i] ∧ Sh o ∧ Sh i ∧ ∀ l m, h l = none → h m = none → l ≠ m → Q (.tup [.ref l, .ref m]) ((h.up l (.list ((lawIn i).map cellV))).up m (.list ((lawOut o).map cellV)))
theorem sh_nil : Sh [] := ⟨by simp, by simp, by simp, .nil⟩
theorem kp_lc (T : Tab) (t1 : T.fn "_law_cells" = spCells) : Keeps T N_law_corners.length 2 b_law_corners spLC := by
  rintro args h Q X ⟨o, i, rfl, so, si, q⟩
  refine ⟨rfl, ?_⟩
  show wSs T b_law_corners [some (shV o), some (shV i), none, none, none, none, none, none, none, none] h _
  dsimp only [b_law_corners, wSs, wS, wC, wE, wEs, wG, wGs, wSrc, wOC, wO]
  rw [t1]
  refine ⟨_, rfl, Nat.le_of_ble_eq_true rfl, i, [], rfl, si, sh_nil, fun p hp => ⟨_, rfl, Nat.le_of_ble_eq_true rfl, o, [], rfl, so, sh_nil, fun w hw => ⟨Nat.le_of_ble_eq_true rfl, _, rfl, rfl, _, _, rfl, _, _, rfl, rfl, _, rfl, ?_⟩⟩⟩
  have ep := (up_ne (o := .list ((cells o []).map cellV)) (ne_new (up_at h p (.list ((cells i []).map cellV))) hw)).trans (up_at h p (.list ((cells i []).map cellV)))
  have ew := up_at (h.up p (.list ((cells i []).map cellV))) w (.list ((cells o []).map cellV))
  have s1 := (Sub.new (o := .list ((cells i []).map cellV)) hp).trans (Sub.new (o := .list ((cells o []).map cellV)) hw)
  generalize (h.up p (.list ((cells i []).map cellV))).up w (.list ((cells o []).map cellV)) = h1 at ep ew s1 ⊢
  refine ⟨_, sq ep, ?_, ?_⟩
  · rw [List.length_map, cells_upto]; exact cap_of (by have := upto_len si [] i.length; have := si.len; omega)
  refine lc_map cellV (fun c => if (decide ((c.1, c.2 + 1) ∉ cells i []) && decide ((c.1 + 1, c.2) ∉ cells i [])) = true then some (cellV c) else none) rfl (fun c K' hc k => ?_) ?_
  · obtain ⟨r, c⟩ := c
    refine ⟨_, rfl, x_tup (v := .int (r : Nat)) rfl ⟨_, rfl, x_tup (v := .int (c : Nat)) rfl (o_add ⟨Nat.le_of_ble_eq_true rfl, _, rfl, ?_⟩)⟩⟩
    refine c_nmemC (p := (r, c + 1)) ep (t_decN (fun h1 => ?_) fun h1 => ?_)
    · refine ⟨_, rfl, x_tup (v := .int (r : Nat)) rfl (o_add ⟨_, rfl, x_tup (v := .int (c : Nat)) rfl ⟨Nat.le_of_ble_eq_true rfl, _, rfl, ?_⟩⟩)⟩
      refine c_nmemC (p := (r + 1, c)) ep (t_decN (fun h2 => ⟨_, rfl, ?_⟩) fun h2 => ?_)
      · rw [if_pos (by simp [h1, h2])] at k; exact k
      · rw [if_neg (by simp [h2])] at k; exact k
    · rw [if_neg (by simp [h1])] at k; exact t_ff k
  intro l hl
  rw [filterMap_if]
  refine ⟨Nat.le_of_ble_eq_true rfl, fun m hm => ⟨8, rfl, ⟨by decide, by decide⟩, ?_⟩⟩
  have fin : (cells i []).filter (fun c => decide ((c.1, c.2 + 1) ∉ cells i []) && decide ((c.1 + 1, c.2) ∉ cells i [])) = lawIn i := rfl
  rw [fin] at hm ⊢
  have el := up_at h1 l (.list ((lawIn i).map cellV))
  have nml : l ≠ m := ne_new el hm
  have hl0 : h l = none := by
    cases z : h l with
    | none => rfl
    | some ob => have := s1 l ob z; rw [hl] at this; cases this
  have hm0 : h m = none := by
    cases z : h m with
    | none => rfl
    | some ob => have := (s1.trans (Sub.new (o := .list ((lawIn i).map cellV)) hl)) m ob z; rw [hm] at this; cases this
  have wl : w ≠ l := ne_new ew hl
  have wm : w ≠ m := ne_new ((up_ne wl).trans ew) hm
  let HM : Nat → Nat → HS := fun j k => (h1.up l (.list ((lawIn i).map cellV))).up m (.list ((uOut o j ++ rOut o j k).map cellV))
  have eW : ∀ j k, HM j k w = some (.list ((cells o []).map cellV)) := fun j k => (up_ne wm).trans ((up_ne wl).trans ew)
  refine for_rng (fun j e h' => ∃ x5 x7 x8 x9, e = [some (shV o), some (shV i), some (.ref p), some (.ref w), some (.ref l), x5, some (.ref m), x7, x8, x9] ∧ h' = HM j 0) ⟨none, none, none, none, rfl, rfl⟩ ?_ ?_
  · rintro j e h' K' hj ⟨x5, x7, x8, x9, rfl, rfl⟩ k
    simp only [Int.zero_add]
    refine ⟨8, rfl, ⟨by decide, by decide⟩, for_rng (fun c e h' => ∃ x5 x8 x9, e = [some (shV o), some (shV i), some (.ref p), some (.ref w), some (.ref l), x5, some (.ref m), some (.int (j : Nat)), x8, x9] ∧ h' = HM j c) ⟨_, _, _, rfl, rfl⟩ ?_ ?_⟩
    · rintro c e h' K2 hc ⟨x5, x8, x9, rfl, rfl⟩ k2
      simp only [Int.zero_add]
      have no : gOut o j c = false → ∀ x9, K2 [some (shV o), some (shV i), some (.ref p), some (.ref w), some (.ref l), x5, some (.ref m), some (.int (j : Nat)), some (.int (c : Nat)), x9] (HM j c) := fun hg x9 => k2 _ _ ⟨_, _, _, rfl, by show _ = (h1.up l _).up m _; rw [rOut_succ, hg]; simp [HM]⟩
      have yes : gOut o j c = true → ∀ x9, bmS .append (.ref m) [.tup [.int (j : Nat), .int (c : Nat)]] (HM j c) (fun _ h' => K2 [some (shV o), some (shV i), some (.ref p), some (.ref w), some (.ref l), x5, some (.ref m), some (.int (j : Nat)), some (.int (c : Nat)), x9] h') := fun hg x9 => by
        refine m_app (up_at ..) (lt_cap ?_) ?_
        · rw [List.length_map, List.length_append]
          have := uOut_len o j
          have := rOut_len o j c
          omega
        · refine k2 _ _ ⟨_, _, _, rfl, ?_⟩
          show ((h1.up l _).up m _).up m _ = (h1.up l _).up m _
          rw [up_up, rOut_succ, hg]
          simp [cellV]
      refine ⟨_, rfl, c_eqI ⟨_, rfl, t_dec (fun c0 => ?_) fun c0 => ?_⟩⟩
      rotate_left
      · have c1 : ¬ c = 0 := by omega
        refine ⟨_, rfl, _, rfl, o_sub ⟨Nat.le_of_ble_eq_true rfl, _, rfl, ?_⟩⟩
        rw [show (c : Int) - 1 = ((c - 1 : Nat) : Int) by omega]
        refine c_memC (p := (j, c - 1)) (eW j c) ?_
        by_cases hm1 : (j, c - 1) ∈ cells o []
        rotate_left
        · rw [decide_eq_false hm1]
          exact ⟨_, rfl, _, rfl, t_ff (no (by unfold gOut; simp [c1, hm1]) _)⟩
        rw [decide_eq_true hm1]
        have hg : (decide (c = 0) || decide ((j, c - 1) ∈ cells o [])) = true := by simp [hm1]
        refine ⟨_, rfl, _, rfl, t_tt ⟨_, rfl, c_eqI (t_dec (fun j0 => ?_) fun j0 => ?_)⟩⟩
        · have hj2 : (decide (j = 0) || decide ((j - 1, c) ∈ cells o [])) = true := by simp [show j = 0 by omega]
          refine t_T ?_
          refine ⟨_, rfl, _, rfl, Nat.le_of_ble_eq_true rfl, _, rfl, c_nmemC (p := (j, c)) (eW j c) (t_decN (fun h3 => ?_) fun h3 => ?_)⟩
          · refine ⟨_, rfl, ⟨m, _, rfl, up_at ..⟩, _, rfl, _, rfl, Nat.le_of_ble_eq_true rfl, yes ?_ _⟩
            unfold gOut
            rw [hg, hj2]
            simp [h3]
          · refine no ?_ _
            unfold gOut
            simp [h3]
        · have j1 : ¬ j = 0 := by omega
          refine ⟨_, rfl, o_sub ⟨_, rfl, Nat.le_of_ble_eq_true rfl, _, rfl, ?_⟩⟩
          rw [show (j : Int) - 1 = ((j - 1 : Nat) : Int) by omega]
          refine c_memC (p := (j - 1, c)) (eW j c) ?_
          by_cases hm2 : (j - 1, c) ∈ cells o []
          rotate_left
          · rw [decide_eq_false hm2]
            exact t_ff (no (by unfold gOut; simp [j1, hm2]) _)
          rw [decide_eq_true hm2]
          have hj2 : (decide (j = 0) || decide ((j - 1, c) ∈ cells o [])) = true := by simp [hm2]
          refine t_tt ?_
          refine ⟨_, rfl, _, rfl, Nat.le_of_ble_eq_true rfl, _, rfl, c_nmemC (p := (j, c)) (eW j c) (t_decN (fun h3 => ?_) fun h3 => ?_)⟩
          · refine ⟨_, rfl, ⟨m, _, rfl, up_at ..⟩, _, rfl, _, rfl, Nat.le_of_ble_eq_true rfl, yes ?_ _⟩
            unfold gOut
            rw [hg, hj2]
            simp [h3]
          · refine no ?_ _
            unfold gOut
            simp [h3]
      · have hg : (decide (c = 0) || decide ((j, c - 1) ∈ cells o [])) = true := by simp [show c = 0 by omega]
        refine ⟨_, rfl, _, rfl, t_tt ⟨_, rfl, c_eqI (t_dec (fun j0 => ?_) fun j0 => ?_)⟩⟩
        · have hj2 : (decide (j = 0) || decide ((j - 1, c) ∈ cells o [])) = true := by simp [show j = 0 by omega]
          refine t_T ?_
          refine ⟨_, rfl, _, rfl, Nat.le_of_ble_eq_true rfl, _, rfl, c_nmemC (p := (j, c)) (eW j c) (t_decN (fun h3 => ?_) fun h3 => ?_)⟩
          · refine ⟨_, rfl, ⟨m, _, rfl, up_at ..⟩, _, rfl, _, rfl, Nat.le_of_ble_eq_true rfl, yes ?_ _⟩
            unfold gOut
            rw [hg, hj2]
            simp [h3]
          · refine no ?_ _
            unfold gOut
            simp [h3]
        · have j1 : ¬ j = 0 := by omega
          refine ⟨_, rfl, o_sub ⟨_, rfl, Nat.le_of_ble_eq_true rfl, _, rfl, ?_⟩⟩
          rw [show (j : Int) - 1 = ((j - 1 : Nat) : Int) by omega]
          refine c_memC (p := (j - 1, c)) (eW j c) ?_
          by_cases hm2 : (j - 1, c) ∈ cells o []
          rotate_left
          · rw [decide_eq_false hm2]
            exact t_ff (no (by unfold gOut; simp [j1, hm2]) _)
          rw [decide_eq_true hm2]
          have hj2 : (decide (j = 0) || decide ((j - 1, c) ∈ cells o [])) = true := by simp [hm2]
          refine t_tt ?_
          refine ⟨_, rfl, _, rfl, Nat.le_of_ble_eq_true rfl, _, rfl, c_nmemC (p := (j, c)) (eW j c) (t_decN (fun h3 => ?_) fun h3 => ?_)⟩
          · refine ⟨_, rfl, ⟨m, _, rfl, up_at ..⟩, _, rfl, _, rfl, Nat.le_of_ble_eq_true rfl, yes ?_ _⟩
            unfold gOut
            rw [hg, hj2]
            simp [h3]
          · refine no ?_ _
            unfold gOut
            simp [h3]
    · rintro e h' ⟨x5, x8, x9, rfl, rfl⟩
      exact k _ _ ⟨_, _, _, _, rfl, by show (h1.up l _).up m _ = (h1.up l _).up m _; rw [uOut_succ]; simp [rOut]⟩
  · rintro e h' ⟨x5, x7, x8, x9, rfl, rfl⟩
    refine ⟨_, rfl, _, rfl, Nat.le_of_ble_eq_true rfl, .of (q l m hl0 hm0 nml) ?_⟩
    have e8 : uOut o 8 ++ rOut o 8 0 = lawOut o := by rw [lawOut_u]; simp [rOut]
    show CS.Sub _ ((h1.up l _).up m (.list ((uOut o 8 ++ rOut o 8 0).map cellV)))
    rw [e8]
    exact (s1.up).up
end K20

/-! K20h -/
namespace K20
open PySem CS M20
def pairD (A B : List Cell) : PyData := .tuple [.list (A.map cellD), .list (B.map cellD)]
theorem eqv_cells : ∀ A : List Cell, PyData.eqvAll (A.map cellD) (A.map cellD) = true
  | [] => rfl
  | c :: A => by rw [List.map_cons, PyData.eqvAll, eqv_cell, decide_eq_true rfl, eqv_cells A]; rfl
theorem eqv_pair (A B : List Cell) : PyData.eqv (pairD A B) (pairD A B) = true := by
  show (PyData.eqvAll (A.map cellD) (A.map cellD) && (PyData.eqvAll (B.map cellD) (B.map cellD) && true)) = true
  rw [eqv_cells, eqv_cells]; rfl
theorem toD_lst {h : HS} {l : Nat} {A : List Cell} (n : Nat) (e : h l = some (.list (A.map cellV))) : toD h (n + 2) (.ref l) = some (.list (A.map cellD)) := by
  show (match listAt h l with | some vs => (vs.mapM (toD h (n + 1))).map PyData.list | none => none) = _
  rw [la e]
  show ((A.map cellV).mapM (toD h (n + 1))).map PyData.list = _
  rw [toD_cells]; rfl
theorem toD_pair {h : HS} {l m : Nat} {A B : List Cell} (e1 : h l = some (.list (A.map cellV))) (e2 : h m = some (.list (B.map cellV))) : toD h fuel (.tup [.ref l, .ref m]) = some (pairD A B) := by
  show (([.ref l, .ref m] : List Val).mapM (toD h 19)).map PyData.tuple = _
  rw [List.mapM_cons, toD_lst 17 e1, List.mapM_cons, toD_lst 17 e2]; rfl
theorem c_eqP {h : HS} {l m l' m' : Nat} {A B : List Cell} {K : Bool → Prop} (e1 : h l = some (.list (A.map cellV))) (e2 : h m = some (.list (B.map cellV))) (e3 : h l' = some (.list (A.map cellV))) (e4 : h m' = some (.list (B.map cellV))) (q : K true) : cmp2 .eq h (.tup [.ref l, .ref m]) (.tup [.ref l', .ref m']) K :=
  ⟨_, _, toD_pair e1 e2, toD_pair e3 e4, by rw [eqv_pair]; exact q⟩
theorem c_neP {h : HS} {l m l' m' : Nat} {A B : List Cell} {K : Bool → Prop} (e1 : h l = some (.list (A.map cellV))) (e2 : h m = some (.list (B.map cellV))) (e3 : h l' = some (.list (A.map cellV))) (e4 : h m' = some (.list (B.map cellV))) (q : K false) : cmp2 .ne h (.tup [.ref l, .ref m]) (.tup [.ref l', .ref m']) K :=
  ⟨_, _, toD_pair e1 e2, toD_pair e3 e4, by rw [eqv_pair]; exact q⟩
def spRight : FS := fun args h Q X => ∃ a x y z k, args = [.ref a, .int k] ∧ h a = some (wellO x y z) ∧ ∀ x' z', Q (.bl true) (h.up a (wellO x' y z'))
theorem isL {cs : List Str} {h : HS} {a : Nat} {vs : List Val} (e : h a = some (.list vs)) : isI cs h (.b .list) (.ref a) = some true := by
  unfold isI tyOf
  simp only [e]
  rfl
theorem kp_right (T : Tab) (t1 : T.fn "_law_draw" = spDraw) (t2 : T.fn "_law_shape" = spShape) (t3 : T.fn "_law_within" = spWithin) (t4 : T.me "Region" "__init__" = spInit) (t5 : T.fn "_law_corners" = spLC) (t6 : T.fn "corners" = spCor) : Keeps T N_law_right.length 2 b_law_right spRight := by
  rintro args h Q X ⟨a, x, y, z, kk, rfl, ha, q⟩
  refine ⟨rfl, ?_⟩
  show wSs T b_law_right [some (.ref a), some (.int kk), none, none, none, none, none, none] h _
  dsimp only [b_law_right, wSs, wS, wC, wE, wEs, wG, wGs, wSrc, wOC, wO]
  rw [t1, t2, t3, t4, t5, t6]
  refine ⟨Nat.le_of_ble_eq_true rfl, fun p0 hp0 => ⟨_, rfl, ?_⟩⟩
  have w0 := (Wl.here ha).new (o := .list [.int 4, .int 8]) hp0
  obtain ⟨x1, z1, ha1⟩ := w0.at
  have na0 : p0 ≠ a := ((Wl.here ha).free hp0).2
  refine ⟨a, x1, y, z1, 2, rfl, ha1, by decide, by decide, fun u1 v1 r r0 r1 => ?_⟩
  have w1 := w0.up (x := u1) (z := v1)
  obtain ⟨sz, es, s8⟩ : ∃ sz : Nat, itemAt [Val.int 4, Val.int 8] r = some (.int (sz : Nat)) ∧ sz ≤ 8 := by
    rcases (by omega : r = 0 ∨ r = 1) with e | e <;> subst e
    · exact ⟨4, rfl, by decide⟩
    · exact ⟨8, rfl, by decide⟩
  refine x_lst ((up_ne na0).trans (up_at ..)) es ⟨_, rfl, _, rfl, _, rfl, ?_⟩
  generalize (h.up p0 (.list [.int 4, .int 8])).up a (wellO u1 y v1) = h1 at w1 ⊢
  obtain ⟨x2, z2, ha2⟩ := w1.at
  refine ⟨a, x2, y, z2, sz, sz, rfl, ha2, s8, s8, fun u2 v2 o so ol oc => ⟨_, rfl, _, rfl, ?_⟩⟩
  have w2 := w1.up (x := u2) (z := v2)
  generalize h1.up a (wellO u2 y v2) = h2 at w2 ⊢
  obtain ⟨x3, z3, ha3⟩ := w2.at
  refine ⟨a, x3, y, z3, o, rfl, ha3, so, fun u3 v3 i si oi => ⟨_, rfl, _, rfl, fun p hp => ?_⟩⟩
  have w3 := w2.up (x := u3) (z := v3)
  generalize h2.up a (wellO u3 y v3) = h3 at w3 hp ⊢
  refine ⟨p, o, i, rfl, up_at .., so, si, oi, rfl, ?_⟩
  rw [up_up]
  have w4 := w3.new (o := .inst "Region" (regF o i)) hp
  have ep := up_at h3 p (.inst "Region" (regF o i))
  generalize h3.up p (.inst "Region" (regF o i)) = h4 at w4 ep ⊢
  refine ⟨_, rfl, _, rfl, o, i, rfl, so, si, fun d1 d2 hd1 hd2 nd => ⟨_, rfl, ?_⟩⟩
  have hd2' : (h4.up d1 (.list ((lawIn i).map cellV))) d2 = none := by rw [up_ne (Ne.symm nd)]; exact hd2
  have w5 := (w4.new (o := .list ((lawIn i).map cellV)) hd1).new (o := .list ((lawOut o).map cellV)) hd2'
  have ep5 := (up_ne (o := .list ((lawOut o).map cellV)) (ne_new ((up_ne (o := .list ((lawIn i).map cellV)) (ne_new ep hd1)).trans ep) hd2')).trans ((up_ne (o := .list ((lawIn i).map cellV)) (ne_new ep hd1)).trans ep)
  have e1 := (up_ne (h := h4.up d1 (.list ((lawIn i).map cellV))) (o := .list ((lawOut o).map cellV)) nd).trans (up_at h4 d1 (.list ((lawIn i).map cellV)))
  have e2 := up_at (h4.up d1 (.list ((lawIn i).map cellV))) d2 (.list ((lawOut o).map cellV))
  generalize (h4.up d1 (.list ((lawIn i).map cellV))).up d2 (.list ((lawOut o).map cellV)) = h5 at w5 ep5 e1 e2 ⊢
  rw [lawIn_eq si] at e1
  rw [lawOut_eq so] at e2
  -- what corners makes
  have cor : ∀ (g : HS), Wl h a y g → g p = some (.inst "Region" (regF o i)) → g d1 = some (.list ((progIn i).map cellV)) → g d2 = some (.list ((progOut o).map cellV)) → ∀ l m, g l = none → g m = none → l ≠ m → ∀ g', g' = (g.up l (.list ((progIn i).map cellV))).up m (.list ((progOut o).map cellV)) →
      Wl h a y g' ∧ g' p = some (.inst "Region" (regF o i)) ∧ g' d1 = some (.list ((progIn i).map cellV)) ∧ g' d2 = some (.list ((progOut o).map cellV)) ∧ g' l = some (.list ((progIn i).map cellV)) ∧ g' m = some (.list ((progOut o).map cellV)) ∧ l ≠ p ∧ m ≠ p ∧ l ≠ d1 ∧ l ≠ d2 ∧ m ≠ d1 ∧ m ≠ d2 ∧ h l = none ∧ h m = none ∧ l ≠ a ∧ m ≠ a := by
    rintro g w g0 g1 g2 l m hl hm nlm g' rfl
    have hm' : (g.up l (.list ((progIn i).map cellV))) m = none := by rw [up_ne (Ne.symm nlm)]; exact hm
    have nl := ne_new g0 hl
    have nm := ne_new g0 hm
    have nl1 := ne_new g1 hl
    have nl2 := ne_new g2 hl
    have nm1 := ne_new g1 hm
    have nm2 := ne_new g2 hm
    obtain ⟨f1, f2⟩ := w.free hl
    obtain ⟨f3, f4⟩ := w.free hm
    exact ⟨(w.new hl).new hm', (up_ne nm).trans ((up_ne nl).trans g0), (up_ne nm1).trans ((up_ne nl1).trans g1), (up_ne nm2).trans ((up_ne nl2).trans g2), (up_ne nlm).trans (up_at ..), up_at .., nl.symm, nm.symm, nl1.symm, nl2.symm, nm1.symm, nm2.symm, f1, f3, f2, f4⟩
  refine ⟨p, o, i, rfl, ep5, so, si, fun f1 f2 hf1 hf2 nf => ?_⟩
  obtain ⟨w6, ep6, b1, b2, b3, b4, n1, n2, n3, n4, n5, n6, hf1', hf2', n7, n8⟩ := cor h5 w5 ep5 e1 e2 f1 f2 hf1 hf2 nf _ rfl
  generalize (h5.up f1 (.list ((progIn i).map cellV))).up f2 (.list ((progOut o).map cellV)) = h6 at w6 ep6 b1 b2 b3 b4 ⊢
  refine ⟨_, rfl, true, rfl, true, rfl, t_ff ⟨_, rfl, b_lenT (c_neI (t_ff ?_))⟩⟩
  refine ⟨_, rfl, x_tup (v := .ref f1) rfl ⟨true, isL b3, true, rfl, t_ff ⟨_, rfl, x_tup (v := .ref f2) rfl ⟨true, isL b4, true, rfl, t_ff ⟨_, rfl, _, rfl, c_neP b3 b4 b1 b2 (t_ff ?_)⟩⟩⟩⟩⟩
  refine ⟨_, rfl, x_tup (v := .ref f1) rfl ⟨⟨f1, _, rfl, b3⟩, m_app b3 ?_ ?_⟩⟩
  · rw [List.length_map]
    unfold progIn
    have := List.length_filterMap_le (fun r => if row i (r + 1) < row i r then some (r, row i r - 1) else none) (List.range i.length)
    rw [List.length_range] at this
    have := si.len
    exact lt_cap (by omega)
  have w7 := w6.put (o := .list ((progIn i).map cellV ++ [.non])) hf1' n7
  have ep7 := (up_ne (o := .list ((progIn i).map cellV ++ [.non])) n1.symm).trans ep6
  have c1 := (up_ne (o := .list ((progIn i).map cellV ++ [.non])) n3.symm).trans b1
  have c2 := (up_ne (o := .list ((progIn i).map cellV ++ [.non])) n4.symm).trans b2
  have c4 := (up_ne (o := .list ((progIn i).map cellV ++ [.non])) nf.symm).trans b4
  refine ⟨_, rfl, x_tup (v := .ref f2) rfl ⟨⟨f2, _, rfl, c4⟩, m_clr c4 ?_⟩⟩
  have w8 := w7.put (o := .list []) hf2' n8
  have ep8 := (up_ne (o := .list []) n2.symm).trans ep7
  have c1' := (up_ne (o := .list []) n5.symm).trans c1
  have c2' := (up_ne (o := .list []) n6.symm).trans c2
  generalize (h6.up f1 (.list ((progIn i).map cellV ++ [.non]))).up f2 (.list []) = h8 at w8 ep8 c1' c2' ⊢
  refine ⟨_, rfl, _, rfl, fun p2 hp2 => ?_⟩
  refine ⟨p2, o, i, rfl, up_at .., so, si, oi, rfl, ?_⟩
  rw [up_up]
  have w9 := w8.new (o := .inst "Region" (regF o i)) hp2
  have ep9 := (up_ne (o := .inst "Region" (regF o i)) (ne_new ep8 hp2)).trans ep8
  have c1'' := (up_ne (o := .inst "Region" (regF o i)) (ne_new c1' hp2)).trans c1'
  have c2'' := (up_ne (o := .inst "Region" (regF o i)) (ne_new c2' hp2)).trans c2'
  refine ⟨p2, o, i, rfl, up_at .., so, si, fun l m hl hm nlm => ⟨_, rfl, ?_⟩⟩
  obtain ⟨w10, ep10, d1', d2', k1, k2, _⟩ := cor _ w9 ep9 c1'' c2'' l m hl hm nlm _ rfl
  refine c_eqP k1 k2 d1' d2' ⟨true, rfl, t_tt ⟨_, rfl, ?_⟩⟩
  refine ⟨p, o, i, rfl, ep10, so, si, fun l' m' hl' hm' nlm' => ⟨_, rfl, ?_⟩⟩
  obtain ⟨w11, ep11, d1'', d2'', k1', k2', _⟩ := cor _ w10 ep10 d1' d2' l' m' hl' hm' nlm' _ rfl
  exact c_eqP k1' k2' d1'' d2'' (w11.q q)
end K20

/-! K20i -/
namespace K20
open PySem CS M20
theorem cut_map (ns : List Int) (lo hi : Option Int) : ∃ ms : List Int, cut (ns.map Val.int) lo hi = ms.map Val.int := ⟨_, by unfold cut; rw [← List.map_drop, ← List.map_take]⟩
def eight : List Nat := [8, 8, 8, 8, 8, 8, 8, 8]
theorem sh_8 : Sh eight := ⟨by decide, by decide, by decide, by unfold eight; simp⟩
theorem in_nil (o : List Nat) : In o [] := ⟨Nat.zero_le _, fun r => by rw [row_out (Nat.zero_le r)]; exact Nat.zero_le _⟩
theorem Sub.put {h h' : HS} {p : Nat} {o : CS.Obj} (s : CS.Sub h h') (n : h p = none) : CS.Sub h (h'.up p o) := fun b ob e => by
  have nb : b ≠ p := fun c => by rw [c, n] at e; cases e
  rw [up_ne nb]; exact s b ob e
theorem Sub.free {h h' : HS} {p : Nat} (s : CS.Sub h h') (n : h' p = none) : h p = none := by
  cases q : h p with
  | none => rfl
  | some o => have := s p o q; rw [n] at this; cases this
theorem o_mulT {h : HS} {vs : List Val} {i : Int} {Q : PV} (h0 : vs ≠ []) (h1 : 2 ≤ i) (h2 : i ≤ 1000) (h3 : vs.length ≤ 1000) (q : Q (.tup (List.replicate i.toNat vs).flatten) h) : op2 .mul h (.tup vs) (.int i) Q := ⟨h0, h1, h2, h3, q⟩
theorem kp_law (T : Tab) (t1 : T.fn "_law_right" = spRight) (t4 : T.me "Region" "__init__" = spInit) (t6 : T.fn "corners" = spCor) : Keeps T N_law.length 1 b_law (lawFS 63) := by
  rintro args h Q X ⟨ns, rfl, hl, hb, q⟩
  refine ⟨rfl, ?_⟩
  show wSs T b_law [some (.rol (ns.map .int)), none, none] h _
  dsimp only [b_law, wSs, wS, wC, wE, wEs, wG, wGs, wSrc, wOC, wO]
  rw [t1]
  refine ⟨_, rfl, Nat.le_of_ble_eq_true rfl, fun p1 hp1 => o_addR (up_at ..) ?_ fun p2 hp2 => ⟨none, rfl, some 4, rfl, s_lst (up_at ..) fun p3 hp3 => ⟨_, sq (up_at ..), ?_⟩⟩⟩
  · rw [List.length_map]; exact cap_of (by simp; omega)
  obtain ⟨ms, em⟩ := cut_map (ns ++ [0]) none (some 4)
  rw [List.map_append] at em
  have em' : cut (ns.map Val.int ++ [Val.int 0]) none (some 4) = ms.map Val.int := em
  rw [em']
  have e3 := up_at ((h.up p1 (.list [.int 0])).up p2 (.list (ns.map Val.int ++ [Val.int 0]))) p3 (.list (ms.map Val.int))
  generalize ((h.up p1 (.list [.int 0])).up p2 (.list (ns.map Val.int ++ [Val.int 0]))).up p3 (.list (ms.map Val.int)) = h0 at e3 ⊢
  refine for_enum (fun i e h' => (∃ x1 x2, e = [some (.rol (ns.map .int)), x1, x2]) ∧ CS.Sub h0 h') ⟨⟨_, _, rfl⟩, .refl _⟩ ?_ ?_ ?_
  · rintro i e h' ⟨_, sb⟩
    show listAt h' p3 = listAt h0 p3
    rw [la e3, la (sb _ _ e3)]
  · rintro i v e h' K' hv ⟨⟨x1, x2, rfl⟩, sb⟩ k
    rw [List.getElem?_map] at hv
    obtain ⟨c, rfl⟩ : ∃ c : Int, v = .int c := by
      cases hm : ms[i]? with
      | none => rw [hm] at hv; cases hv
      | some c => rw [hm] at hv; exact ⟨c, (Option.some.inj hv).symm⟩
    have i0 : i < ms.length := by
      by_cases z : i < ms.length
      · exact z
      · rw [List.getElem?_eq_none (by omega)] at hv; cases hv
    refine ⟨_, rfl, rfl, _, _, rfl, _, _, rfl, rfl, _, rfl, _, rfl, o_pow (by decide) (by decide) (by decide) (c_ge (b_intB (o_mulR ?_ ?_ ⟨_, rfl, o_mod (by decide) ⟨_, rfl, o_mulL (by decide) (by decide) (o_add ⟨Nat.le_of_ble_eq_true rfl, fun p hp => ⟨_, rfl, ?_⟩⟩)⟩⟩)))⟩
    · split <;> decide
    · split <;> decide
    refine ⟨p, _, _, 0, _, rfl, up_at .., fun x' z' => ⟨true, rfl, t_ff (k _ _ ⟨⟨_, _, rfl⟩, ?_⟩)⟩⟩
    rw [up_up]
    exact Sub.put sb (Sub.free sb hp)
  · rintro e h' ⟨⟨x1, x2, rfl⟩, sb⟩
    rw [t4, t6]
    -- a full square has no corner
    refine ⟨Nat.le_of_ble_eq_true rfl, o_mulT (by simp) (by decide) (by decide) (by simp) fun p hp => ?_⟩
    refine ⟨p, eight, [], rfl, up_at .., sh_8, sh_nil, in_nil _, rfl, ?_⟩
    rw [up_up]
    refine ⟨p, eight, [], rfl, up_at .., sh_8, sh_nil, fun l m hl hm nlm => ⟨Nat.le_of_ble_eq_true rfl, fun l2 hl2 => ⟨Nat.le_of_ble_eq_true rfl, fun m2 hm2 => ⟨Nat.le_of_ble_eq_true rfl, ?_⟩⟩⟩⟩
    have f1 : progOut eight = [] := by decide
    have f2 : progOut [] = [(0, 0)] := by decide
    have f3 : progIn [] = [] := rfl
    rw [f1, f3] at hl2 hm2 ⊢
    have a1 := (up_ne (o := .list (([] : List Cell).map cellV)) nlm).trans (up_at (h'.up p (.inst "Region" (regF eight []))) l (.list (([] : List Cell).map cellV)))
    have a2 := up_at ((h'.up p (.inst "Region" (regF eight []))).up l (.list (([] : List Cell).map cellV))) m (.list (([] : List Cell).map cellV))
    have b1 := (up_ne (o := .list []) (ne_new a1 hl2)).trans a1
    have b2 := (up_ne (o := .list []) (ne_new a2 hl2)).trans a2
    have c1 := (up_ne (o := .list []) (ne_new b1 hm2)).trans b1
    have c2 := (up_ne (o := .list []) (ne_new b2 hm2)).trans b2
    have c3 := (up_ne (o := .list []) (ne_new (up_at ..) hm2)).trans (up_at (((h'.up p (.inst "Region" (regF eight []))).up l (.list (([] : List Cell).map cellV))).up m (.list (([] : List Cell).map cellV))) l2 (.list []))
    refine c_eqP (A := []) (B := []) c1 c2 c3 (up_at ..) ⟨true, rfl, t_tt ?_⟩
    generalize ((((h'.up p (.inst "Region" (regF eight []))).up l (.list (([] : List Cell).map cellV))).up m (.list (([] : List Cell).map cellV))).up l2 (.list [])).up m2 (.list []) = g
    -- nothing at all has one outer corner
    refine ⟨Nat.le_of_ble_eq_true rfl, fun p hp => ?_⟩
    refine ⟨p, [], [], rfl, up_at .., sh_nil, sh_nil, in_nil _, rfl, ?_⟩
    rw [up_up]
    refine ⟨p, [], [], rfl, up_at .., sh_nil, sh_nil, fun l m hl hm nlm => ⟨Nat.le_of_ble_eq_true rfl, fun l2 hl2 => ⟨Nat.le_of_ble_eq_true rfl, Nat.le_of_ble_eq_true rfl, fun m2 hm2 => ⟨Nat.le_of_ble_eq_true rfl, ?_⟩⟩⟩⟩
    rw [f2, f3] at hl2 hm2 ⊢
    have a1 := (up_ne (o := .list ([((0 : Nat), (0 : Nat))].map cellV)) nlm).trans (up_at (g.up p (.inst "Region" (regF [] []))) l (.list (([] : List Cell).map cellV)))
    have a2 := up_at ((g.up p (.inst "Region" (regF [] []))).up l (.list (([] : List Cell).map cellV))) m (.list ([((0 : Nat), (0 : Nat))].map cellV))
    have b1 := (up_ne (o := .list []) (ne_new a1 hl2)).trans a1
    have b2 := (up_ne (o := .list []) (ne_new a2 hl2)).trans a2
    have c1 := (up_ne (o := .list [.tup [.int 0, .int 0]]) (ne_new b1 hm2)).trans b1
    have c2 := (up_ne (o := .list [.tup [.int 0, .int 0]]) (ne_new b2 hm2)).trans b2
    have c3 := (up_ne (o := .list [.tup [.int 0, .int 0]]) (ne_new (up_at ..) hm2)).trans (up_at (((g.up p (.inst "Region" (regF [] []))).up l (.list (([] : List Cell).map cellV))).up m (.list ([((0 : Nat), (0 : Nat))].map cellV))) l2 (.list []))
    exact c_eqP (A := []) (B := [((0 : Nat), (0 : Nat))]) c1 c2 c3 (up_at ..) (.here (q _))
end K20

/-! K20j -/
namespace K20
open PySem PySem.Spec PyProof.Rows L2 CS M20
def nofs : FS := fun _ _ _ _ => False
def fnL : List (Str × FS) := [("is_int", spIsInt), ("check_shape", spCheck), ("_law_cells", spCells), ("_law_corners", spLC), ("_law_draw", spDraw), ("_law_shape", spShape), ("_law_within", spWithin), ("length_of", spLen), ("inner_corners", spIn), ("outer_corners", spOut), ("corners", spCor), ("_law_right", spRight), ("law", lawFS 63)]
def meL : List ((Str × Str) × FS) := [(("Region", "__init__"), spInit)]
def tab : Tab := { cs := [], fn := fun f => (fnL.lookup f).getD nofs, me := fun c m => (meL.lookup (c, m)).getD nofs }
theorem all_mk {l : PySem.W.OpenLaw} {w : World} {K : PySem.W.Frag} {h : Heap} {mg : Str → Option Value} {fa : Addr} (X : K.In h) (Gm : h.Ns mainGlobals mg) (hfa : mg "law" = some (.ref fa))
    {C_Region : Addr} {od_is_int an_is_int : Option Addr} {sl_is_int : Array (Option Value)} {oc_is_int kV_is_int dc_is_int pm_is_int cd_is_int ct_is_int : Value} {f_is_int : Addr} {od_check_shape an_check_shape : Option Addr} {sl_check_shape : Array (Option Value)} {oc_check_shape kV_check_shape dc_check_shape pm_check_shape cd_check_shape ct_check_shape : Value} {f_check_shape : Addr} {od_Region_init an_Region_init : Option Addr} {sl_Region_init : Array (Option Value)} {oc_Region_init kV_Region_init dc_Region_init pm_Region_init cd_Region_init ct_Region_init : Value} {f_Region_init : Addr} {Td_Region_init E_Region_init : Addr} {n2_Region_init n3_Region_init : Nat} {tc_Region_init : Value} {td_Region_init ed_Region_init : Option Addr} {ts_Region_init es_Region_init : Array (Option Value)} {od_law_cells an_law_cells : Option Addr} {sl_law_cells : Array (Option Value)} {oc_law_cells kV_law_cells dc_law_cells pm_law_cells cd_law_cells ct_law_cells : Value} {f_law_cells : Addr} {od_law_corners an_law_corners : Option Addr} {sl_law_corners : Array (Option Value)} {oc_law_corners kV_law_corners dc_law_corners pm_law_corners cd_law_corners ct_law_corners : Value} {f_law_corners : Addr} {od_law_draw an_law_draw : Option Addr} {sl_law_draw : Array (Option Value)} {oc_law_draw kV_law_draw dc_law_draw pm_law_draw cd_law_draw ct_law_draw : Value} {f_law_draw : Addr} {od_law_shape an_law_shape : Option Addr} {sl_law_shape : Array (Option Value)} {oc_law_shape kV_law_shape dc_law_shape pm_law_shape cd_law_shape ct_law_shape : Value} {f_law_shape : Addr} {od_law_within an_law_within : Option Addr} {sl_law_within : Array (Option Value)} {oc_law_within kV_law_within dc_law_within pm_law_within cd_law_within ct_law_within : Value} {f_law_within : Addr} {od_length_of an_length_of : Option Addr} {sl_length_of : Array (Option Value)} {oc_length_of kV_length_of dc_length_of pm_length_of cd_length_of ct_length_of : Value} {f_length_of : Addr} {od_inner_corners an_inner_corners : Option Addr} {sl_inner_corners : Array (Option Value)} {oc_inner_corners kV_inner_corners dc_inner_corners pm_inner_corners cd_inner_corners ct_inner_corners : Value} {f_inner_corners : Addr} {od_outer_corners an_outer_corners : Option Addr} {sl_outer_corners : Array (Option Value)} {oc_outer_corners kV_outer_corners dc_outer_corners pm_outer_corners cd_outer_corners ct_outer_corners : Value} {f_outer_corners : Addr} {od_corners an_corners : Option Addr} {sl_corners : Array (Option Value)} {oc_corners kV_corners dc_corners pm_corners cd_corners ct_corners : Value} {f_corners : Addr} {od_law_right an_law_right : Option Addr} {sl_law_right : Array (Option Value)} {oc_law_right kV_law_right dc_law_right pm_law_right cd_law_right ct_law_right : Value} {f_law_right : Addr} {od_law an_law : Option Addr} {sl_law : Array (Option Value)} {oc_law kV_law dc_law pm_law cd_law ct_law : Value} {f_law : Addr} {tk_MAX_SIZE : Tok}
    (aC_Region : PySem.W.nsIn K mainGlobals "Region" = some (some (.ref C_Region)))
    (pg_Region : PySem.W.plainGet K C_Region Str.empty = true)
    (hd_Region : PySem.W.hasDictIn K C_Region = true)
    (po_Region : PySem.W.plainOver K C_Region = true)
    (sa_Region : PySem.W.findIn K (.ref C_Region) "__setattr__" = some (some (.builtin "object.__setattr__")))
    (mk_Region : PySem.W.makesIn K C_Region = true)
    (kc_Region : PySem.W.keepIn K (.ref C_Region) = true)
    (n_Region_inner : PySem.W.findIn K (.ref C_Region) "inner" = some none)
    (n_Region_outer : PySem.W.findIn K (.ref C_Region) "outer" = some none)
    (a_is_int : PySem.W.nsIn K mainGlobals "is_int" = some (some (.ref f_is_int)))
    (l_is_int : K.lookup f_is_int = some ⟨oc_is_int, od_is_int, .func (PySem.W.fnOf "is_int" "is_int" (defArgs s_is_int) (defBody s_is_int) (defScope s_is_int) .none kV_is_int dc_is_int pm_is_int an_is_int cd_is_int ct_is_int), sl_is_int⟩)
    (c_is_int : PySem.W.codeIn K cd_is_int "is_int" = true)
    (k_is_int : PySem.W.keepIn K (.ref f_is_int) = true)
    (a_check_shape : PySem.W.nsIn K mainGlobals "check_shape" = some (some (.ref f_check_shape)))
    (l_check_shape : K.lookup f_check_shape = some ⟨oc_check_shape, od_check_shape, .func (PySem.W.fnOf "check_shape" "check_shape" (defArgs s_check_shape) (defBody s_check_shape) (defScope s_check_shape) .none kV_check_shape dc_check_shape pm_check_shape an_check_shape cd_check_shape ct_check_shape), sl_check_shape⟩)
    (c_check_shape : PySem.W.codeIn K cd_check_shape "check_shape" = true)
    (k_check_shape : PySem.W.keepIn K (.ref f_check_shape) = true)
    (a_Region_init : PySem.W.findIn K (.ref C_Region) "__init__" = some (some (.ref f_Region_init)))
    (i_f_Region_init : PySem.W.isFn K (.ref f_Region_init) = true)
    (l_Region_init : K.lookup f_Region_init = some ⟨oc_Region_init, od_Region_init, .func (PySem.W.fnOf "__init__" "Region.__init__" (defArgs s_Region_init) (defBody s_Region_init) (defScope s_Region_init) (.ref Td_Region_init) kV_Region_init dc_Region_init pm_Region_init an_Region_init cd_Region_init ct_Region_init), sl_Region_init⟩)
    (c_Region_init : PySem.W.codeIn K cd_Region_init "Region.__init__" = true)
    (k_Region_init : PySem.W.keepIn K (.ref f_Region_init) = true)
    (lT_Region_init : K.lookup Td_Region_init = some ⟨tc_Region_init, td_Region_init, .seq #[.ref E_Region_init] n2_Region_init, ts_Region_init⟩)
    (lE_Region_init : K.lookup E_Region_init = some ⟨.type "tuple", ed_Region_init, .seq #[] n3_Region_init, es_Region_init⟩)
    (a_law_cells : PySem.W.nsIn K mainGlobals "_law_cells" = some (some (.ref f_law_cells)))
    (l_law_cells : K.lookup f_law_cells = some ⟨oc_law_cells, od_law_cells, .func (PySem.W.fnOf "_law_cells" "_law_cells" (defArgs s_law_cells) (defBody s_law_cells) (defScope s_law_cells) .none kV_law_cells dc_law_cells pm_law_cells an_law_cells cd_law_cells ct_law_cells), sl_law_cells⟩)
    (c_law_cells : PySem.W.codeIn K cd_law_cells "_law_cells" = true)
    (k_law_cells : PySem.W.keepIn K (.ref f_law_cells) = true)
    (a_law_corners : PySem.W.nsIn K mainGlobals "_law_corners" = some (some (.ref f_law_corners)))
    (l_law_corners : K.lookup f_law_corners = some ⟨oc_law_corners, od_law_corners, .func (PySem.W.fnOf "_law_corners" "_law_corners" (defArgs s_law_corners) (defBody s_law_corners) (defScope s_law_corners) .none kV_law_corners dc_law_corners pm_law_corners an_law_corners cd_law_corners ct_law_corners), sl_law_corners⟩)
    (c_law_corners : PySem.W.codeIn K cd_law_corners "_law_corners" = true)
    (k_law_corners : PySem.W.keepIn K (.ref f_law_corners) = true)
    (a_law_draw : PySem.W.nsIn K mainGlobals "_law_draw" = some (some (.ref f_law_draw)))
    (l_law_draw : K.lookup f_law_draw = some ⟨oc_law_draw, od_law_draw, .func (PySem.W.fnOf "_law_draw" "_law_draw" (defArgs s_law_draw) (defBody s_law_draw) (defScope s_law_draw) .none kV_law_draw dc_law_draw pm_law_draw an_law_draw cd_law_draw ct_law_draw), sl_law_draw⟩)
    (c_law_draw : PySem.W.codeIn K cd_law_draw "_law_draw" = true)
    (k_law_draw : PySem.W.keepIn K (.ref f_law_draw) = true)
    (a_law_shape : PySem.W.nsIn K mainGlobals "_law_shape" = some (some (.ref f_law_shape)))
    (l_law_shape : K.lookup f_law_shape = some ⟨oc_law_shape, od_law_shape, .func (PySem.W.fnOf "_law_shape" "_law_shape" (defArgs s_law_shape) (defBody s_law_shape) (defScope s_law_shape) .none kV_law_shape dc_law_shape pm_law_shape an_law_shape cd_law_shape ct_law_shape), sl_law_shape⟩)
    (c_law_shape : PySem.W.codeIn K cd_law_shape "_law_shape" = true)
    (k_law_shape : PySem.W.keepIn K (.ref f_law_shape) = true)
    (a_law_within : PySem.W.nsIn K mainGlobals "_law_within" = some (some (.ref f_law_within)))
    (l_law_within : K.lookup f_law_within = some ⟨oc_law_within, od_law_within, .func (PySem.W.fnOf "_law_within" "_law_within" (defArgs s_law_within) (defBody s_law_within) (defScope s_law_within) .none kV_law_within dc_law_within pm_law_within an_law_within cd_law_within ct_law_within), sl_law_within⟩)
    (c_law_within : PySem.W.codeIn K cd_law_within "_law_within" = true)
    (k_law_within : PySem.W.keepIn K (.ref f_law_within) = true)
    (a_length_of : PySem.W.nsIn K mainGlobals "length_of" = some (some (.ref f_length_of)))
    (l_length_of : K.lookup f_length_of = some ⟨oc_length_of, od_length_of, .func (PySem.W.fnOf "length_of" "length_of" (defArgs s_length_of) (defBody s_length_of) (defScope s_length_of) .none kV_length_of dc_length_of pm_length_of an_length_of cd_length_of ct_length_of), sl_length_of⟩)
    (c_length_of : PySem.W.codeIn K cd_length_of "length_of" = true)
    (k_length_of : PySem.W.keepIn K (.ref f_length_of) = true)
    (a_inner_corners : PySem.W.nsIn K mainGlobals "inner_corners" = some (some (.ref f_inner_corners)))
    (l_inner_corners : K.lookup f_inner_corners = some ⟨oc_inner_corners, od_inner_corners, .func (PySem.W.fnOf "inner_corners" "inner_corners" (defArgs s_inner_corners) (defBody s_inner_corners) (defScope s_inner_corners) .none kV_inner_corners dc_inner_corners pm_inner_corners an_inner_corners cd_inner_corners ct_inner_corners), sl_inner_corners⟩)
    (c_inner_corners : PySem.W.codeIn K cd_inner_corners "inner_corners" = true)
    (k_inner_corners : PySem.W.keepIn K (.ref f_inner_corners) = true)
    (a_outer_corners : PySem.W.nsIn K mainGlobals "outer_corners" = some (some (.ref f_outer_corners)))
    (l_outer_corners : K.lookup f_outer_corners = some ⟨oc_outer_corners, od_outer_corners, .func (PySem.W.fnOf "outer_corners" "outer_corners" (defArgs s_outer_corners) (defBody s_outer_corners) (defScope s_outer_corners) .none kV_outer_corners dc_outer_corners pm_outer_corners an_outer_corners cd_outer_corners ct_outer_corners), sl_outer_corners⟩)
    (c_outer_corners : PySem.W.codeIn K cd_outer_corners "outer_corners" = true)
    (k_outer_corners : PySem.W.keepIn K (.ref f_outer_corners) = true)
    (a_corners : PySem.W.nsIn K mainGlobals "corners" = some (some (.ref f_corners)))
    (l_corners : K.lookup f_corners = some ⟨oc_corners, od_corners, .func (PySem.W.fnOf "corners" "corners" (defArgs s_corners) (defBody s_corners) (defScope s_corners) .none kV_corners dc_corners pm_corners an_corners cd_corners ct_corners), sl_corners⟩)
    (c_corners : PySem.W.codeIn K cd_corners "corners" = true)
    (k_corners : PySem.W.keepIn K (.ref f_corners) = true)
    (a_law_right : PySem.W.nsIn K mainGlobals "_law_right" = some (some (.ref f_law_right)))
    (l_law_right : K.lookup f_law_right = some ⟨oc_law_right, od_law_right, .func (PySem.W.fnOf "_law_right" "_law_right" (defArgs s_law_right) (defBody s_law_right) (defScope s_law_right) .none kV_law_right dc_law_right pm_law_right an_law_right cd_law_right ct_law_right), sl_law_right⟩)
    (c_law_right : PySem.W.codeIn K cd_law_right "_law_right" = true)
    (k_law_right : PySem.W.keepIn K (.ref f_law_right) = true)
    (a_law : PySem.W.nsIn K mainGlobals "law" = some (some (.ref f_law)))
    (l_law : K.lookup f_law = some ⟨oc_law, od_law, .func (PySem.W.fnOf "law" "law" (defArgs s_law) (defBody s_law) (defScope s_law) .none kV_law dc_law pm_law an_law cd_law ct_law), sl_law⟩)
    (c_law : PySem.W.codeIn K cd_law "law" = true)
    (k_law : PySem.W.keepIn K (.ref f_law) = true)
    (z_bool : PySem.W.nsIn K mainGlobals "bool" = some none)
    (z_enumerate : PySem.W.nsIn K mainGlobals "enumerate" = some none)
    (z_int : PySem.W.nsIn K mainGlobals "int" = some none)
    (z_isinstance : PySem.W.nsIn K mainGlobals "isinstance" = some none)
    (z_len : PySem.W.nsIn K mainGlobals "len" = some none)
    (z_list : PySem.W.nsIn K mainGlobals "list" = some none)
    (z_min : PySem.W.nsIn K mainGlobals "min" = some none)
    (z_range : PySem.W.nsIn K mainGlobals "range" = some none)
    (z_sorted : PySem.W.nsIn K mainGlobals "sorted" = some none)
    (z_tuple : PySem.W.nsIn K mainGlobals "tuple" = some none)
    (v_MAX_SIZE : PySem.W.nsIn K mainGlobals "MAX_SIZE" = some (some (.int 8 tk_MAX_SIZE))) :
    ∃ fd : FuncData, (∀ (s : Shared) (u : Value), BindsTo s fd ⟨[u], []⟩ [("_law_script", u)]) ∧ ∀ base : Heap, K.In base → base.Ns mainGlobals mg → FnOk l.prog w K mg base (L2.CX l.prog w) 6 fa fd ["_law_script"] (spOf ⟨K, mg⟩ (lawFS 63)) := by
  have e := hfa.symm.trans (PySem.W.mg_of X Gm a_law)
  cases e
  refine ⟨PySem.W.fnOf "law" "law" (defArgs s_law) (defBody s_law) (defScope s_law) .none kV_law dc_law pm_law an_law cd_law ct_law, fun s v => .of_eq rfl, fun base _ _ => ?_⟩
  have F_is_int := fun_mk (st := s_is_int) l_is_int c_is_int k_is_int
  have B_is_int := F_is_int.binds (ps := ["value"]) fun _ _ _ _ _ _ us hl => match us, hl with | [_], _ => rfl
  have T_is_int : FnT l.prog w ⟨K, mg⟩ base i_is_int [] (tab.fn "is_int") f_is_int := fnT_of F_is_int B_is_int sc_is_int rfl rfl ck_is_int (tab_mk (G := G_is_int) (T := tab) True.intro True.intro True.intro True.intro ⟨PySem.W.mg_none_of X Gm z_bool, ⟨PySem.W.mg_none_of X Gm z_int, ⟨PySem.W.mg_none_of X Gm z_isinstance, True.intro⟩⟩⟩ True.intro) (kp_is_int tab)
  have F_check_shape := fun_mk (st := s_check_shape) l_check_shape c_check_shape k_check_shape
  have B_check_shape := F_check_shape.binds (ps := ["shape"]) fun _ _ _ _ _ _ us hl => match us, hl with | [_], _ => rfl
  have T_check_shape : FnT l.prog w ⟨K, mg⟩ base i_check_shape [] (tab.fn "check_shape") f_check_shape := fnT_of F_check_shape B_check_shape sc_check_shape rfl rfl ck_check_shape (tab_mk (G := G_check_shape) (T := tab) ⟨⟨by decide, f_is_int, PySem.W.mg_of X Gm a_is_int, k_is_int, T_is_int⟩, True.intro⟩ True.intro True.intro ⟨⟨tk_MAX_SIZE, PySem.W.mg_of X Gm v_MAX_SIZE⟩, True.intro⟩ ⟨PySem.W.mg_none_of X Gm z_enumerate, ⟨PySem.W.mg_none_of X Gm z_isinstance, ⟨PySem.W.mg_none_of X Gm z_len, ⟨PySem.W.mg_none_of X Gm z_tuple, True.intro⟩⟩⟩⟩ True.intro) (kp_check tab rfl)
  have O_Region_init : FnOk l.prog w K mg base (L2.CX l.prog w) 3 f_Region_init _ ["self", "outer", "inner"] (spOf ⟨K, mg⟩ (tab.me "Region" "__init__")) := mk_fn l_Region_init c_Region_init sc_Region_init rfl rfl ck_Region_init (tab_mk (G := G_Region_init) (T := tab) ⟨⟨by decide, f_check_shape, PySem.W.mg_of X Gm a_check_shape, k_check_shape, T_check_shape⟩, True.intro⟩ ⟨⟨C_Region, ⟨PySem.W.mg_of X Gm aC_Region, ⟨pg_Region, hd_Region, po_Region, sa_Region⟩, (fun f hf => by
        rcases (by simpa [G_Region_init] using hf : f = "inner" ∨ f = "outer") with rfl | rfl
        all_goals first | exact n_Region_inner | exact n_Region_outer), (fun m i e => absurd e (by simp)), (fun p hp => absurd hp (by simp)), (fun z => absurd z (by decide)), (fun z => absurd z (by decide))⟩⟩, True.intro⟩ ⟨⟨.inl rfl, True.intro⟩, True.intro⟩ True.intro ⟨PySem.W.mg_none_of X Gm z_enumerate, ⟨PySem.W.mg_none_of X Gm z_len, True.intro⟩⟩ True.intro) (kp_init tab rfl)
  obtain ⟨T_Region_init, T0_Region_init⟩ := fnT_e l_Region_init c_Region_init k_Region_init lT_Region_init rfl lE_Region_init rfl rfl O_Region_init (fun _ _ _ _ _ _ _ us its e1 e2 => match us, its, e1, e2 with | [_, _], [_], _, _ => ⟨_, rfl, rfl⟩) (fun _ _ _ _ _ _ _ us its e1 e2 => match us, its, e1, e2 with | [_, _, _], [_], _, _ => ⟨_, rfl, rfl⟩) (by decide)
  have F_law_cells := fun_mk (st := s_law_cells) l_law_cells c_law_cells k_law_cells
  have B_law_cells := F_law_cells.binds (ps := ["_law_outer", "_law_inner"]) fun _ _ _ _ _ _ us hl => match us, hl with | [_, _], _ => rfl
  have T_law_cells : FnT l.prog w ⟨K, mg⟩ base i_law_cells [] (tab.fn "_law_cells") f_law_cells := fnT_of F_law_cells B_law_cells sc_law_cells rfl rfl ck_law_cells (tab_mk (G := G_law_cells) (T := tab) True.intro True.intro True.intro True.intro ⟨PySem.W.mg_none_of X Gm z_enumerate, ⟨PySem.W.mg_none_of X Gm z_len, ⟨PySem.W.mg_none_of X Gm z_list, ⟨PySem.W.mg_none_of X Gm z_range, True.intro⟩⟩⟩⟩ True.intro) (kp_cells tab)
  have F_law_corners := fun_mk (st := s_law_corners) l_law_corners c_law_corners k_law_corners
  have B_law_corners := F_law_corners.binds (ps := ["_law_outer", "_law_inner"]) fun _ _ _ _ _ _ us hl => match us, hl with | [_, _], _ => rfl
  have T_law_corners : FnT l.prog w ⟨K, mg⟩ base i_law_corners [] (tab.fn "_law_corners") f_law_corners := fnT_of F_law_corners B_law_corners sc_law_corners rfl rfl ck_law_corners (tab_mk (G := G_law_corners) (T := tab) ⟨⟨by decide, f_law_cells, PySem.W.mg_of X Gm a_law_cells, k_law_cells, T_law_cells⟩, True.intro⟩ True.intro True.intro True.intro ⟨PySem.W.mg_none_of X Gm z_range, True.intro⟩ True.intro) (kp_lc tab rfl)
  have F_law_draw := fun_mk (st := s_law_draw) l_law_draw c_law_draw k_law_draw
  have B_law_draw := F_law_draw.binds (ps := ["_law_well", "_law_limit"]) fun _ _ _ _ _ _ us hl => match us, hl with | [_, _], _ => rfl
  have T_law_draw : FnT l.prog w ⟨K, mg⟩ base i_law_draw [] (tab.fn "_law_draw") f_law_draw := fnT_of F_law_draw B_law_draw sc_law_draw rfl rfl ck_law_draw (tab_mk (G := G_law_draw) (T := tab) True.intro True.intro True.intro True.intro True.intro True.intro) (kp_draw tab)
  have F_law_shape := fun_mk (st := s_law_shape) l_law_shape c_law_shape k_law_shape
  have B_law_shape := F_law_shape.binds (ps := ["_law_well", "_law_rows", "_law_columns"]) fun _ _ _ _ _ _ us hl => match us, hl with | [_, _, _], _ => rfl
  have T_law_shape : FnT l.prog w ⟨K, mg⟩ base i_law_shape [] (tab.fn "_law_shape") f_law_shape := fnT_of F_law_shape B_law_shape sc_law_shape rfl rfl ck_law_shape (tab_mk (G := G_law_shape) (T := tab) ⟨⟨by decide, f_law_draw, PySem.W.mg_of X Gm a_law_draw, k_law_draw, T_law_draw⟩, True.intro⟩ True.intro True.intro True.intro ⟨PySem.W.mg_none_of X Gm z_range, ⟨PySem.W.mg_none_of X Gm z_sorted, ⟨PySem.W.mg_none_of X Gm z_tuple, True.intro⟩⟩⟩ True.intro) (kp_shape tab rfl)
  have F_law_within := fun_mk (st := s_law_within) l_law_within c_law_within k_law_within
  have B_law_within := F_law_within.binds (ps := ["_law_well", "_law_outer"]) fun _ _ _ _ _ _ us hl => match us, hl with | [_, _], _ => rfl
  have T_law_within : FnT l.prog w ⟨K, mg⟩ base i_law_within [] (tab.fn "_law_within") f_law_within := fnT_of F_law_within B_law_within sc_law_within rfl rfl ck_law_within (tab_mk (G := G_law_within) (T := tab) ⟨⟨by decide, f_law_draw, PySem.W.mg_of X Gm a_law_draw, k_law_draw, T_law_draw⟩, True.intro⟩ True.intro True.intro True.intro ⟨PySem.W.mg_none_of X Gm z_min, ⟨PySem.W.mg_none_of X Gm z_tuple, True.intro⟩⟩ True.intro) (kp_within tab rfl)
  have F_length_of := fun_mk (st := s_length_of) l_length_of c_length_of k_length_of
  have B_length_of := F_length_of.binds (ps := ["shape", "row"]) fun _ _ _ _ _ _ us hl => match us, hl with | [_, _], _ => rfl
  have T_length_of : FnT l.prog w ⟨K, mg⟩ base i_length_of [] (tab.fn "length_of") f_length_of := fnT_of F_length_of B_length_of sc_length_of rfl rfl ck_length_of (tab_mk (G := G_length_of) (T := tab) True.intro True.intro True.intro True.intro ⟨PySem.W.mg_none_of X Gm z_len, True.intro⟩ True.intro) (kp_len tab)
  have F_inner_corners := fun_mk (st := s_inner_corners) l_inner_corners c_inner_corners k_inner_corners
  have B_inner_corners := F_inner_corners.binds (ps := ["region"]) fun _ _ _ _ _ _ us hl => match us, hl with | [_], _ => rfl
  have T_inner_corners : FnT l.prog w ⟨K, mg⟩ base i_inner_corners [] (tab.fn "inner_corners") f_inner_corners := fnT_of F_inner_corners B_inner_corners sc_inner_corners rfl rfl ck_inner_corners (tab_mk (G := G_inner_corners) (T := tab) ⟨⟨by decide, f_length_of, PySem.W.mg_of X Gm a_length_of, k_length_of, T_length_of⟩, True.intro⟩ ⟨⟨C_Region, ⟨PySem.W.mg_of X Gm aC_Region, ⟨pg_Region, hd_Region, po_Region, sa_Region⟩, (fun f hf => by
        rcases (by simpa [G_inner_corners] using hf : f = "inner") with rfl
        all_goals first | exact n_Region_inner), (fun m i e => absurd e (by simp)), (fun p hp => absurd hp (by simp)), (fun z => absurd z (by decide)), (fun z => absurd z (by decide))⟩⟩, True.intro⟩ ⟨⟨.inl rfl, True.intro⟩, True.intro⟩ True.intro ⟨PySem.W.mg_none_of X Gm z_enumerate, True.intro⟩ True.intro) (kp_in tab rfl)
  have F_outer_corners := fun_mk (st := s_outer_corners) l_outer_corners c_outer_corners k_outer_corners
  have B_outer_corners := F_outer_corners.binds (ps := ["region"]) fun _ _ _ _ _ _ us hl => match us, hl with | [_], _ => rfl
  have T_outer_corners : FnT l.prog w ⟨K, mg⟩ base i_outer_corners [] (tab.fn "outer_corners") f_outer_corners := fnT_of F_outer_corners B_outer_corners sc_outer_corners rfl rfl ck_outer_corners (tab_mk (G := G_outer_corners) (T := tab) ⟨⟨by decide, f_length_of, PySem.W.mg_of X Gm a_length_of, k_length_of, T_length_of⟩, True.intro⟩ ⟨⟨C_Region, ⟨PySem.W.mg_of X Gm aC_Region, ⟨pg_Region, hd_Region, po_Region, sa_Region⟩, (fun f hf => by
        rcases (by simpa [G_outer_corners] using hf : f = "outer") with rfl
        all_goals first | exact n_Region_outer), (fun m i e => absurd e (by simp)), (fun p hp => absurd hp (by simp)), (fun z => absurd z (by decide)), (fun z => absurd z (by decide))⟩⟩, True.intro⟩ ⟨⟨.inl rfl, True.intro⟩, True.intro⟩ ⟨⟨tk_MAX_SIZE, PySem.W.mg_of X Gm v_MAX_SIZE⟩, True.intro⟩ ⟨PySem.W.mg_none_of X Gm z_len, ⟨PySem.W.mg_none_of X Gm z_min, ⟨PySem.W.mg_none_of X Gm z_range, True.intro⟩⟩⟩ True.intro) (kp_out tab rfl)
  have F_corners := fun_mk (st := s_corners) l_corners c_corners k_corners
  have B_corners := F_corners.binds (ps := ["region"]) fun _ _ _ _ _ _ us hl => match us, hl with | [_], _ => rfl
  have T_corners : FnT l.prog w ⟨K, mg⟩ base i_corners [] (tab.fn "corners") f_corners := fnT_of F_corners B_corners sc_corners rfl rfl ck_corners (tab_mk (G := G_corners) (T := tab) ⟨⟨by decide, f_inner_corners, PySem.W.mg_of X Gm a_inner_corners, k_inner_corners, T_inner_corners⟩, ⟨⟨by decide, f_outer_corners, PySem.W.mg_of X Gm a_outer_corners, k_outer_corners, T_outer_corners⟩, True.intro⟩⟩ True.intro True.intro True.intro True.intro True.intro) (kp_cor tab rfl rfl)
  have F_law_right := fun_mk (st := s_law_right) l_law_right c_law_right k_law_right
  have B_law_right := F_law_right.binds (ps := ["_law_well", "_law_k"]) fun _ _ _ _ _ _ us hl => match us, hl with | [_, _], _ => rfl
  have T_law_right : FnT l.prog w ⟨K, mg⟩ base i_law_right [] (tab.fn "_law_right") f_law_right := fnT_of F_law_right B_law_right sc_law_right rfl rfl ck_law_right (tab_mk (G := G_law_right) (T := tab) ⟨⟨by decide, f_law_corners, PySem.W.mg_of X Gm a_law_corners, k_law_corners, T_law_corners⟩, ⟨⟨by decide, f_law_draw, PySem.W.mg_of X Gm a_law_draw, k_law_draw, T_law_draw⟩, ⟨⟨by decide, f_law_shape, PySem.W.mg_of X Gm a_law_shape, k_law_shape, T_law_shape⟩, ⟨⟨by decide, f_law_within, PySem.W.mg_of X Gm a_law_within, k_law_within, T_law_within⟩, ⟨⟨by decide, f_corners, PySem.W.mg_of X Gm a_corners, k_corners, T_corners⟩, True.intro⟩⟩⟩⟩⟩ ⟨⟨C_Region, ⟨PySem.W.mg_of X Gm aC_Region, ⟨pg_Region, hd_Region, po_Region, sa_Region⟩, (fun f hf => by
        rcases (by simpa [G_law_right] using hf : False) with ⟨⟩
        all_goals first | trivial), (fun m i e => absurd e (by simp)), CS.AllP.mem ⟨⟨by decide, f_Region_init, ⟨mk_Region, a_Region_init, i_f_Region_init, kc_Region⟩, T_Region_init⟩, True.intro⟩, (fun z => absurd z (by decide)), (fun z => absurd z (by decide))⟩⟩, True.intro⟩ ⟨⟨.inl rfl, True.intro⟩, True.intro⟩ True.intro ⟨PySem.W.mg_none_of X Gm z_isinstance, ⟨PySem.W.mg_none_of X Gm z_len, ⟨PySem.W.mg_none_of X Gm z_list, ⟨PySem.W.mg_none_of X Gm z_tuple, True.intro⟩⟩⟩⟩ True.intro) (kp_right tab rfl rfl rfl rfl rfl rfl)
  exact mk_fn l_law c_law sc_law rfl rfl ck_law (tab_mk (G := G_law) (T := tab) ⟨⟨by decide, f_law_right, PySem.W.mg_of X Gm a_law_right, k_law_right, T_law_right⟩, ⟨⟨by decide, f_corners, PySem.W.mg_of X Gm a_corners, k_corners, T_corners⟩, True.intro⟩⟩ ⟨⟨C_Region, ⟨PySem.W.mg_of X Gm aC_Region, ⟨pg_Region, hd_Region, po_Region, sa_Region⟩, (fun f hf => by
        rcases (by simpa [G_law] using hf : False) with ⟨⟩
        all_goals first | trivial), (fun m i e => absurd e (by simp)), CS.AllP.mem ⟨⟨by decide, f_Region_init, ⟨mk_Region, a_Region_init, i_f_Region_init, kc_Region⟩, T0_Region_init⟩, True.intro⟩, (fun z => absurd z (by decide)), (fun z => absurd z (by decide))⟩⟩, True.intro⟩ ⟨⟨.inl rfl, True.intro⟩, True.intro⟩ True.intro ⟨PySem.W.mg_none_of X Gm z_enumerate, ⟨PySem.W.mg_none_of X Gm z_int, True.intro⟩⟩ True.intro) (kp_law tab rfl rfl rfl)
end K20
open PySem PySem.W PyProof.Rows
set_option maxRecDepth 100000 in
set_option maxHeartbeats 0 in
theorem PySem.Challenge.cw_crowdswap_k20_corners_holds : PySem.Challenge.rw_crowdswap_k20_corners.Holds := by
  w_on; o_law; k_head; (case hw => w_witness2)
  k_fill
  refine CS.walk_cs (l := PySem.Challenge.rw_crowdswap_k20_corners) (n := 63) (k := 6) (x := "_law_script") rfl (by decide) rfl ⟨rfl, by decide, by decide⟩ (fun w h Y => PySem.W.kIn_of Y) ?F
  case F =>
    intro w mg fa h KX Gm hmg
    refine' K20.all_mk KX Gm hmg ?aC_Region ?pg_Region ?hd_Region ?po_Region ?sa_Region ?mk_Region ?kc_Region ?n_Region_inner ?n_Region_outer ?a_is_int ?l_is_int ?c_is_int ?k_is_int ?a_check_shape ?l_check_shape ?c_check_shape ?k_check_shape ?a_Region_init ?i_f_Region_init ?l_Region_init ?c_Region_init ?k_Region_init ?lT_Region_init ?lE_Region_init ?a_law_cells ?l_law_cells ?c_law_cells ?k_law_cells ?a_law_corners ?l_law_corners ?c_law_corners ?k_law_corners ?a_law_draw ?l_law_draw ?c_law_draw ?k_law_draw ?a_law_shape ?l_law_shape ?c_law_shape ?k_law_shape ?a_law_within ?l_law_within ?c_law_within ?k_law_within ?a_length_of ?l_length_of ?c_length_of ?k_length_of ?a_inner_corners ?l_inner_corners ?c_inner_corners ?k_inner_corners ?a_outer_corners ?l_outer_corners ?c_outer_corners ?k_outer_corners ?a_corners ?l_corners ?c_corners ?k_corners ?a_law_right ?l_law_right ?c_law_right ?k_law_right ?a_law ?l_law ?c_law ?k_law ?z_bool ?z_enumerate ?z_int ?z_isinstance ?z_len ?z_list ?z_min ?z_range ?z_sorted ?z_tuple ?v_MAX_SIZE
    (case aC_Region => k_is)
    (case pg_Region => k_is)
    (case hd_Region => k_is)
    (case po_Region => k_is)
    (case sa_Region => k_is)
    (case mk_Region => k_is)
    (case kc_Region => k_is)
    (case n_Region_inner => k_is)
    (case n_Region_outer => k_is)
    (case a_is_int => k_is)
    (case l_is_int => k_is)
    (case c_is_int => k_is)
    (case k_is_int => k_is)
    (case a_check_shape => k_is)
    (case l_check_shape => k_is)
    (case c_check_shape => k_is)
    (case k_check_shape => k_is)
    (case a_Region_init => k_is)
    (case i_f_Region_init => k_is)
    (case l_Region_init => k_is)
    (case c_Region_init => k_is)
    (case k_Region_init => k_is)
    (case lT_Region_init => k_is)
    (case lE_Region_init => k_is)
    (case a_law_cells => k_is)
    (case l_law_cells => k_is)
    (case c_law_cells => k_is)
    (case k_law_cells => k_is)
    (case a_law_corners => k_is)
    (case l_law_corners => k_is)
    (case c_law_corners => k_is)
    (case k_law_corners => k_is)
    (case a_law_draw => k_is)
    (case l_law_draw => k_is)
    (case c_law_draw => k_is)
    (case k_law_draw => k_is)
    (case a_law_shape => k_is)
    (case l_law_shape => k_is)
    (case c_law_shape => k_is)
    (case k_law_shape => k_is)
    (case a_law_within => k_is)
    (case l_law_within => k_is)
    (case c_law_within => k_is)
    (case k_law_within => k_is)
    (case a_length_of => k_is)
    (case l_length_of => k_is)
    (case c_length_of => k_is)
    (case k_length_of => k_is)
    (case a_inner_corners => k_is)
    (case l_inner_corners => k_is)
    (case c_inner_corners => k_is)
    (case k_inner_corners => k_is)
    (case a_outer_corners => k_is)
    (case l_outer_corners => k_is)
    (case c_outer_corners => k_is)
    (case k_outer_corners => k_is)
    (case a_corners => k_is)
    (case l_corners => k_is)
    (case c_corners => k_is)
    (case k_corners => k_is)
    (case a_law_right => k_is)
    (case l_law_right => k_is)
    (case c_law_right => k_is)
    (case k_law_right => k_is)
    (case a_law => k_is)
    (case l_law => k_is)
    (case c_law => k_is)
    (case k_law => k_is)
    (case z_bool => k_is)
    (case z_enumerate => k_is)
    (case z_int => k_is)
    (case z_isinstance => k_is)
    (case z_len => k_is)
    (case z_list => k_is)
    (case z_min => k_is)
    (case z_range => k_is)
    (case z_sorted => k_is)
    (case z_tuple => k_is)
    (case v_MAX_SIZE => k_is)

