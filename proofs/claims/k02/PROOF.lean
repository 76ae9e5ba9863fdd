import PyProof.Rows.All
import PyProof.ReprRoads
import Wide.All
import OpenK.AllK
import Wide.FinOn
import HandS.ForMost
import HandS.Deep
import HandS.IsInst
import HandS.Style
import HandS.TupAny
import HandS.TupMul
import HandS.More
import HandS.Conv
import HandS.Call
import HandS.Ends
import HandS.Defaults
import HandS.List
import HandS.Head0
import HandS.Head1
import HandS.Head2
import HandS.HeadEnd
import HandS.HeadHook1
import HandS.HeadHook2
import HandS.HeadHook3
import HandS.HeadHook4
import KE.KStateDown
import Lean
import PySem.Challenge.RW_cellvouch_k02_what_words_stand_for
set_option Elab.async false
set_option linter.all false
set_option maxRecDepth 100000
/-! CvI: a small evaluator of the part of Python that the laws use: values as trees, mutable objects in a store. -/
namespace CV
open PySem

/-- kinds of mutable objects -/
inductive Kd where
  | lst | dct
  deriving DecidableEq

/-- values: trees over a store -/
inductive D where
  | non | bl (b : Bool) | int (i : Int) | str (s : Str) | tup (xs : List D)
  | loc (k : Kd) (n : Nat)
  | scr (ns : List Int)
  | gd (x : Str)

/-- mutable objects -/
inductive Ob where
  | lst (xs : List D)
  | dct (kvs : List (L2.Key × D))

abbrev Sto := List Ob
abbrev Env := List (Option D)

def Ob.kd : Ob → Kd
  | .lst _ => .lst
  | .dct _ => .dct

/-- a text by its signs -/
def sx (l : List Nat) : Str := ⟨⟨l⟩⟩
def cap : Nat := 16777216
def strGood (s : Str) : Bool := decide (s.length ≤ cap) && PyData.strOk s

mutual
def D.under (n : Nat) : D → Bool
  | .tup xs => D.underAll n xs
  | .loc _ m => decide (m < n)
  | _ => true
def D.underAll (n : Nat) : List D → Bool
  | [] => true
  | x :: xs => D.under n x && D.underAll n xs
end
def Ob.under (n : Nat) : Ob → Bool
  | .lst xs => D.underAll n xs
  | .dct kvs => D.underAll n (kvs.map (·.2))

mutual
def D.beq : D → D → Bool
  | .non, .non => true
  | .bl a, .bl b => a == b
  | .int a, .int b => a == b
  | .str a, .str b => a == b
  | .tup xs, .tup ys => D.beqAll xs ys
  | .loc k n, .loc l m => decide (k = l) && n == m
  | .scr a, .scr b => a == b
  | .gd a, .gd b => a == b
  | _, _ => false
def D.beqAll : List D → List D → Bool
  | [], [] => true
  | x :: xs, y :: ys => D.beq x y && D.beqAll xs ys
  | _, _ => false
end
def beqKv : List (L2.Key × D) → List (L2.Key × D) → Bool
  | [], [] => true
  | (k, x) :: xs, (l, y) :: ys => decide (k = l) && D.beq x y && beqKv xs ys
  | _, _ => false
def Ob.beq : Ob → Ob → Bool
  | .lst xs, .lst ys => D.beqAll xs ys
  | .dct xs, .dct ys => beqKv xs ys
  | _, _ => false

/-- what is left of a store behind a piece of work that began at S: what is new and no longer reached goes -/
def oldOk (n : Nat) : Sto → Sto → Bool
  | [], _ => true
  | o :: S, o' :: S1 => (Ob.under n o' || Ob.beq o o') && oldOk n S S1
  | _ :: _, [] => false
/-- nothing was made -/
def noNew : Sto → Sto → Bool
  | _, [] => true
  | [], _ :: _ => false
  | _ :: S, _ :: S1 => noNew S S1
def gc0 (S : Sto) (r : D × Sto) : D × Sto :=
  if oldOk S.length S r.2 then
    if D.under S.length r.1 then (r.1, r.2.take S.length)
    else match r.1 with
      | .loc k m => match r.2[m]? with
        | some o => if Ob.under S.length o && decide (S.length ≤ m) && decide (o.kd = k) then (.loc k S.length, r.2.take S.length ++ [o]) else r
        | none => r
      | _ => r
  else r
def gc (S : Sto) (r : D × Sto) : D × Sto := if noNew S r.2 then r else gc0 S r

/-- the items of a list, a tuple -/
def seqOf (S : Sto) : D → Option (List D)
  | .tup xs => some xs
  | .loc .lst n => match S[n]? with
    | some (.lst xs) => some xs
    | _ => none
  | .scr ns => some (ns.map D.int)
  | _ => none
def lstOf (S : Sto) : D → Option (List D)
  | .loc .lst n => match S[n]? with
    | some (.lst xs) => some xs
    | _ => none
  | .scr ns => some (ns.map D.int)
  | _ => none

def mapO {α β : Type} (f : α → Option β) : List α → Option (List β)
  | [] => some []
  | x :: xs => match f x with
    | some y => match mapO f xs with
      | some ys => some (y :: ys)
      | none => none
    | none => none

/-- plain data, for == and in -/
def pd (S : Sto) : Nat → D → Option PyData
  | _, .non => some .none
  | _, .bl b => some (.bool b)
  | _, .int i => some (.int i)
  | _, .str s => some (.str s)
  | k + 1, .tup xs => (mapO (pd S k) xs).map .tuple
  | k + 1, .loc .lst n => match S[n]? with
    | some (.lst xs) => (mapO (pd S k) xs).map .list
    | _ => none
  | _ + 1, .scr ns => some (.list (ns.map .int))
  | _, _ => none

def D.scal : D → Bool
  | .non | .bl _ | .int _ | .str _ => true
  | _ => false
def D.seq : D → Bool
  | .tup _ | .loc .lst _ | .scr _ => true
  | _ => false
/-- a == b of values of which one is no sequence -/
def eqS : D → D → Bool
  | .non, .non => true
  | .bl a, .bl b => a == b
  | .bl a, .int j => (if a then 1 else 0) == j
  | .int i, .bl b => i == (if b then 1 else 0)
  | .int i, .int j => i == j
  | .str x, .str y => x == y
  | _, _ => false
def eqD (S : Sto) (a b : D) : Option Bool :=
  if a.scal && b.scal then some (eqS a b)
  else if a.scal && b.seq || a.seq && b.scal then some false
  else match pd S 60 a, pd S 60 b with
    | some x, some y => some (PyData.eqv x y)
    | _, _ => none
def neD (S : Sto) (a b : D) : Option Bool :=
  if a.scal && b.scal then some (!eqS a b)
  else match pd S 60 a, pd S 60 b with
    | some x, some y => some (!PyData.eqv x y)
    | _, _ => none
def inD (S : Sto) (x : D) (xs : List D) : Option Bool :=
  if x.scal && xs.all D.scal then some (xs.any fun y => eqS y x)
  else if x.seq && xs.all D.scal then some false
  else match pd S 60 x, mapO (pd S 59) xs with
    | some d, some ds => some (ds.any fun y => PyData.eqv y d)
    | _, _ => none

def truth (S : Sto) : D → Option Bool
  | .non => some false
  | .bl b => some b
  | .int i => some (i != 0)
  | .str s => some ((s.length : Int) != 0)
  | .tup xs => some (!xs.isEmpty)
  | .loc .lst n => match S[n]? with
    | some (.lst xs) => some (!xs.isEmpty)
    | _ => none
  | .loc .dct n => match S[n]? with
    | some (.dct kvs) => some (!kvs.isEmpty)
    | _ => none
  | _ => none

/-- the built-in type -/
def tyOf : D → Option String
  | .non => some "NoneType"
  | .bl _ => some "bool"
  | .int _ => some "int"
  | .str _ => some "str"
  | .tup _ => some "tuple"
  | .loc .lst _ => some "list"
  | .loc .dct _ => some "dict"
  | .scr _ => none
  | .gd _ => none

inductive Bop where | add | sub | mul | fdiv | mod | pow
  deriving DecidableEq
inductive Cop where | eq | ne | lt | le | gt | ge | in_ | notIn
  deriving DecidableEq
inductive Bi where | len | list | tuple | all | any | abs | max | min | repr
  deriving DecidableEq
inductive Me where | append | reverse | extend | pop
  deriving DecidableEq

def toKey : D → Option L2.Key
  | .int i => some (.inl i)
  | .str s => some (.inr s)
  | _ => none

def valD (kvs : List (L2.Key × D)) (k : L2.Key) : Option D := (kvs.find? fun kv => decide (kv.1 = k)).map (·.2)
def putD (kvs : List (L2.Key × D)) (k : L2.Key) (v : D) : List (L2.Key × D) :=
  if kvs.any fun kv => decide (kv.1 = k) then kvs.map fun kv => if kv.1 = k then (kv.1, v) else kv else kvs ++ [(k, v)]

/-- the constant dicts of the module -/
structure Cst where
  gds : List (Str × List (L2.Key × D))

def binD (op : Bop) (a b : D) (S : Sto) : Option (D × Sto) :=
  match op, a, b with
  | .add, .int i, .int j => some (.int (i + j), S)
  | .sub, .int i, .int j => some (.int (i - j), S)
  | .mul, .int i, .int j => if (-(18446744073709551616) < i && i < 18446744073709551616) || (-(18446744073709551616) < j && j < 18446744073709551616) then some (.int (i * j), S) else none
  | .fdiv, .int i, .int j => if 0 < j && j < 1073741824 then some (.int (i / j), S) else none
  | .mod, .int i, .int j => if 0 < j then some (.int (i % j), S) else none
  | .pow, .int i, .int j => if 0 ≤ j && j ≤ 1000000 && i.natAbs < 18446744073709551616 then some (.int (i ^ j.toNat), S) else none
  | .add, .str x, .str y => if x.length + y.length ≤ cap then some (.str (x ++ y), S) else none
  | .add, .tup xs, .tup ys => if xs.length + ys.length ≤ cap then some (.tup (xs ++ ys), S) else none
  | .add, .loc .lst n, .loc .lst m => match S[n]?, S[m]? with
    | some (.lst xs), some (.lst ys) => if xs.length + ys.length ≤ cap then some (.loc .lst S.length, S ++ [.lst (xs ++ ys)]) else none
    | _, _ => none
  | .mul, .tup xs, .int k => if !xs.isEmpty && 2 ≤ k && k ≤ 1000 && xs.length ≤ 1000 then some (.tup (List.replicate k.toNat xs).flatten, S) else none
  | .mul, .loc .lst n, .int k => match S[n]? with
    | some (.lst xs) => if -(9223372036854775808) ≤ k && k < 9223372036854775808 && xs.length * k.toNat ≤ cap then some (.loc .lst S.length, S ++ [.lst (List.replicate k.toNat xs).flatten]) else none
    | _ => none
  | .mul, .str x, .int k => if -(9223372036854775808) ≤ k && k < 9223372036854775808 && x.length * k.toNat ≤ cap then some (.str (Txt.mul x k), S) else none
  | _, _, _ => none

def strIn (x y : Str) : Bool := match x.cps.toList with
  | [c] => decide (c ∈ y.cps.toList)
  | _ => !(Builtin.Str.occurrences y x 0 y.length 1).isEmpty

def cmpD (g : Cst) (op : Cop) (a b : D) (S : Sto) : Option Bool :=
  match op with
  | .eq => eqD S a b
  | .ne => neD S a b
  | .lt => match a, b with
    | .int i, .int j => some (decide (i < j))
    | _, _ => none
  | .le => match a, b with
    | .int i, .int j => some (decide (i ≤ j))
    | _, _ => none
  | .gt => match a, b with
    | .int i, .int j => some (decide (j < i))
    | _, _ => none
  | .ge => match a, b with
    | .int i, .int j => some (decide (j ≤ i))
    | _, _ => none
  | .in_ => memD g a b S
  | .notIn => (memD g a b S).map Bool.not
where memD (g : Cst) (a b : D) (S : Sto) : Option Bool := match a, b with
    | .str x, .str y => some (strIn x y)
    | .str x, .gd n => match g.gds.lookup n with
      | some kvs => some (valD kvs (.inr x)).isSome
      | none => none
    | a, .loc .dct n => match S[n]?, toKey a with
      | some (.dct kvs), some k => some (valD kvs k).isSome
      | _, _ => none
    | a, b => match seqOf S b with
      | some xs => inD S a xs
      | none => none

def isD (a b : D) : Option Bool := match b with
  | .non => some (match a with | .non => true | _ => false)
  | .bl k => match a with
    | .bl j => some (decide (j = k))
    | _ => none
  | _ => none

def ixD (g : Cst) (a i : D) (S : Sto) : Option D := match a, i with
  | .str x, .int j => (L2.atI x.cps.toList j).map fun c => .str ⟨#[c]⟩
  | .gd n, .str x => match g.gds.lookup n with
    | some kvs => valD kvs (.inr x)
    | none => none
  | .loc .dct n, i => match S[n]?, toKey i with
    | some (.dct kvs), some k => valD kvs k
    | _, _ => none
  | a, .int j => match seqOf S a with
    | some xs => L2.atI xs j
    | none => none
  | _, _ => none

def cutD {α : Type} (xs : List α) (lo hi : Option Int) : List α := (xs.drop (HT.sIx xs.length 0 lo)).take (HT.sIx xs.length xs.length hi - HT.sIx xs.length 0 lo)
def slD (a : D) (lo hi : Option Int) (S : Sto) : Option (D × Sto) := match a with
  | .tup xs => some (.tup (cutD xs lo hi), S)
  | .str x => some (.str ⟨(cutD x.cps.toList lo hi).toArray⟩, S)
  | a => match lstOf S a with
    | some xs => some (.loc .lst S.length, S ++ [.lst (cutD xs lo hi)])
    | none => none
def revD (a : D) (S : Sto) : Option (D × Sto) := match a with
  | .tup xs => some (.tup xs.reverse, S)
  | a => match lstOf S a with
    | some xs => some (.loc .lst S.length, S ++ [.lst xs.reverse])
    | none => none

def blsOf : List D → Option (List Bool)
  | [] => some []
  | .bl b :: xs => (blsOf xs).map (b :: ·)
  | _ :: _ => none

/-- plain data without lists -/
def pdT : Nat → D → Option PyData
  | _, .non => some .none
  | _, .bl b => some (.bool b)
  | _, .int i => some (.int i)
  | _, .str s => some (.str s)
  | k + 1, .tup xs => (mapO (pdT k) xs).map .tuple
  | _, _ => none
def keyPd : L2.Key → PyData
  | .inl i => .int i
  | .inr s => .str s
def kvPd (kv : L2.Key × D) : Option (PyData × PyData) := (pdT 50 kv.2).map fun p => (keyPd kv.1, p)
mutual
/-- no less than the length of what repr tells -/
def wtP : PyData → Nat
  | .none => 4
  | .bool _ => 5
  | .int i => (Str.ofString (toString i)).length
  | .str x => (reprText x).length
  | .list xs => wtAll xs + 3
  | .tuple xs => wtAll xs + 3
  | .dict kvs => wtKv kvs + 3
def wtAll : List PyData → Nat
  | [] => 0
  | x :: xs => wtP x + 2 + wtAll xs
def wtKv : List (PyData × PyData) → Nat
  | [] => 0
  | (k, v) :: r => wtP k + 2 + wtP v + 2 + wtKv r
end
mutual
def okP : PyData → Bool
  | .none | .bool _ | .int _ => true
  | .str x => PyData.strOk (reprText x)
  | .list xs => okAll xs
  | .tuple xs => okAll xs
  | .dict kvs => okKv kvs
def okAll : List PyData → Bool
  | [] => true
  | x :: xs => okP x && okAll xs
def okKv : List (PyData × PyData) → Bool
  | [] => true
  | (k, v) :: r => okP k && okP v && okKv r
end
/-- what repr is told of -/
def reprD (S : Sto) : D → Option PyData
  | .loc .dct n => match S[n]? with
    | some (.dct kvs) => (mapO kvPd kvs).map .dict
    | _ => none
  | .loc .lst n => pd S 60 (.loc .lst n)
  | .tup xs => pd S 60 (.tup xs)
  | _ => none
def reprP (p : PyData) : Option D := if p.showable && okP p && decide (wtP p ≤ cap) then some (.str p.shown) else none

def biD (b : Bi) (xs : List D) (S : Sto) : Option (D × Sto) := match b, xs with
  | .len, [.str x] => some (.int x.length, S)
  | .len, [.loc .dct n] => match S[n]? with
    | some (.dct kvs) => some (.int kvs.length, S)
    | _ => none
  | .len, [x] => (seqOf S x).map fun xs => (.int xs.length, S)
  | .list, [x] => (seqOf S x).map fun xs => (.loc .lst S.length, S ++ [.lst xs])
  | .tuple, [x] => (seqOf S x).map fun xs => (.tup xs, S)
  | .all, [x] => ((lstOf S x).bind blsOf).map fun bs => (.bl (bs.all id), S)
  | .any, [x] => ((lstOf S x).bind blsOf).map fun bs => (.bl (bs.any id), S)
  | .abs, [.int i] => some (.int (if i < 0 then -i else i), S)
  | .max, [.int i, .int j] => some (.int (if j > i then j else i), S)
  | .min, [.int i, .int j] => some (.int (if j < i then j else i), S)
  | .repr, [x] => ((reprD S x).bind reprP).map fun d => (d, S)
  | _, _ => none

def meD (m : Me) (x : D) (xs : List D) (S : Sto) : Option (D × Sto) := match x with
  | .loc .lst n => match S[n]? with
    | some (.lst ys) => match m, xs with
      | .append, [y] => if ys.length < cap then some (.non, S.set n (.lst (ys ++ [y]))) else none
      | .reverse, [] => some (.non, S.set n (.lst ys.reverse))
      | .extend, [.loc .lst k] => match S[k]? with
        | some (.lst zs) => if ys.length + zs.length ≤ cap then some (.non, S.set n (.lst (ys ++ zs))) else none
        | _ => none
      | .pop, [] => match ys[ys.length - 1]? with
        | some y => some (y, S.set n (.lst ys.dropLast))
        | none => none
      | _, _ => none
    | _ => none
  | _ => none

def setD (o i v : D) (S : Sto) : Option Sto := match o, i with
  | .loc .lst n, .int j => match S[n]? with
    | some (.lst xs) => match L2.ixN xs.length j with
      | some k => some (S.set n (.lst (xs.set k v)))
      | none => none
    | _ => none
  | .loc .dct n, i => match S[n]?, toKey i with
    | some (.dct kvs), some k => if kvs.length < cap then some (S.set n (.dct (putD kvs k v))) else none
    | _, _ => none
  | _, _ => none

/-- targets -/
inductive T where
  | nm (i : Nat)
  | tup (ts : List T)

inductive E where
  | var (i : Nat)
  | cst (d : D)
  | tup (es : List E)
  | lst (es : List E)
  | dct (ks : List L2.Key) (es : List E)
  | bin (op : Bop) (a b : E)
  | neg (a : E)
  | cmp (op : Cop) (a b : E)
  | chain (op op' : Cop) (a b c : E)
  | is_ (neg : Bool) (a b : E)
  | and_ (a b : E)
  | or_ (a b : E)
  | not_ (a : E)
  | ife (c a b : E)
  | call (f : Str) (es : List E)
  | bi (b : Bi) (es : List E)
  | isi (a : E) (cs : List String)
  | meth (m : Me) (o : E) (es : List E)
  | ix (a i : E)
  | sl (a : E) (lo hi : Option E)
  | rev (a : E)
  | rng (es : List E)
  | lc (elt : E) (t : T) (it : E) (ifs : List E) (own : List Nat)

/-- a def by its name, its arguments and the store: what it hands back -/
abbrev FT := Str → List D → Sto → Option (D × Sto)

/-- what a loop walks -/
inductive Wk where
  | fix (xs : List D)
  | lst (n : Nat) (xs : List D)

def wkOf (S : Sto) : D → Option Wk
  | .tup xs => some (.fix xs)
  | .scr ns => some (.fix (ns.map D.int))
  | .str x => some (.fix (x.cps.toList.map fun c => .str ⟨#[c]⟩))
  | .loc .lst n => match S[n]? with
    | some (.lst xs) => some (.lst n xs)
    | _ => none
  | _ => none
def Wk.items : Wk → List D
  | .fix xs => xs
  | .lst _ xs => xs
/-- the walked list stands as it stood -/
def Wk.ok (w : Wk) (S : Sto) : Bool := match w with
  | .fix _ => true
  | .lst n xs => match S[n]? with
    | some o => Ob.beq o (.lst xs)
    | none => false

def rngItems (lo hi : Int) : List D := (List.range (hi - lo).toNat).map fun i => .int (lo + (i : Nat))

mutual
def asg : T → D → Env → Sto → Option Env
  | .nm i, d, env, _ => some (env.set i (some d))
  | .tup ts, .tup ds, env, S => asgAll ts ds env S
  | _, _, _, _ => none
def asgAll : List T → List D → Env → Sto → Option Env
  | [], [], env, _ => some env
  | t :: ts, d :: ds, env, S => match asg t d env S with
    | some env' => asgAll ts ds env' S
    | none => none
  | _, _, _, _ => none
end
mutual
def T.slots : T → List Nat
  | .nm i => [i]
  | .tup ts => T.slotsAll ts
def T.slotsAll : List T → List Nat
  | [] => []
  | t :: ts => T.slots t ++ T.slotsAll ts
end
def wipeD (env : Env) : List Nat → Env
  | [] => env
  | v :: vs => (wipeD env vs).set v none

section
variable (g : Cst) (F : FT)
/-- the loop of a comprehension: the items of what is left, the things made so far -/
def lcLoop (elt : Env → Sto → Option (D × Sto)) (ifs : Env → Sto → Option (Bool × Sto)) (t : T) (env0 : Env) (w : Wk) : List D → List D → Sto → Option (List D × Sto)
  | [], acc, S => if w.ok S then some (acc, S) else none
  | x :: xs, acc, S => if w.ok S then
      match asg t x env0 S with
      | some env => match ifs env S with
        | some (true, S1) => match elt env S1 with
          | some (y, S2) => if acc.length < cap then lcLoop elt ifs t env0 w xs (acc ++ [y]) S2 else none
          | none => none
        | some (false, S1) => lcLoop elt ifs t env0 w xs acc S1
        | none => none
      | none => none
    else none

mutual
def evE : E → Env → Sto → Option (D × Sto)
  | .var i, env, S => match env[i]? with
    | some (some d) => some (d, S)
    | _ => none
  | .cst d, _, S => some (d, S)
  | .tup es, env, S => match evEs es env S with
    | some (ds, S1) => if ds.length ≤ cap then some (.tup ds, S1) else none
    | none => none
  | .lst es, env, S => match evEs es env S with
    | some (ds, S1) => if ds.length ≤ cap then some (.loc .lst S1.length, S1 ++ [.lst ds]) else none
    | none => none
  | .dct ks es, env, S => match evEs es env S with
    | some (ds, S1) => if ds.length ≤ 15 && ks.length == ds.length then some (.loc .dct S1.length, S1 ++ [.dct ((ks.zip ds).foldl (fun acc kv => putD acc kv.1 kv.2) [])]) else none
    | none => none
  | .bin op a b, env, S => match evE a env S with
    | some (x, S1) => match evE b env S1 with
      | some (y, S2) => (binD op x y S2).map (gc S)
      | none => none
    | none => none
  | .neg a, env, S => match evE a env S with
    | some (.int i, S1) => some (.int (-i), S1)
    | _ => none
  | .cmp op a b, env, S => match evE a env S with
    | some (x, S1) => match evE b env S1 with
      | some (y, S2) => (cmpD g op x y S2).map fun k => gc S (.bl k, S2)
      | none => none
    | none => none
  | .chain op op' a b c, env, S => match evE a env S with
    | some (x, S1) => match evE b env S1 with
      | some (y, S2) => match cmpD g op x y S2 with
        | some true => match evE c env S2 with
          | some (z, S3) => (cmpD g op' y z S3).map fun k => (.bl k, S3)
          | none => none
        | some false => some (.bl false, S2)
        | none => none
      | none => none
    | none => none
  | .is_ neg a b, env, S => match evE a env S with
    | some (x, S1) => match evE b env S1 with
      | some (y, S2) => (isD x y).map fun k => (.bl (if neg then !k else k), S2)
      | none => none
    | none => none
  | .and_ a b, env, S => match evE a env S with
    | some (.bl true, S1) => evE b env S1
    | some (.bl false, S1) => some (.bl false, S1)
    | _ => none
  | .or_ a b, env, S => match evE a env S with
    | some (.bl false, S1) => evE b env S1
    | some (.bl true, S1) => some (.bl true, S1)
    | _ => none
  | .not_ a, env, S => match evE a env S with
    | some (.bl k, S1) => some (.bl (!k), S1)
    | _ => none
  | .ife c a b, env, S => match evT c env S with
    | some (true, S1) => evE a env S1
    | some (false, S1) => evE b env S1
    | none => none
  | .call f es, env, S => match evEs es env S with
    | some (ds, S1) => (F f ds S1).map (gc S)
    | none => none
  | .bi b es, env, S => match evEs es env S with
    | some (ds, S1) => (biD b ds S1).map (gc S)
    | none => none
  | .isi a cs, env, S => match evE a env S with
    | some (x, S1) => match tyOf x with
      | some t => match cs.foldr (fun c r => match L2.kitB t c, r with | some k, some j => some (k || j) | _, _ => none) (some false) with
        | some k => some (.bl k, S1)
        | none => none
      | none => none
    | none => none
  | .meth m o es, env, S => match evE o env S with
    | some (x, S1) => match evEs es env S1 with
      | some (ds, S2) => (meD m x ds S2).map (gc S)
      | none => none
    | none => none
  | .ix a i, env, S => match evE a env S with
    | some (x, S1) => match evE i env S1 with
      | some (y, S2) => (ixD g x y S2).map fun d => gc S (d, S2)
      | none => none
    | none => none
  | .sl a lo hi, env, S => match evE a env S with
    | some (x, S1) => match evO lo env S1 with
      | some (l, S2) => match evO hi env S2 with
        | some (h, S3) => (slD x l h S3).map (gc S)
        | none => none
      | none => none
    | none => none
  | .rev a, env, S => match evE a env S with
    | some (x, S1) => (revD x S1).map (gc S)
    | none => none
  | .rng _, _, _ => none
  | .lc elt t it ifs own, env, S => match evW it env S with
    | some (w, S1) => match lcLoop (evE elt) (evIfs ifs) t (wipeD env own) w w.items [] S1 with
      | some (ds, S2) => some (gc S (.loc .lst S2.length, S2 ++ [.lst ds]))
      | none => none
    | none => none
def evEs : List E → Env → Sto → Option (List D × Sto)
  | [], _, S => some ([], S)
  | e :: es, env, S => match evE e env S with
    | some (d, S1) => match evEs es env S1 with
      | some (ds, S2) => some (d :: ds, S2)
      | none => none
    | none => none
def evO : Option E → Env → Sto → Option (Option Int × Sto)
  | none, _, S => some (none, S)
  | some e, env, S => match evE e env S with
    | some (.int i, S1) => some (some i, S1)
    | _ => none
/-- a test -/
def evT : E → Env → Sto → Option (Bool × Sto)
  | .and_ a b, env, S => match evT a env S with
    | some (true, S1) => evT b env S1
    | some (false, S1) => some (false, S1)
    | none => none
  | .or_ a b, env, S => match evT a env S with
    | some (false, S1) => evT b env S1
    | some (true, S1) => some (true, S1)
    | none => none
  | .not_ a, env, S => match evT a env S with
    | some (k, S1) => some (!k, S1)
    | none => none
  | .ife c a b, env, S => match evT c env S with
    | some (true, S1) => evT a env S1
    | some (false, S1) => evT b env S1
    | none => none
  | e, env, S => match evE e env S with
    | some (d, S1) => match truth S1 d with
      | some k => some (k, S1)
      | none => none
    | none => none
def evIfs : List E → Env → Sto → Option (Bool × Sto)
  | [], _, S => some (true, S)
  | [e], env, S => evT e env S
  | _, _, _ => none
/-- what is walked -/
def evW : E → Env → Sto → Option (Wk × Sto)
  | .rng es, env, S => match evEs es env S with
    | some ([.int j], S1) => if -(4611686018427387904) ≤ j && j < 4611686018427387904 then some (.fix (rngItems 0 j), S1) else none
    | some ([.int i, .int j], S1) => if -(4611686018427387904) ≤ i && i < 4611686018427387904 && -(4611686018427387904) ≤ j && j < 4611686018427387904 then some (.fix (rngItems i j), S1) else none
    | _ => none
  | e, env, S => match evE e env S with
    | some (d, S1) => match wkOf S1 d with
      | some w => some (w, S1)
      | none => none
    | none => none
end
end

/-- statements -/
inductive C where
  | exp (e : E)
  | asg (t : T) (e : E)
  | par (is : List Nat) (es : List E)
  | sto (o i e : E)
  | ret (e : E)
  | retN
  | ife (c : E) (a b : List C)
  | for_ (t : T) (it : E) (body : List C)
  | while_ (c : E) (body : List C)
  | brk | cnt | pass

inductive Fl where
  | nx | bk | ct | rt (d : D)

section
variable (g : Cst) (F : FT) (fuel : Nat)
def forLoop (body : Env → Sto → Option (Fl × Env × Sto)) (t : T) (w : Wk) : List D → Env → Sto → Option (Fl × Env × Sto)
  | [], env, S => if w.ok S then some (.nx, env, S) else none
  | x :: xs, env, S => if w.ok S then
      match asg t x env S with
      | some env1 => match body env1 S with
        | some (.nx, env2, S2) => forLoop body t w xs env2 S2
        | some (.ct, env2, S2) => forLoop body t w xs env2 S2
        | some (.bk, env2, S2) => some (.nx, env2, S2)
        | some (.rt d, env2, S2) => some (.rt d, env2, S2)
        | none => none
      | none => none
    else none
def whileLoop (c : Env → Sto → Option (Bool × Sto)) (body : Env → Sto → Option (Fl × Env × Sto)) : Nat → Env → Sto → Option (Fl × Env × Sto)
  | 0, _, _ => none
  | n + 1, env, S => match c env S with
    | some (true, S1) => match body env S1 with
      | some (.nx, env2, S2) => whileLoop c body n env2 S2
      | some (.ct, env2, S2) => whileLoop c body n env2 S2
      | some (.bk, env2, S2) => some (.nx, env2, S2)
      | some (.rt d, env2, S2) => some (.rt d, env2, S2)
      | none => none
    | some (false, S1) => some (.nx, env, S1)
    | none => none
def setAll : List Nat → List D → Env → Option Env
  | [], [], env => some env
  | i :: is, d :: ds, env => setAll is ds (env.set i (some d))
  | _, _, _ => none
mutual
def evC : C → Env → Sto → Option (Fl × Env × Sto)
  | .exp e, env, S => match evE g F e env S with
    | some (_, S1) => some (.nx, env, S1)
    | none => none
  | .asg t e, env, S => match evE g F e env S with
    | some (d, S1) => match asg t d env S1 with
      | some env1 => some (.nx, env1, S1)
      | none => none
    | none => none
  | .par is es, env, S => match evEs g F es env S with
    | some (ds, S1) => match setAll is ds env with
      | some env1 => some (.nx, env1, S1)
      | none => none
    | none => none
  | .sto o i e, env, S => match evE g F e env S with
    | some (v, S1) => match evE g F o env S1 with
      | some (x, S2) => match evE g F i env S2 with
        | some (y, S3) => match setD x y v S3 with
          | some S4 => some (.nx, env, S4)
          | none => none
        | none => none
      | none => none
    | none => none
  | .ret e, env, S => match evE g F e env S with
    | some (d, S1) => some (.rt d, env, S1)
    | none => none
  | .retN, env, S => some (.rt .non, env, S)
  | .ife c a b, env, S => match evT g F c env S with
    | some (true, S1) => evCs a env S1
    | some (false, S1) => evCs b env S1
    | none => none
  | .for_ t it body, env, S => match evW g F it env S with
    | some (w, S1) => forLoop (evCs body) t w w.items env S1
    | none => none
  | .while_ c body, env, S => whileLoop (evT g F c) (evCs body) fuel env S
  | .brk, env, S => some (.bk, env, S)
  | .cnt, env, S => some (.ct, env, S)
  | .pass, env, S => some (.nx, env, S)
def evCs : List C → Env → Sto → Option (Fl × Env × Sto)
  | [], env, S => some (.nx, env, S)
  | c :: cs, env, S => match evC c env S with
    | some (.nx, env1, S1) => evCs cs env1 S1
    | r => r
end
end

/-- a def of the text -/
structure Fn where
  nm : Str
  ps : List Str
  N : List Str
  body : List C

def callFn (g : Cst) (fuel : Nat) (F : FT) (f : Fn) (ds : List D) (S : Sto) : Option (D × Sto) :=
  if ds.length = f.ps.length then
    match evCs g F fuel f.body (ds.map some ++ List.replicate (f.N.length - ds.length) none) S with
    | some (.rt d, _, S1) => some (gc S (d, S1))
    | some (.nx, _, S1) => some (gc S (.non, S1))
    | _ => none
  else none
/-- the defs to a depth -/
def callN (g : Cst) (fs : List Fn) (fuel : Nat) : Nat → FT
  | 0 => fun _ _ _ => none
  | k + 1 => fun x ds S => match fs.find? fun f => decide (f.nm = x) with
    | some f => callFn g fuel (callN g fs fuel k) f ds S
    | none => none

/-! ### from the text to this -/
/-- what the module holds -/
structure Tb where
  fns : List Str
  cst : List (Str × D)
  gds : List Str

def ixOf (x : Str) : List Str → Nat → Option Nat
  | [], _ => none
  | y :: ys, n => if y = x then some n else ixOf x ys (n + 1)
def allO {α : Type} : List (Option α) → Option (List α)
  | [] => some []
  | some x :: xs => (allO xs).map (x :: ·)
  | none :: _ => none
def seen (sc : Scope) (x : Str) : Bool := match sc.names.lookup x with
  | some .local => true
  | some .cell => true
  | some .free => true
  | _ => false
def owned (sc : Scope) (x : Str) : Bool := match sc.names.lookup x with
  | some .local => true
  | some .cell => true
  | _ => false
def glob (sc : Scope) (x : Str) : Bool := match sc.names.lookup x with
  | some .globalImplicit => true
  | _ => false
def plainN (x : Str) : Bool := !(x == ("__debug__" : Str)) && !(x == ("__classdict__" : Str)) && !(x == ("__name__" : Str))
def notStar : Expr → Bool
  | .Starred _ _ => false
  | _ => true
def notSlice : Expr → Bool
  | .Slice _ _ _ _ => false
  | _ => true
def notComp : Expr → Bool
  | .ListComp _ _ _ _ => false
  | .SetComp _ _ _ _ => false
  | .DictComp _ _ _ _ _ => false
  | _ => true
/-- what may stand ahead of a dot -/
def notCall0 : Expr → Bool
  | .Call _ [] _ _ => false
  | _ => true
def keyC : Option Expr → Option L2.Key
  | some (.Constant (.str s) _ _) => some (.inr s)
  | some (.Constant (.int i) _ _) => some (.inl i)
  | _ => none
def bopC : Operator → Option Bop
  | .Add => some .add
  | .Sub => some .sub
  | .Mult => some .mul
  | .FloorDiv => some .fdiv
  | .Mod => some .mod
  | .Pow => some .pow
  | _ => none
def copC : CmpOp → Option Cop
  | .Eq => some .eq
  | .NotEq => some .ne
  | .Lt => some .lt
  | .LtE => some .le
  | .Gt => some .gt
  | .GtE => some .ge
  | .In => some .in_
  | .NotIn => some .notIn
  | _ => none
def biC (x : Str) (n : Nat) : Option Bi :=
  if x = "len" ∧ n = 1 then some .len
  else if x = "list" ∧ n = 1 then some .list
  else if x = "tuple" ∧ n = 1 then some .tuple
  else if x = "all" ∧ n = 1 then some .all
  else if x = "any" ∧ n = 1 then some .any
  else if x = "abs" ∧ n = 1 then some .abs
  else if x = "max" ∧ n = 2 then some .max
  else if x = "min" ∧ n = 2 then some .min
  else if x = "repr" ∧ n = 1 then some .repr
  else none
def meC (x : Str) (n : Nat) : Option Me :=
  if x = "append" ∧ n = 1 then some .append
  else if x = "reverse" ∧ n = 0 then some .reverse
  else if x = "extend" ∧ n = 1 then some .extend
  else if x = "pop" ∧ n = 0 then some .pop
  else none
def tyC (sc : Scope) : Expr → Option String
  | .Name x _ => if glob sc x && plainN x then
      (if x = "int" then some "int" else if x = "str" then some "str" else if x = "bool" then some "bool"
       else if x = "tuple" then some "tuple" else if x = "list" then some "list" else if x = "dict" then some "dict" else none) else none
  | _ => none
def ownOf (N : List Str) : List (Str × NameKind) → List (Str × Nat)
  | [] => []
  | (x, k) :: r => match k, ixOf x N 0 with
    | .local, some i => (x, i) :: ownOf N r
    | .cell, some i => (x, i) :: ownOf N r
    | _, _ => ownOf N r

def cOp (f : Expr → Option E) : Option Expr → Option (Option E)
  | none => some none
  | some e => (f e).map some
section
variable (tb : Tb) (N : List Str)
def cT : Nat → Scope → Expr → Option T
  | 0, _, _ => none
  | n + 1, sc, e => match e with
    | .Name x _ => if owned sc x then (ixOf x N 0).map .nm else none
    | .Tuple es _ _ => if es.all notStar then (allO (es.map (cT n sc))).map .tup else none
    | _ => none
def cE : Nat → Scope → Expr → Option E
  | 0, _, _ => none
  | n + 1, sc, e => match e with
    | .Constant (.int i) _ _ => some (.cst (.int i))
    | .Constant (.str s) _ _ => if strGood s then some (.cst (.str s)) else none
    | .Constant (.bool b) _ _ => some (.cst (.bl b))
    | .Constant .none _ _ => some (.cst .non)
    | .Name x _ => if !plainN x then none
      else if seen sc x then (ixOf x N 0).map .var
      else if glob sc x then (match tb.cst.lookup x with
        | some d => some (.cst d)
        | none => if x ∈ tb.gds then some (.cst (.gd x)) else none)
      else none
    | .Tuple es _ _ => if es.all notStar then (allO (es.map (cE n sc))).map .tup else none
    | .List es _ => if es.all notStar then (allO (es.map (cE n sc))).map .lst else none
    | .Dict ks vs _ => match allO (ks.map keyC), allO (vs.map (cE n sc)) with
      | some ks', some vs' => if ks.length = vs.length then some (.dct ks' vs') else none
      | _, _ => none
    | .BinOp a op b _ => match bopC op, cE n sc a, cE n sc b with
      | some o, some x, some y => some (.bin o x y)
      | _, _, _ => none
    | .UnaryOp .USub a _ => (cE n sc a).map .neg
    | .UnaryOp .Not a _ => (cE n sc a).map .not_
    | .BoolOp _ [a] _ => cE n sc a
    | .BoolOp .And (a :: b :: r) pos => match cE n sc a, cE n sc (.BoolOp .And (b :: r) pos) with
      | some x, some y => some (.and_ x y)
      | _, _ => none
    | .BoolOp .Or (a :: b :: r) pos => match cE n sc a, cE n sc (.BoolOp .Or (b :: r) pos) with
      | some x, some y => some (.or_ x y)
      | _, _ => none
    | .IfExp c a b _ => match cE n sc c, cE n sc a, cE n sc b with
      | some z, some x, some y => some (.ife z x y)
      | _, _, _ => none
    | .Compare a [.Is] [b] _ => match cE n sc a, cE n sc b with
      | some x, some y => some (.is_ false x y)
      | _, _ => none
    | .Compare a [.IsNot] [b] _ => match cE n sc a, cE n sc b with
      | some x, some y => some (.is_ true x y)
      | _, _ => none
    | .Compare a [op] [b] _ => if behindInMarks op b then none else match copC op, cE n sc a, cE n sc b with
      | some o, some x, some y => some (.cmp o x y)
      | _, _, _ => none
    | .Compare a [op, op'] [b, c] _ => if lastMarks [op, op'] [b, c] then none else match copC op, copC op', cE n sc a, cE n sc b, cE n sc c with
      | some o, some o', some x, some y, some z => some (.chain o o' x y z)
      | _, _, _, _, _ => none
    | .Call (.Name f _) args [] _ =>
      if !(plainN f && glob sc f && args.all notStar) then none
      else if f ∈ tb.fns then (allO (args.map (cE n sc))).map (.call f)
      else if f = "isinstance" then (match args with
        | [a, c] => match cE n sc a, tyC sc c with
          | some x, some t => some (.isi x [t])
          | _, _ => none
        | _ => none)
      else if f = "range" then (allO (args.map (cE n sc))).map .rng
      else match biC f args.length with
        | some b => (allO (args.map (cE n sc))).map (.bi b)
        | none => none
    | .Call (.Attribute o m apos) args [] cpos =>
      if args.all notStar && notCall0 o && apos.endLine == cpos.line then match meC m args.length, cE n sc o, allO (args.map (cE n sc)) with
        | some k, some x, some ys => some (.meth k x ys)
        | _, _, _ => none
      else none
    | .Subscript a (.Slice none none (some (.UnaryOp .USub (.Constant (.int 1) _ _) _)) _) _ => (cE n sc a).map .rev
    | .Subscript a (.Slice lo hi none _) _ => match cE n sc a, cOp (cE n sc) lo, cOp (cE n sc) hi with
      | some x, some l, some h => some (.sl x l h)
      | _, _, _ => none
    | .Subscript a i _ => if notSlice i then match cE n sc a, cE n sc i with
        | some x, some y => some (.ix x y)
        | _, _ => none
      else none
    | .ListComp elt [⟨tg, it, ifs, 0⟩] scope _ =>
      if L2.blkC N sc scope (ownOf N scope.names) then
        match cE n (L2.relS scope sc) elt, cT N n scope tg, cE n sc it, allO (ifs.map (cE n (L2.relS scope sc))) with
        | some x, some t, some i, some js => if js.length ≤ 1 && (T.slots t).all (fun i => decide (i ∈ (ownOf N scope.names).map (·.2))) then some (.lc x t i js ((ownOf N scope.names).map (·.2))) else none
        | _, _, _, _ => none
      else none
    | _ => none
def cS : Nat → Scope → Stmt → Option C
  | 0, _, _ => none
  | n + 1, sc, st => match st with
    | .Expr e _ => if notComp e then (cE tb N n sc e).map .exp else none
    | .Assign [.Tuple ts k p] (.Tuple es k2 p2) _ => none
    | .Assign [.Name x p] (.ListComp elt [⟨tg, it, ifs, 0⟩] scope pos) spos =>
      if sc.names.lookup x = some .local && p.line == pos.line && !(scope.names.any fun y => y.1 == x && (y.2 == .local || y.2 == .cell)) then
        match ixOf x N 0, cE tb N n sc (.ListComp elt [⟨tg, it, ifs, 0⟩] scope pos) with
        | some i, some e => some (.asg (.nm i) e)
        | _, _ => none
      else none
    | .Assign [.Name x p] e _ => if notComp e then match cT N n sc (.Name x p), cE tb N n sc e with
        | some t, some e => some (.asg t e)
        | _, _ => none
      else none
    | .Assign [.Tuple ts k p] e _ => if notComp e then match cT N n sc (.Tuple ts k p), cE tb N n sc e with
        | some t, some e => some (.asg t e)
        | _, _ => none
      else none
    | .Assign [.Subscript o i _] e _ => if notComp e && notSlice i then match cE tb N n sc o, cE tb N n sc i, cE tb N n sc e with
        | some x, some y, some z => some (.sto x y z)
        | _, _, _ => none
      else none
    | .Return (some e) _ => (cE tb N n sc e).map .ret
    | .Return none _ => some .retN
    | .If c a b _ => match cE tb N n sc c, allO (a.map (cS n sc)), allO (b.map (cS n sc)) with
      | some z, some x, some y => some (.ife z x y)
      | _, _, _ => none
    | .For tg it body [] _ => match cT N n sc tg, cE tb N n sc it, allO (body.map (cS n sc)) with
      | some t, some e, some b => some (.for_ t e b)
      | _, _, _ => none
    | .While c body [] _ => match cE tb N n sc c, allO (body.map (cS n sc)) with
      | some z, some b => some (.while_ z b)
      | _, _ => none
    | .Pass _ => some .pass
    | .Break _ => some .brk
    | .Continue _ => some .cnt
    | _ => none
end
def cF (tb : Tb) (nm : Str) (ps N : List Str) (st : Stmt) : Option Fn :=
  (allO ((L2.defBody st).map (cS tb N 40 (L2.defScope st)))).map fun b => ⟨nm, ps, N, b⟩

end CV

set_option Elab.async false
set_option linter.all false
set_option maxRecDepth 100000
set_option maxHeartbeats 8000000
/-! CvX: the evaluator once more, for the kernel (printed by mkx.py). -/
namespace CV
open PySem
abbrev EvE := Env → Sto → Option (D × Sto)
abbrev EvT := Env → Sto → Option (Bool × Sto)
abbrev EvW := Env → Sto → Option (Wk × Sto)
abbrev Ev3 := EvE × EvT × EvW
abbrev EvL := (Env → Sto → Option (List D × Sto)) × EvT
abbrev EvO := Env → Sto → Option (Option Int × Sto)
def tE3 (v : EvE) : EvT := fun env S => match v env S with
  | some (d, S1) => match truth S1 d with
    | some k => some (k, S1)
    | none => none
  | none => none
def wE3 (v : EvE) : EvW := fun env S => match v env S with
  | some (d, S1) => match wkOf S1 d with
    | some w => some (w, S1)
    | none => none
  | none => none
def bAnd (a : Bool) (b : Bool) : Bool := match a with
  | true => b
  | false => false
theorem bAnd_eq (a b : Bool) : bAnd a b = (a && b) := by cases a <;> rfl
noncomputable def underK (n : Nat) : D → Bool := D.rec (motive_1 := fun _ => Bool) (motive_2 := fun _ => Bool) true (fun _ => true) (fun _ => true) (fun _ => true) (fun _ k => k) (fun _ m => Nat.ble (m + 1) n) (fun _ => true) (fun _ => true) true (fun _ _ a b => bAnd a b)
noncomputable def underKs (n : Nat) : List D → Bool := D.rec_1 (motive_1 := fun _ => Bool) (motive_2 := fun _ => Bool) true (fun _ => true) (fun _ => true) (fun _ => true) (fun _ k => k) (fun _ m => Nat.ble (m + 1) n) (fun _ => true) (fun _ => true) true (fun _ _ a b => bAnd a b)
mutual
theorem underK_eq (n : Nat) : ∀ d : D, underK n d = D.under n d
  | .non => rfl
  | .bl _ => rfl
  | .int _ => rfl
  | .str _ => rfl
  | .tup xs => by
    show underKs n xs = D.underAll n xs
    exact underKs_eq n xs
  | .loc _ m => by
    show Nat.ble (m + 1) n = decide (m < n)
    rw [Bool.eq_iff_iff, Nat.ble_eq, decide_eq_true_eq]
    exact Iff.rfl
  | .scr _ => rfl
  | .gd _ => rfl
theorem underKs_eq (n : Nat) : ∀ ds : List D, underKs n ds = D.underAll n ds
  | [] => rfl
  | d :: ds => by
    show bAnd (underK n d) (underKs n ds) = (D.under n d && D.underAll n ds)
    rw [bAnd_eq, underK_eq n d, underKs_eq n ds]
end
noncomputable def obUnderK (n : Nat) : Ob → Bool
  | .lst xs => underKs n xs
  | .dct kvs => kvs.all fun kv => underK n kv.2
theorem obUnderK_eq (n : Nat) (o : Ob) : obUnderK n o = Ob.under n o := by
  cases o with
  | lst xs => exact underKs_eq n xs
  | dct kvs =>
    show (kvs.all fun kv => underK n kv.2) = D.underAll n (kvs.map (·.2))
    induction kvs with
    | nil => rfl
    | cons kv kvs ih =>
      rw [List.all_cons, ih, underK_eq]
      rfl
noncomputable def oldOkK (n : Nat) : Sto → Sto → Bool
  | [], _ => true
  | o :: S, o' :: S1 => bAnd (match obUnderK n o' with
    | true => true
    | false => Ob.beq o o') (oldOkK n S S1)
  | _ :: _, [] => false
theorem oldOkK_eq (n : Nat) : ∀ S S1 : Sto, oldOkK n S S1 = oldOk n S S1
  | [], _ => by simp only [oldOkK, oldOk]
  | o :: S, o' :: S1 => by
    simp only [oldOkK, oldOk, bAnd_eq, obUnderK_eq, oldOkK_eq n S S1]
    cases Ob.under n o' <;> rfl
  | _ :: _, [] => by simp only [oldOkK, oldOk]
noncomputable def gcK (S : Sto) (r : D × Sto) : D × Sto := match noNew S r.2 with
  | true => r
  | false => match oldOkK S.length S r.2 with
    | true => match underK S.length r.1 with
      | true => (r.1, r.2.take S.length)
      | false => match r.1 with
        | .loc k m => match r.2[m]? with
          | some o => match bAnd (obUnderK S.length o) (bAnd (Nat.ble S.length m) (decide (o.kd = k))) with
            | true => (.loc k S.length, r.2.take S.length ++ [o])
            | false => r
          | none => r
        | _ => r
    | false => r
theorem gcK_eq (S : Sto) (r : D × Sto) : gcK S r = gc S r := by
  unfold gcK gc gc0
  cases noNew S r.2 with
  | true => rfl
  | false =>
    rw [oldOkK_eq]
    cases h1 : oldOk S.length S r.2 with
    | false => simp
    | true =>
      rw [underK_eq]
      cases h2 : D.under S.length r.1 with
      | true => simp
      | false =>
        simp only [if_true, Bool.false_eq_true, if_false]
        cases r.1 with
        | loc k m =>
          simp only
          cases r.2[m]? with
          | none => rfl
          | some o =>
            simp only [bAnd_eq, obUnderK_eq]
            have e : (Ob.under S.length o && (Nat.ble S.length m && decide (o.kd = k))) = (Ob.under S.length o && decide (S.length ≤ m) && decide (o.kd = k)) := by
              have : Nat.ble S.length m = decide (S.length ≤ m) := by rw [Bool.eq_iff_iff, Nat.ble_eq, decide_eq_true_eq]
              rw [this, Bool.and_assoc]
            rw [e]
            cases (Ob.under S.length o && decide (S.length ≤ m) && decide (o.kd = k)) <;> simp
        | _ => rfl
theorem gcK_fun (S : Sto) : gcK S = gc S := funext fun r => gcK_eq S r
section
variable (g : Cst) (F : FT)
noncomputable def h_var (i : Nat)  : Ev3 :=
  let v : EvE := fun env S => match env[i]? with
    | some (some d) => some (d, S)
    | _ => none
  (v, tE3 v, wE3 v)
noncomputable def h_cst (d : D)  : Ev3 :=
  let v : EvE := fun _ S => some (d, S)
  (v, tE3 v, wE3 v)
noncomputable def h_tup (es : List E) (kes : EvL) : Ev3 :=
  let v : EvE := fun env S => match kes.1 env S with
    | some (ds, S1) => if ds.length ≤ cap then some (.tup ds, S1) else none
    | none => none
  (v, tE3 v, wE3 v)
noncomputable def h_lst (es : List E) (kes : EvL) : Ev3 :=
  let v : EvE := fun env S => match kes.1 env S with
    | some (ds, S1) => if ds.length ≤ cap then some (.loc .lst S1.length, S1 ++ [.lst ds]) else none
    | none => none
  (v, tE3 v, wE3 v)
noncomputable def h_dct (ks : List L2.Key) (es : List E) (kes : EvL) : Ev3 :=
  let v : EvE := fun env S => match kes.1 env S with
    | some (ds, S1) => if ds.length ≤ 15 && ks.length == ds.length then some (.loc .dct S1.length, S1 ++ [.dct ((ks.zip ds).foldl (fun acc kv => putD acc kv.1 kv.2) [])]) else none
    | none => none
  (v, tE3 v, wE3 v)
noncomputable def h_bin (op : Bop) (a : E) (b : E) (ka : Ev3) (kb : Ev3) : Ev3 :=
  let v : EvE := fun env S => match ka.1 env S with
    | some (x, S1) => match kb.1 env S1 with
      | some (y, S2) => (binD op x y S2).map (gcK S)
      | none => none
    | none => none
  (v, tE3 v, wE3 v)
noncomputable def h_neg (a : E) (ka : Ev3) : Ev3 :=
  let v : EvE := fun env S => match ka.1 env S with
    | some (.int i, S1) => some (.int (-i), S1)
    | _ => none
  (v, tE3 v, wE3 v)
noncomputable def h_cmp (op : Cop) (a : E) (b : E) (ka : Ev3) (kb : Ev3) : Ev3 :=
  let v : EvE := fun env S => match ka.1 env S with
    | some (x, S1) => match kb.1 env S1 with
      | some (y, S2) => (cmpD g op x y S2).map fun k => gcK S (.bl k, S2)
      | none => none
    | none => none
  (v, tE3 v, wE3 v)
noncomputable def h_chain (op : Cop) (op' : Cop) (a : E) (b : E) (c : E) (ka : Ev3) (kb : Ev3) (kc : Ev3) : Ev3 :=
  let v : EvE := fun env S => match ka.1 env S with
    | some (x, S1) => match kb.1 env S1 with
      | some (y, S2) => match cmpD g op x y S2 with
        | some true => match kc.1 env S2 with
          | some (z, S3) => (cmpD g op' y z S3).map fun k => (.bl k, S3)
          | none => none
        | some false => some (.bl false, S2)
        | none => none
      | none => none
    | none => none
  (v, tE3 v, wE3 v)
noncomputable def h_is_ (neg : Bool) (a : E) (b : E) (ka : Ev3) (kb : Ev3) : Ev3 :=
  let v : EvE := fun env S => match ka.1 env S with
    | some (x, S1) => match kb.1 env S1 with
      | some (y, S2) => (isD x y).map fun k => (.bl (if neg then !k else k), S2)
      | none => none
    | none => none
  (v, tE3 v, wE3 v)
noncomputable def h_and_ (a : E) (b : E) (ka : Ev3) (kb : Ev3) : Ev3 :=
  let v : EvE := fun env S => match ka.1 env S with
    | some (.bl true, S1) => kb.1 env S1
    | some (.bl false, S1) => some (.bl false, S1)
    | _ => none
  (v, fun env S => match ka.2.1 env S with
      | some (true, S1) => kb.2.1 env S1
      | some (false, S1) => some (false, S1)
      | none => none, wE3 v)
noncomputable def h_or_ (a : E) (b : E) (ka : Ev3) (kb : Ev3) : Ev3 :=
  let v : EvE := fun env S => match ka.1 env S with
    | some (.bl false, S1) => kb.1 env S1
    | some (.bl true, S1) => some (.bl true, S1)
    | _ => none
  (v, fun env S => match ka.2.1 env S with
      | some (false, S1) => kb.2.1 env S1
      | some (true, S1) => some (true, S1)
      | none => none, wE3 v)
noncomputable def h_not_ (a : E) (ka : Ev3) : Ev3 :=
  let v : EvE := fun env S => match ka.1 env S with
    | some (.bl k, S1) => some (.bl (!k), S1)
    | _ => none
  (v, fun env S => match ka.2.1 env S with
      | some (k, S1) => some (!k, S1)
      | none => none, wE3 v)
noncomputable def h_ife (c : E) (a : E) (b : E) (kc : Ev3) (ka : Ev3) (kb : Ev3) : Ev3 :=
  let v : EvE := fun env S => match kc.2.1 env S with
    | some (true, S1) => ka.1 env S1
    | some (false, S1) => kb.1 env S1
    | none => none
  (v, fun env S => match kc.2.1 env S with
      | some (true, S1) => ka.2.1 env S1
      | some (false, S1) => kb.2.1 env S1
      | none => none, wE3 v)
noncomputable def h_call (f : Str) (es : List E) (kes : EvL) : Ev3 :=
  let v : EvE := fun env S => match kes.1 env S with
    | some (ds, S1) => (F f ds S1).map (gcK S)
    | none => none
  (v, tE3 v, wE3 v)
noncomputable def h_bi (b : Bi) (es : List E) (kes : EvL) : Ev3 :=
  let v : EvE := fun env S => match kes.1 env S with
    | some (ds, S1) => (biD b ds S1).map (gcK S)
    | none => none
  (v, tE3 v, wE3 v)
noncomputable def h_isi (a : E) (cs : List String) (ka : Ev3) : Ev3 :=
  let v : EvE := fun env S => match ka.1 env S with
    | some (x, S1) => match tyOf x with
      | some t => match cs.foldr (fun c r => match L2.kitB t c, r with | some k, some j => some (k || j) | _, _ => none) (some false) with
        | some k => some (.bl k, S1)
        | none => none
      | none => none
    | none => none
  (v, tE3 v, wE3 v)
noncomputable def h_meth (m : Me) (o : E) (es : List E) (ko : Ev3) (kes : EvL) : Ev3 :=
  let v : EvE := fun env S => match ko.1 env S with
    | some (x, S1) => match kes.1 env S1 with
      | some (ds, S2) => (meD m x ds S2).map (gcK S)
      | none => none
    | none => none
  (v, tE3 v, wE3 v)
noncomputable def h_ix (a : E) (i : E) (ka : Ev3) (ki : Ev3) : Ev3 :=
  let v : EvE := fun env S => match ka.1 env S with
    | some (x, S1) => match ki.1 env S1 with
      | some (y, S2) => (ixD g x y S2).map fun d => gcK S (d, S2)
      | none => none
    | none => none
  (v, tE3 v, wE3 v)
noncomputable def h_sl (a : E) (lo : Option E) (hi : Option E) (ka : Ev3) (klo : EvO) (khi : EvO) : Ev3 :=
  let v : EvE := fun env S => match ka.1 env S with
    | some (x, S1) => match klo env S1 with
      | some (l, S2) => match khi env S2 with
        | some (h, S3) => (slD x l h S3).map (gcK S)
        | none => none
      | none => none
    | none => none
  (v, tE3 v, wE3 v)
noncomputable def h_rev (a : E) (ka : Ev3) : Ev3 :=
  let v : EvE := fun env S => match ka.1 env S with
    | some (x, S1) => (revD x S1).map (gcK S)
    | none => none
  (v, tE3 v, wE3 v)
noncomputable def h_rng (es : List E) (kes : EvL) : Ev3 :=
  let v : EvE := fun _ _ => none
  (v, tE3 v, fun env S => match kes.1 env S with
      | some ([.int j], S1) => if -4611686018427387904 ≤ j && j < 4611686018427387904 then some (.fix (rngItems 0 j), S1) else none
      | some ([.int i, .int j], S1) => if -4611686018427387904 ≤ i && i < 4611686018427387904 && -4611686018427387904 ≤ j && j < 4611686018427387904 then some (.fix (rngItems i j), S1) else none
      | _ => none)
noncomputable def h_lc (elt : E) (t : T) (it : E) (ifs : List E) (own : List Nat) (kelt : Ev3) (kit : Ev3) (kifs : EvL) : Ev3 :=
  let v : EvE := fun env S => match kit.2.2 env S with
    | some (w, S1) => match lcLoop kelt.1 kifs.2 t (wipeD env own) w w.items [] S1 with
      | some (ds, S2) => some (gcK S (.loc .lst S2.length, S2 ++ [.lst ds]))
      | none => none
    | none => none
  (v, tE3 v, wE3 v)
def h_nil : EvL := (fun _ S => some ([], S), fun _ S => some (true, S))
def h_cons (e : E) (es : List E) (ke : Ev3) (kes : EvL) : EvL := (fun env S => match ke.1 env S with
    | some (d, S1) => match kes.1 env S1 with
      | some (ds, S2) => some (d :: ds, S2)
      | none => none
    | none => none, fun env S => match es with
    | [] => ke.2.1 env S
    | _ => none)
def h_none : EvO := fun _ S => some (none, S)
def h_some (e : E) (ke : Ev3) : EvO := fun env S => match ke.1 env S with
    | some (.int i, S1) => some (some i, S1)
    | _ => none
noncomputable def kA : E → Ev3 := fun e => E.rec (motive_1 := fun _ => Ev3) (motive_2 := fun _ => EvL) (motive_3 := fun _ => EvO) (h_var) (h_cst) (h_tup) (h_lst) (h_dct) (h_bin) (h_neg) (h_cmp g) (h_chain g) (h_is_) (h_and_) (h_or_) (h_not_) (h_ife) (h_call F) (h_bi) (h_isi) (h_meth) (h_ix g) (h_sl) (h_rev) (h_rng) (h_lc) h_nil h_cons h_none h_some e
noncomputable def kAs : List E → EvL := fun es => E.rec_1 (motive_1 := fun _ => Ev3) (motive_2 := fun _ => EvL) (motive_3 := fun _ => EvO) (h_var) (h_cst) (h_tup) (h_lst) (h_dct) (h_bin) (h_neg) (h_cmp g) (h_chain g) (h_is_) (h_and_) (h_or_) (h_not_) (h_ife) (h_call F) (h_bi) (h_isi) (h_meth) (h_ix g) (h_sl) (h_rev) (h_rng) (h_lc) h_nil h_cons h_none h_some es
noncomputable def kAo : Option E → EvO := fun o => E.rec_2 (motive_1 := fun _ => Ev3) (motive_2 := fun _ => EvL) (motive_3 := fun _ => EvO) (h_var) (h_cst) (h_tup) (h_lst) (h_dct) (h_bin) (h_neg) (h_cmp g) (h_chain g) (h_is_) (h_and_) (h_or_) (h_not_) (h_ife) (h_call F) (h_bi) (h_isi) (h_meth) (h_ix g) (h_sl) (h_rev) (h_rng) (h_lc) h_nil h_cons h_none h_some o
mutual
theorem kA_eq : ∀ e : E, kA g F e = (evE g F e, evT g F e, evW g F e)
  | .var i => by
    rw [show kA g F (.var i) = h_var i  from rfl]
    refine Prod.ext ?_ (Prod.ext ?_ ?_) <;> (funext env S; simp only [evE, evT, evW, h_var, gcK_fun]) <;> rfl
  | .cst d => by
    rw [show kA g F (.cst d) = h_cst d  from rfl]
    refine Prod.ext ?_ (Prod.ext ?_ ?_) <;> (funext env S; simp only [evE, evT, evW, h_cst, gcK_fun]) <;> rfl
  | .tup es => by
    rw [show kA g F (.tup es) = h_tup es (kAs g F es) from rfl, kAs_eq es]
    refine Prod.ext ?_ (Prod.ext ?_ ?_) <;> (funext env S; simp only [evE, evT, evW, h_tup, gcK_fun]) <;> rfl
  | .lst es => by
    rw [show kA g F (.lst es) = h_lst es (kAs g F es) from rfl, kAs_eq es]
    refine Prod.ext ?_ (Prod.ext ?_ ?_) <;> (funext env S; simp only [evE, evT, evW, h_lst, gcK_fun]) <;> rfl
  | .dct ks es => by
    rw [show kA g F (.dct ks es) = h_dct ks es (kAs g F es) from rfl, kAs_eq es]
    refine Prod.ext ?_ (Prod.ext ?_ ?_) <;> (funext env S; simp only [evE, evT, evW, h_dct, gcK_fun]) <;> rfl
  | .bin op a b => by
    rw [show kA g F (.bin op a b) = h_bin op a b (kA g F a) (kA g F b) from rfl, kA_eq a, kA_eq b]
    refine Prod.ext ?_ (Prod.ext ?_ ?_) <;> (funext env S; simp only [evE, evT, evW, h_bin, gcK_fun]) <;> rfl
  | .neg a => by
    rw [show kA g F (.neg a) = h_neg a (kA g F a) from rfl, kA_eq a]
    refine Prod.ext ?_ (Prod.ext ?_ ?_) <;> (funext env S; simp only [evE, evT, evW, h_neg, gcK_fun]) <;> rfl
  | .cmp op a b => by
    rw [show kA g F (.cmp op a b) = h_cmp g op a b (kA g F a) (kA g F b) from rfl, kA_eq a, kA_eq b]
    refine Prod.ext ?_ (Prod.ext ?_ ?_) <;> (funext env S; simp only [evE, evT, evW, h_cmp, gcK_fun]) <;> rfl
  | .chain op op' a b c => by
    rw [show kA g F (.chain op op' a b c) = h_chain g op op' a b c (kA g F a) (kA g F b) (kA g F c) from rfl, kA_eq a, kA_eq b, kA_eq c]
    refine Prod.ext ?_ (Prod.ext ?_ ?_) <;> (funext env S; simp only [evE, evT, evW, h_chain, gcK_fun]) <;> rfl
  | .is_ neg a b => by
    rw [show kA g F (.is_ neg a b) = h_is_ neg a b (kA g F a) (kA g F b) from rfl, kA_eq a, kA_eq b]
    refine Prod.ext ?_ (Prod.ext ?_ ?_) <;> (funext env S; simp only [evE, evT, evW, h_is_, gcK_fun]) <;> rfl
  | .and_ a b => by
    rw [show kA g F (.and_ a b) = h_and_ a b (kA g F a) (kA g F b) from rfl, kA_eq a, kA_eq b]
    refine Prod.ext ?_ (Prod.ext ?_ ?_) <;> (funext env S; simp only [evE, evT, evW, h_and_, gcK_fun]) <;> rfl
  | .or_ a b => by
    rw [show kA g F (.or_ a b) = h_or_ a b (kA g F a) (kA g F b) from rfl, kA_eq a, kA_eq b]
    refine Prod.ext ?_ (Prod.ext ?_ ?_) <;> (funext env S; simp only [evE, evT, evW, h_or_, gcK_fun]) <;> rfl
  | .not_ a => by
    rw [show kA g F (.not_ a) = h_not_ a (kA g F a) from rfl, kA_eq a]
    refine Prod.ext ?_ (Prod.ext ?_ ?_) <;> (funext env S; simp only [evE, evT, evW, h_not_, gcK_fun]) <;> rfl
  | .ife c a b => by
    rw [show kA g F (.ife c a b) = h_ife c a b (kA g F c) (kA g F a) (kA g F b) from rfl, kA_eq c, kA_eq a, kA_eq b]
    refine Prod.ext ?_ (Prod.ext ?_ ?_) <;> (funext env S; simp only [evE, evT, evW, h_ife, gcK_fun]) <;> rfl
  | .call f es => by
    rw [show kA g F (.call f es) = h_call F f es (kAs g F es) from rfl, kAs_eq es]
    refine Prod.ext ?_ (Prod.ext ?_ ?_) <;> (funext env S; simp only [evE, evT, evW, h_call, gcK_fun]) <;> rfl
  | .bi b es => by
    rw [show kA g F (.bi b es) = h_bi b es (kAs g F es) from rfl, kAs_eq es]
    refine Prod.ext ?_ (Prod.ext ?_ ?_) <;> (funext env S; simp only [evE, evT, evW, h_bi, gcK_fun]) <;> rfl
  | .isi a cs => by
    rw [show kA g F (.isi a cs) = h_isi a cs (kA g F a) from rfl, kA_eq a]
    refine Prod.ext ?_ (Prod.ext ?_ ?_) <;> (funext env S; simp only [evE, evT, evW, h_isi, gcK_fun]) <;> rfl
  | .meth m o es => by
    rw [show kA g F (.meth m o es) = h_meth m o es (kA g F o) (kAs g F es) from rfl, kA_eq o, kAs_eq es]
    refine Prod.ext ?_ (Prod.ext ?_ ?_) <;> (funext env S; simp only [evE, evT, evW, h_meth, gcK_fun]) <;> rfl
  | .ix a i => by
    rw [show kA g F (.ix a i) = h_ix g a i (kA g F a) (kA g F i) from rfl, kA_eq a, kA_eq i]
    refine Prod.ext ?_ (Prod.ext ?_ ?_) <;> (funext env S; simp only [evE, evT, evW, h_ix, gcK_fun]) <;> rfl
  | .sl a lo hi => by
    rw [show kA g F (.sl a lo hi) = h_sl a lo hi (kA g F a) (kAo g F lo) (kAo g F hi) from rfl, kA_eq a, kAo_eq lo, kAo_eq hi]
    refine Prod.ext ?_ (Prod.ext ?_ ?_) <;> (funext env S; simp only [evE, evT, evW, h_sl, gcK_fun]) <;> rfl
  | .rev a => by
    rw [show kA g F (.rev a) = h_rev a (kA g F a) from rfl, kA_eq a]
    refine Prod.ext ?_ (Prod.ext ?_ ?_) <;> (funext env S; simp only [evE, evT, evW, h_rev, gcK_fun]) <;> rfl
  | .rng es => by
    rw [show kA g F (.rng es) = h_rng es (kAs g F es) from rfl, kAs_eq es]
    refine Prod.ext ?_ (Prod.ext ?_ ?_) <;> (funext env S; simp only [evE, evT, evW, h_rng, gcK_fun]) <;> rfl
  | .lc elt t it ifs own => by
    rw [show kA g F (.lc elt t it ifs own) = h_lc elt t it ifs own (kA g F elt) (kA g F it) (kAs g F ifs) from rfl, kA_eq elt, kA_eq it, kAs_eq ifs]
    refine Prod.ext ?_ (Prod.ext ?_ ?_) <;> (funext env S; simp only [evE, evT, evW, h_lc, gcK_fun]) <;> rfl
theorem kAs_eq : ∀ es : List E, kAs g F es = (evEs g F es, evIfs g F es)
  | [] => by
    rw [show kAs g F [] = h_nil from rfl]
    refine Prod.ext ?_ ?_ <;> (funext env S; simp only [evEs, evIfs, h_nil]) <;> rfl
  | [e] => by
    rw [show kAs g F [e] = h_cons e [] (kA g F e) (kAs g F []) from rfl, kA_eq e, kAs_eq []]
    refine Prod.ext ?_ ?_ <;> (funext env S; simp only [evEs, evIfs, h_cons]) <;> rfl
  | e :: e2 :: es => by
    have h := kAs_eq (e2 :: es)
    rw [show kAs g F (e :: e2 :: es) = h_cons e (e2 :: es) (kA g F e) (kAs g F (e2 :: es)) from rfl, h, kA_eq e]
    refine Prod.ext ?_ ?_
    · funext env S
      show _ = evEs g F (e :: e2 :: es) env S
      rw [evEs.eq_def]
      rfl
    · funext env S
      simp only [evIfs]
      rfl
theorem kAo_eq : ∀ o : Option E, kAo g F o = evO g F o
  | none => by
    rw [show kAo g F none = h_none from rfl]
    funext env S
    simp only [h_none, evO] <;> rfl
  | some e => by
    rw [show kAo g F (some e) = h_some e (kA g F e) from rfl, kA_eq e]
    funext env S
    simp only [h_some, evO] <;> rfl
end
end
abbrev EvC := Env → Sto → Option (Fl × Env × Sto)
section
variable (g : Cst) (F : FT) (fuel : Nat)
noncomputable def s_exp (e : E)  : EvC := fun env S => match (kA g F e).1 env S with
  | some (_, S1) => some (.nx, env, S1)
  | none => none
noncomputable def s_asg (t : T) (e : E)  : EvC := fun env S => match (kA g F e).1 env S with
  | some (d, S1) => match asg t d env S1 with
    | some env1 => some (.nx, env1, S1)
    | none => none
  | none => none
noncomputable def s_par (is : List Nat) (es : List E)  : EvC := fun env S => match (kAs g F es).1 env S with
  | some (ds, S1) => match setAll is ds env with
    | some env1 => some (.nx, env1, S1)
    | none => none
  | none => none
noncomputable def s_sto (o : E) (i : E) (e : E)  : EvC := fun env S => match (kA g F e).1 env S with
  | some (v, S1) => match (kA g F o).1 env S1 with
    | some (x, S2) => match (kA g F i).1 env S2 with
      | some (y, S3) => match setD x y v S3 with
        | some S4 => some (.nx, env, S4)
        | none => none
      | none => none
    | none => none
  | none => none
noncomputable def s_ret (e : E)  : EvC := fun env S => match (kA g F e).1 env S with
  | some (d, S1) => some (.rt d, env, S1)
  | none => none
noncomputable def s_retN   : EvC := fun env S => some (.rt .non, env, S)
noncomputable def s_ife (c : E) (a : List C) (b : List C) (ka : EvC) (kb : EvC) : EvC := fun env S => match (kA g F c).2.1 env S with
  | some (true, S1) => ka env S1
  | some (false, S1) => kb env S1
  | none => none
noncomputable def s_for_ (t : T) (it : E) (body : List C) (kbody : EvC) : EvC := fun env S => match (kA g F it).2.2 env S with
  | some (w, S1) => forLoop kbody t w w.items env S1
  | none => none
noncomputable def s_while_ (c : E) (body : List C) (kbody : EvC) : EvC := fun env S => whileLoop (kA g F c).2.1 kbody fuel env S
noncomputable def s_brk   : EvC := fun env S => some (.bk, env, S)
noncomputable def s_cnt   : EvC := fun env S => some (.ct, env, S)
noncomputable def s_pass   : EvC := fun env S => some (.nx, env, S)
def s_nil : EvC := fun env S => some (.nx, env, S)
def s_cons (c : C) (cs : List C) (kc kcs : EvC) : EvC := fun env S => match kc env S with
    | some (.nx, env1, S1) => kcs env1 S1
    | r => r
noncomputable def kC : C → EvC := fun c => C.rec (motive_1 := fun _ => EvC) (motive_2 := fun _ => EvC) (s_exp g F) (s_asg g F) (s_par g F) (s_sto g F) (s_ret g F) (s_retN) (s_ife g F) (s_for_ g F) (s_while_ g F fuel) (s_brk) (s_cnt) (s_pass) s_nil s_cons c
noncomputable def kCs : List C → EvC := fun cs => C.rec_1 (motive_1 := fun _ => EvC) (motive_2 := fun _ => EvC) (s_exp g F) (s_asg g F) (s_par g F) (s_sto g F) (s_ret g F) (s_retN) (s_ife g F) (s_for_ g F) (s_while_ g F fuel) (s_brk) (s_cnt) (s_pass) s_nil s_cons cs
mutual
theorem kC_eq : ∀ c : C, kC g F fuel c = evC g F fuel c
  | .exp e => by
    rw [show kC g F fuel (.exp e) = s_exp g F e  from rfl]
    funext env S
    simp only [s_exp, evC, kA_eq, kAs_eq] <;> rfl
  | .asg t e => by
    rw [show kC g F fuel (.asg t e) = s_asg g F t e  from rfl]
    funext env S
    simp only [s_asg, evC, kA_eq, kAs_eq] <;> rfl
  | .par is es => by
    rw [show kC g F fuel (.par is es) = s_par g F is es  from rfl]
    funext env S
    simp only [s_par, evC, kA_eq, kAs_eq] <;> rfl
  | .sto o i e => by
    rw [show kC g F fuel (.sto o i e) = s_sto g F o i e  from rfl]
    funext env S
    simp only [s_sto, evC, kA_eq, kAs_eq] <;> rfl
  | .ret e => by
    rw [show kC g F fuel (.ret e) = s_ret g F e  from rfl]
    funext env S
    simp only [s_ret, evC, kA_eq, kAs_eq] <;> rfl
  | .retN  => by
    rw [show kC g F fuel (.retN ) = s_retN   from rfl]
    funext env S
    simp only [s_retN, evC, kA_eq, kAs_eq] <;> rfl
  | .ife c a b => by
    rw [show kC g F fuel (.ife c a b) = s_ife g F c a b (kCs g F fuel a) (kCs g F fuel b) from rfl, kCs_eq a, kCs_eq b]
    funext env S
    simp only [s_ife, evC, kA_eq, kAs_eq] <;> rfl
  | .for_ t it body => by
    rw [show kC g F fuel (.for_ t it body) = s_for_ g F t it body (kCs g F fuel body) from rfl, kCs_eq body]
    funext env S
    simp only [s_for_, evC, kA_eq, kAs_eq] <;> rfl
  | .while_ c body => by
    rw [show kC g F fuel (.while_ c body) = s_while_ g F fuel c body (kCs g F fuel body) from rfl, kCs_eq body]
    funext env S
    simp only [s_while_, evC, kA_eq, kAs_eq] <;> rfl
  | .brk  => by
    rw [show kC g F fuel (.brk ) = s_brk   from rfl]
    funext env S
    simp only [s_brk, evC, kA_eq, kAs_eq] <;> rfl
  | .cnt  => by
    rw [show kC g F fuel (.cnt ) = s_cnt   from rfl]
    funext env S
    simp only [s_cnt, evC, kA_eq, kAs_eq] <;> rfl
  | .pass  => by
    rw [show kC g F fuel (.pass ) = s_pass   from rfl]
    funext env S
    simp only [s_pass, evC, kA_eq, kAs_eq] <;> rfl
theorem kCs_eq : ∀ cs : List C, kCs g F fuel cs = evCs g F fuel cs
  | [] => by
    rw [show kCs g F fuel [] = s_nil from rfl]
    funext env S
    simp only [s_nil, evCs] <;> rfl
  | c :: cs => by
    rw [show kCs g F fuel (c :: cs) = s_cons c cs (kC g F fuel c) (kCs g F fuel cs) from rfl, kC_eq c, kCs_eq cs]
    funext env S
    simp only [s_cons, evCs] <;> rfl
end
end
noncomputable def kFn (g : Cst) (fuel : Nat) (F : FT) (f : Fn) (ds : List D) (S : Sto) : Option (D × Sto) :=
  match kCs g F fuel f.body (ds.map some ++ List.replicate (f.N.length - ds.length) none) S with
    | some (.rt d, _, S1) => if ds.length = f.ps.length then some (gcK S (d, S1)) else none
    | some (.nx, _, S1) => if ds.length = f.ps.length then some (gcK S (.non, S1)) else none
    | _ => none
def eqL : List Nat → List Nat → Bool
  | [], [] => true
  | a :: as, b :: bs => match Nat.beq a b with
    | true => eqL as bs
    | false => false
  | _, _ => false
theorem eqL_iff : ∀ (a b : List Nat), eqL a b = true ↔ a = b
  | [], [] => by simp [eqL]
  | [], _ :: _ => by simp [eqL]
  | _ :: _, [] => by simp [eqL]
  | a :: as, b :: bs => by
    unfold eqL
    cases h : Nat.beq a b with
    | true =>
      have e : a = b := Nat.eq_of_beq_eq_true h
      simp [e, eqL_iff as bs]
    | false =>
      have e : a ≠ b := Nat.ne_of_beq_eq_false h
      simp [e]
def findK (l : List Nat) : List Fn → Option Fn
  | [] => none
  | f :: fs => match eqL f.nm.cps.toList l with
    | true => some f
    | false => findK l fs
noncomputable def kN (g : Cst) (fs : List Fn) (fuel : Nat) : Nat → FT
  | 0 => fun _ _ _ => none
  | k + 1 => fun x ds S => match findK x.cps.toList fs with
    | some f => kFn g fuel (kN g fs fuel k) f ds S
    | none => none
theorem kFn_eq {g : Cst} {fuel : Nat} {F : FT} {f : Fn} {ds : List D} {S : Sto} : kFn g fuel F f ds S = callFn g fuel F f ds S := by
  unfold kFn callFn
  rw [kCs_eq]
  by_cases h : ds.length = f.ps.length
  · simp only [if_pos h, gcK_fun]
    all_goals rfl
  · simp only [if_neg h]
    split <;> rfl
theorem findK_eq {x : Str} : ∀ fs : List Fn, findK x.cps.toList fs = fs.find? fun f => decide (f.nm = x)
  | [] => rfl
  | f :: fs => by
    unfold findK
    rw [List.find?_cons, findK_eq fs]
    have e : eqL f.nm.cps.toList x.cps.toList = decide (f.nm = x) := by
      rw [Bool.eq_iff_iff, eqL_iff, decide_eq_true_eq]
      constructor
      · intro h
        cases hf : f.nm with
        | mk a => cases x with
          | mk b =>
            rw [hf] at h
            exact congrArg Str.mk (Array.toList_inj.mp h)
      · intro h; rw [h]
    rw [e]
    cases decide (f.nm = x) <;> rfl
theorem kN_eq {g : Cst} {fs : List Fn} {fuel : Nat} : ∀ k : Nat, kN g fs fuel k = callN g fs fuel k
  | 0 => rfl
  | k + 1 => by
    funext x ds S
    unfold kN callN
    rw [kN_eq k, findK_eq]
    cases fs.find? fun f => decide (f.nm = x) with
    | none => rfl
    | some f => exact kFn_eq
end CV

set_option Elab.async false
set_option linter.all false
set_option maxRecDepth 100000
set_option maxHeartbeats 1000000
/-! CvR: how the evaluator's values and store lie in the model's heap. -/
namespace CV
open PySem PySem.Spec PyProof.Rows L2

theorem cap_eq : cap = sizeLine := by rw [sizeLine_eq]; rfl

/-- where the evaluator's objects lie -/
abbrev Loc := List (Addr × Kd)

/-- a list that is only read -/
def SqF (K : PySem.W.Frag) (H : Hp) (a : Addr) (xs : List V) : Prop :=
  (∃ o, H a = some (.frz o (.lst xs))) ∨
    ∃ (o : Obj) (its : Array Value) (n : Nat), K.lookup a = some o ∧ o.cls = .type "list" ∧ o.dict = none ∧ o.data = .seq its n ∧ its.size ≤ sizeLine ∧ Vals xs its.toList
theorem SqF.sq {K : PySem.W.Frag} {H : Hp} {a : Addr} {xs : List V} (h : SqF K H a xs) : SqL K H a xs := h.elim (fun h => .inl (.inr h)) .inr

mutual
inductive RD (K : PySem.W.Frag) (Gd : Str → Addr → Prop) (H : Hp) (ι : Loc) : D → V → Prop
  | non : RD K Gd H ι .non .non
  | bl (b : Bool) : RD K Gd H ι (.bl b) (.bl b)
  | int (i : Int) : RD K Gd H ι (.int i) (.int i)
  | str {s : Str} (h : strGood s = true) : RD K Gd H ι (.str s) (.str s)
  | tup {a : Addr} {vs : List V} {ds : List D} (h : SqT K H a vs) (r : RDs K Gd H ι ds vs) : RD K Gd H ι (.tup ds) (.ref a)
  | loc {k : Kd} {n : Nat} {a : Addr} (h : ι[n]? = some (a, k)) : RD K Gd H ι (.loc k n) (.ref a)
  | scr {a : Addr} {ns : List Int} (h : SqF K H a (ns.map V.int)) : RD K Gd H ι (.scr ns) (.ref a)
  | gd {x : Str} {a : Addr} (h : Gd x a) : RD K Gd H ι (.gd x) (.ref a)
inductive RDs (K : PySem.W.Frag) (Gd : Str → Addr → Prop) (H : Hp) (ι : Loc) : List D → List V → Prop
  | nil : RDs K Gd H ι [] []
  | cons {d : D} {ds : List D} {v : V} {vs : List V} (h : RD K Gd H ι d v) (t : RDs K Gd H ι ds vs) : RDs K Gd H ι (d :: ds) (v :: vs)
end

/-- entries of a dict -/
inductive RKv (K : PySem.W.Frag) (Gd : Str → Addr → Prop) (H : Hp) (ι : Loc) : List (Key × D) → List (Key × V) → Prop
  | nil : RKv K Gd H ι [] []
  | cons {k : Key} {d : D} {ds : List (Key × D)} {v : V} {vs : List (Key × V)} (h : RD K Gd H ι d v) (t : RKv K Gd H ι ds vs) : RKv K Gd H ι ((k, d) :: ds) ((k, v) :: vs)

def RO (K : PySem.W.Frag) (Gd : Str → Addr → Prop) (H : Hp) (ι : Loc) (a : Addr) : Ob → Prop
  | .lst ds => ∃ vs, H a = some (.lst vs) ∧ RDs K Gd H ι ds vs
  | .dct kvs => ∃ vs, H a = some (.dK vs) ∧ RKv K Gd H ι kvs vs

structure Rel (K : PySem.W.Frag) (Gd : Str → Addr → Prop) (H : Hp) (ι : Loc) (S : Sto) : Prop where
  len : ι.length = S.length
  nd : (ι.map (·.1)).Nodup
  ob : ∀ (n : Nat) (o : Ob), S[n]? = some o → ∃ a : Addr, ι[n]? = some (a, o.kd) ∧ RO K Gd H ι a o

structure Ext (H : Hp) (ι : Loc) (H' : Hp) (ι' : Loc) : Prop where
  pre : ∃ t, ι' = ι ++ t
  new : ∀ p ∈ ι', p ∈ ι ∨ H p.1 = none
  frm : ∀ a o, H a = some o → (∀ p ∈ ι, p.1 ≠ a) → H' a = some o
  dom : ∀ a, H' a = none → H a = none

def REnv (K : PySem.W.Frag) (Gd : Str → Addr → Prop) (H : Hp) (ι : Loc) (σ : L2.St) (env : Env) : Prop :=
  σ.length = env.length ∧ ∀ (i : Nat) (d : D), env[i]? = some (some d) → ∃ v, σ[i]? = some (some v) ∧ RD K Gd H ι d v

section
variable {K : PySem.W.Frag} {Gd : Str → Addr → Prop} {H H' H'' : Hp} {ι ι' ι'' : Loc} {S S' : Sto} {d : D} {ds : List D} {v : V} {vs : List V} {σ : L2.St} {env : Env}

theorem RDs.length : ∀ {ds : List D} {vs : List V}, RDs K Gd H ι ds vs → ds.length = vs.length
  | _, _, .nil => rfl
  | _, _, .cons _ t => congrArg (· + 1) (RDs.length t)
theorem RDs.get : ∀ {ds : List D} {vs : List V} {i : Nat} {d : D}, RDs K Gd H ι ds vs → ds[i]? = some d → ∃ v, vs[i]? = some v ∧ RD K Gd H ι d v
  | _, _, _, _, .nil, h => by simp at h
  | _, _, 0, _, .cons h t, e => by simp at e; subst e; exact ⟨_, rfl, h⟩
  | _, _, i + 1, _, .cons h t, e => by
    simp only [List.getElem?_cons_succ] at e ⊢
    exact RDs.get t e
theorem RDs.get' : ∀ {ds : List D} {vs : List V} {i : Nat} {v : V}, RDs K Gd H ι ds vs → vs[i]? = some v → ∃ d, ds[i]? = some d ∧ RD K Gd H ι d v
  | _, _, _, _, .nil, h => by simp at h
  | _, _, 0, _, .cons h t, e => by simp at e; subst e; exact ⟨_, rfl, h⟩
  | _, _, i + 1, _, .cons h t, e => by
    simp only [List.getElem?_cons_succ] at e ⊢
    exact RDs.get' t e
theorem RDs.append : ∀ {ds es : List D} {vs us : List V}, RDs K Gd H ι ds vs → RDs K Gd H ι es us → RDs K Gd H ι (ds ++ es) (vs ++ us)
  | _, _, _, _, .nil, h => h
  | _, _, _, _, .cons h t, r => .cons h (RDs.append t r)
theorem RDs.take : ∀ {ds : List D} {vs : List V} (n : Nat), RDs K Gd H ι ds vs → RDs K Gd H ι (ds.take n) (vs.take n)
  | _, _, 0, _ => by simp only [List.take_zero]; exact .nil
  | _, _, _ + 1, .nil => .nil
  | _, _, n + 1, .cons h t => .cons h (RDs.take n t)
theorem RDs.drop : ∀ {ds : List D} {vs : List V} (n : Nat), RDs K Gd H ι ds vs → RDs K Gd H ι (ds.drop n) (vs.drop n)
  | _, _, 0, r => r
  | _, _, _ + 1, .nil => .nil
  | _, _, n + 1, .cons h t => RDs.drop n t
theorem RDs.set {x : D} {u : V} (r : RD K Gd H ι x u) : ∀ {ds : List D} {vs : List V} (n : Nat), RDs K Gd H ι ds vs → RDs K Gd H ι (ds.set n x) (vs.set n u)
  | _, _, _, .nil => .nil
  | _, _, 0, .cons _ t => .cons r t
  | _, _, n + 1, .cons h t => .cons h (RDs.set r n t)
theorem RDs.rev {ds : List D} {vs : List V} (h : RDs K Gd H ι ds vs) : RDs K Gd H ι ds.reverse vs.reverse := by
  induction ds generalizing vs with
  | nil => cases h; exact .nil
  | cons d ds ih =>
    cases h with
    | cons h t =>
      simp only [List.reverse_cons]
      exact (ih t).append (.cons h .nil)
theorem RDs.rep {ds : List D} {vs : List V} (h : RDs K Gd H ι ds vs) : ∀ n : Nat, RDs K Gd H ι (List.replicate n ds).flatten (List.replicate n vs).flatten
  | 0 => .nil
  | n + 1 => by
    simp only [List.replicate_succ, List.flatten_cons]
    exact h.append (RDs.rep h n)
theorem RDs.dropLast {ds : List D} {vs : List V} (h : RDs K Gd H ι ds vs) : RDs K Gd H ι ds.dropLast vs.dropLast := by
  rw [List.dropLast_eq_take, List.dropLast_eq_take, h.length]
  exact h.take _
theorem RDs.ints : ∀ {ns : List Int}, RDs K Gd H ι (ns.map D.int) (ns.map V.int)
  | [] => .nil
  | _ :: _ => .cons (.int _) RDs.ints

/-- what a value leans on is kept -/
structure Kp (K : PySem.W.Frag) (H : Hp) (ι : Loc) (H' : Hp) (ι' : Loc) : Prop where
  tup : ∀ a xs, SqT K H a xs → SqT K H' a xs
  frz : ∀ a xs, SqF K H a xs → SqF K H' a xs
  loc : ∀ (n : Nat) (x : Addr × Kd), ι[n]? = some x → ι'[n]? = some x
mutual
theorem RD.keep (k : Kp K H ι H' ι') : ∀ {d : D} {v : V}, RD K Gd H ι d v → RD K Gd H' ι' d v
  | _, _, .non => .non
  | _, _, .bl b => .bl b
  | _, _, .int i => .int i
  | _, _, .str h => .str h
  | _, _, .tup h r => .tup (k.tup _ _ h) (RDs.keep k r)
  | _, _, .loc h => .loc (k.loc _ _ h)
  | _, _, .scr h => .scr (k.frz _ _ h)
  | _, _, .gd h => .gd h
theorem RDs.keep (k : Kp K H ι H' ι') : ∀ {ds : List D} {vs : List V}, RDs K Gd H ι ds vs → RDs K Gd H' ι' ds vs
  | _, _, .nil => .nil
  | _, _, .cons h t => .cons (RD.keep k h) (RDs.keep k t)
end
theorem RKv.keep (k : Kp K H ι H' ι') : ∀ {ds : List (Key × D)} {vs : List (Key × V)}, RKv K Gd H ι ds vs → RKv K Gd H' ι' ds vs
  | _, _, .nil => .nil
  | _, _, .cons h t => .cons (h.keep k) (RKv.keep k t)

theorem Rel.at_ (R : Rel K Gd H ι S) {n : Nat} {x : Addr × Kd} (e : ι[n]? = some x) : ∃ o, S[n]? = some o ∧ x.2 = o.kd ∧ RO K Gd H ι x.1 o := by
  have hn : n < S.length := by rw [← R.len]; exact (List.getElem?_eq_some_iff.mp e).1
  obtain ⟨a, h1, h2⟩ := R.ob n S[n] (by simp [hn])
  rw [e] at h1
  cases h1
  exact ⟨S[n], by simp [hn], rfl, h2⟩
/-- at a place of the store: a list or a dict -/
theorem Rel.mut (R : Rel K Gd H ι S) {p : Addr × Kd} (hp : p ∈ ι) : (∃ xs, H p.1 = some (.lst xs)) ∨ ∃ kvs, H p.1 = some (.dK kvs) := by
  obtain ⟨n, e⟩ := List.mem_iff_getElem?.mp hp
  obtain ⟨o, _, _, h⟩ := R.at_ e
  cases o with
  | lst xs => obtain ⟨vs, h, _⟩ := h; exact .inl ⟨vs, h⟩
  | dct xs => obtain ⟨vs, h, _⟩ := h; exact .inr ⟨vs, h⟩
theorem Rel.notin (R : Rel K Gd H ι S) {a : Addr} {o : HO} (e : H a = some o) (n1 : ∀ xs, o ≠ .lst xs) (n2 : ∀ xs, o ≠ .dK xs) : ∀ p ∈ ι, p.1 ≠ a := fun p hp z => by
  rcases R.mut hp with ⟨xs, h⟩ | ⟨xs, h⟩
  · rw [z, e] at h; cases h; exact n1 _ rfl
  · rw [z, e] at h; cases h; exact n2 _ rfl
theorem Ext.keeps (R : Rel K Gd H ι S) (x : Ext H ι H' ι') : Kp K H ι H' ι' where
  tup := fun a xs h => by
    rcases h with (h | ⟨o, h⟩) | h
    · exact .inl (.inl (x.frm _ _ h (R.notin h (fun _ z => nomatch z) (fun _ z => nomatch z))))
    · exact .inl (.inr ⟨o, x.frm _ _ h (R.notin h (fun _ z => nomatch z) (fun _ z => nomatch z))⟩)
    · exact .inr h
  frz := fun a xs h => by
    rcases h with ⟨o, h⟩ | h
    · exact .inl ⟨o, x.frm _ _ h (R.notin h (fun _ z => nomatch z) (fun _ z => nomatch z))⟩
    · exact .inr h
  loc := fun n y h => by
    obtain ⟨t, rfl⟩ := x.pre
    have hn := (List.getElem?_eq_some_iff.mp h).1
    rw [List.getElem?_append_left hn]
    exact h
theorem Ext.refl : Ext H ι H ι := ⟨⟨[], by simp⟩, fun p hp => .inl hp, fun _ _ h _ => h, fun _ h => h⟩
theorem Ext.trans (x : Ext H ι H' ι') (y : Ext H' ι' H'' ι'') : Ext H ι H'' ι'' where
  pre := by
    obtain ⟨t, rfl⟩ := x.pre
    obtain ⟨u, rfl⟩ := y.pre
    exact ⟨t ++ u, by simp⟩
  new := fun p hp => by
    rcases y.new p hp with h | h
    · exact x.new p h
    · exact .inr (x.dom _ h)
  frm := fun a o h n => y.frm a o (x.frm a o h n) fun p hp z => by
    rcases x.new p hp with e | e
    · exact n p e z
    · rw [z, h] at e; cases e
  dom := fun a h => x.dom a (y.dom a h)

/-- a new object that the store does not know -/
theorem Ext.fresh {p : Addr} {o : HO} (hp : H p = none) : Ext H ι (upd H p o) ι where
  pre := ⟨[], by simp⟩
  new := fun q hq => .inl hq
  frm := fun a u h _ => by rw [upd_ne (ne_of_none h hp)]; exact h
  dom := fun a h => by
    by_cases e : a = p
    · subst e; exact hp
    · rw [upd_ne e] at h; exact h
theorem Rel.keepX (R : Rel K Gd H ι S) (x : Ext H ι H' ι) (same : ∀ p ∈ ι, H' p.1 = H p.1) : Rel K Gd H' ι S where
  len := R.len
  nd := R.nd
  ob := fun n o e => by
    obtain ⟨a, h1, h2⟩ := R.ob n o e
    have hs := same _ (List.mem_of_getElem? h1)
    refine ⟨a, h1, ?_⟩
    cases o with
    | lst ds =>
      obtain ⟨vs, h3, h4⟩ := h2
      exact ⟨vs, hs.trans h3, h4.keep (x.keeps R)⟩
    | dct ds =>
      obtain ⟨vs, h3, h4⟩ := h2
      exact ⟨vs, hs.trans h3, h4.keep (x.keeps R)⟩
theorem Rel.none_ne (R : Rel K Gd H ι S) {p : Addr} (hp : H p = none) : ∀ q ∈ ι, q.1 ≠ p := fun q hq z => by
  rcases R.mut hq with ⟨xs, h⟩ | ⟨xs, h⟩ <;> (rw [z, hp] at h; cases h)
theorem Rel.fresh (R : Rel K Gd H ι S) {p : Addr} {o : HO} (hp : H p = none) : Rel K Gd (upd H p o) ι S :=
  R.keepX (Ext.fresh hp) fun q hq => by rw [upd_ne (R.none_ne hp q hq)]
/-- a new object of the store -/
theorem Ext.alloc {p : Addr} {k : Kd} {o : HO} (hp : H p = none) : Ext H ι (upd H p o) (ι ++ [(p, k)]) where
  pre := ⟨_, rfl⟩
  new := fun q hq => by
    rcases List.mem_append.mp hq with h | h
    · exact .inl h
    · simp at h; subst h; exact .inr hp
  frm := (Ext.fresh hp).frm (ι := ι)
  dom := (Ext.fresh hp).dom (ι := ι)
theorem Rel.alloc (R : Rel K Gd H ι S) {p : Addr} {o : HO} {ob : Ob} (hp : H p = none) (ho : RO K Gd (upd H p o) (ι ++ [(p, ob.kd)]) p ob) : Rel K Gd (upd H p o) (ι ++ [(p, ob.kd)]) (S ++ [ob]) where
  len := by simp [R.len]
  nd := by
    rw [List.map_append, List.nodup_append]
    refine ⟨R.nd, by simp, fun a ha b hb => ?_⟩
    simp at hb
    subst hb
    obtain ⟨q, hq, rfl⟩ := List.mem_map.mp ha
    exact R.none_ne hp q hq
  ob := fun n u e => by
    have kp := (Ext.alloc (k := ob.kd) (o := o) (ι := ι) hp).keeps R
    by_cases hn : n < S.length
    · rw [List.getElem?_append_left hn] at e
      obtain ⟨a, h1, h2⟩ := R.ob n u e
      refine ⟨a, kp.loc _ _ h1, ?_⟩
      have hs : upd H p o a = H a := upd_ne (R.none_ne hp _ (List.mem_of_getElem? h1))
      cases u with
      | lst ds =>
        obtain ⟨vs, h3, h4⟩ := h2
        exact ⟨vs, hs.trans h3, h4.keep kp⟩
      | dct ds =>
        obtain ⟨vs, h3, h4⟩ := h2
        exact ⟨vs, hs.trans h3, h4.keep kp⟩
    · have hn' : n = S.length := by
        have := (List.getElem?_eq_some_iff.mp e).1
        simp at this
        omega
      subst hn'
      simp at e
      subst e
      exact ⟨p, by rw [← R.len]; simp, ho⟩
/-- an object of the store is written -/
theorem Ext.write {n : Nat} {p : Addr} {k : Kd} {o : HO} (hp : ι[n]? = some (p, k)) (hH : H p ≠ none) : Ext H ι (upd H p o) ι where
  pre := ⟨[], by simp⟩
  new := fun q hq => .inl hq
  frm := fun a u h m => by
    rw [upd_ne (fun e => m _ (List.mem_of_getElem? hp) e.symm)]
    exact h
  dom := fun a h => by
    by_cases e : a = p
    · subst e; rw [upd_same] at h; cases h
    · rw [upd_ne e] at h; exact h
theorem Rel.ne_ix (R : Rel K Gd H ι S) {n m : Nat} {x y : Addr × Kd} (hx : ι[n]? = some x) (hy : ι[m]? = some y) (e : x.1 = y.1) : n = m := by
  have h1 : (ι.map (·.1))[n]? = some x.1 := by rw [List.getElem?_map, hx]; rfl
  have h2 : (ι.map (·.1))[m]? = some x.1 := by rw [List.getElem?_map, hy, e]; rfl
  obtain ⟨l1, e1⟩ := List.getElem?_eq_some_iff.mp h1
  obtain ⟨l2, e2⟩ := List.getElem?_eq_some_iff.mp h2
  exact (List.getElem_inj R.nd).mp (e1.trans e2.symm)
theorem Rel.write (R : Rel K Gd H ι S) {n : Nat} {p : Addr} {o : HO} {ob : Ob} (hp : ι[n]? = some (p, ob.kd)) (hH : H p ≠ none) (ho : RO K Gd (upd H p o) ι p ob) : Rel K Gd (upd H p o) ι (S.set n ob) where
  len := by simp [R.len]
  nd := R.nd
  ob := fun m u e => by
    have kp := (Ext.write (o := o) hp hH).keeps R
    by_cases hm : m = n
    · subst hm
      have hl : m < S.length := by
        have := (List.getElem?_eq_some_iff.mp e).1
        simpa using this
      rw [List.getElem?_set_self hl] at e
      cases e
      exact ⟨p, hp, ho⟩
    · rw [List.getElem?_set_ne (Ne.symm hm)] at e
      obtain ⟨a, h1, h2⟩ := R.ob m u e
      refine ⟨a, h1, ?_⟩
      have hs : upd H p o a = H a := upd_ne fun z => hm (R.ne_ix h1 hp z)
      cases u with
      | lst ds =>
        obtain ⟨vs, h3, h4⟩ := h2
        exact ⟨vs, hs.trans h3, h4.keep kp⟩
      | dct ds =>
        obtain ⟨vs, h3, h4⟩ := h2
        exact ⟨vs, hs.trans h3, h4.keep kp⟩

/-! ### what is no longer reached goes -/
theorem under_loc {n m : Nat} {k : Kd} (h : D.under n (.loc k m) = true) : m < n := by simpa [D.under] using h
theorem under_tup {n : Nat} {ds : List D} (h : D.under n (.tup ds) = true) : D.underAll n ds = true := by simpa [D.under] using h
theorem under_cons {n : Nat} {d : D} {ds : List D} (h : D.underAll n (d :: ds) = true) : D.under n d = true ∧ D.underAll n ds = true := by simpa [D.underAll] using h
mutual
theorem RD.cut {n : Nat} (hl : n ≤ ι.length) : ∀ {d : D} {v : V}, RD K Gd H ι d v → D.under n d = true → RD K Gd H (ι.take n) d v
  | _, _, .non, _ => .non
  | _, _, .bl b, _ => .bl b
  | _, _, .int i, _ => .int i
  | _, _, .str h, _ => .str h
  | _, _, .tup h r, u => .tup h (RDs.cut hl r (under_tup u))
  | _, _, .loc h, u => .loc (by
      rw [List.getElem?_take_of_lt (under_loc u)]
      exact h)
  | _, _, .scr h, _ => .scr h
  | _, _, .gd h, _ => .gd h
theorem RDs.cut {n : Nat} (hl : n ≤ ι.length) : ∀ {ds : List D} {vs : List V}, RDs K Gd H ι ds vs → D.underAll n ds = true → RDs K Gd H (ι.take n) ds vs
  | _, _, .nil, _ => .nil
  | _, _, .cons h t, u => .cons (RD.cut hl h (under_cons u).1) (RDs.cut hl t (under_cons u).2)
end
theorem RKv.cut {n : Nat} (hl : n ≤ ι.length) : ∀ {ds : List (Key × D)} {vs : List (Key × V)}, RKv K Gd H ι ds vs → D.underAll n (ds.map (·.2)) = true → RKv K Gd H (ι.take n) ds vs
  | _, _, .nil, _ => .nil
  | _, _, .cons h t, u => .cons (h.cut hl (under_cons u).1) (RKv.cut hl t (under_cons u).2)
mutual
theorem RD.under : ∀ {d : D} {v : V}, RD K Gd H ι d v → D.under ι.length d = true
  | _, _, .non => rfl
  | _, _, .bl b => rfl
  | _, _, .int i => rfl
  | _, _, .str h => rfl
  | _, _, .tup h r => by rw [D.under]; exact RDs.under r
  | _, _, .loc h => by
    have := (List.getElem?_eq_some_iff.mp h).1
    simpa [D.under] using this
  | _, _, .scr h => rfl
  | _, _, .gd h => rfl
theorem RDs.under : ∀ {ds : List D} {vs : List V}, RDs K Gd H ι ds vs → D.underAll ι.length ds = true
  | _, _, .nil => rfl
  | _, _, .cons h t => by rw [D.underAll, RD.under h, RDs.under t]; rfl
end
theorem RKv.under : ∀ {ds : List (Key × D)} {vs : List (Key × V)}, RKv K Gd H ι ds vs → D.underAll ι.length (ds.map (·.2)) = true
  | _, _, .nil => rfl
  | _, _, .cons h t => by rw [List.map_cons, D.underAll, h.under, RKv.under t]; rfl
theorem RO.under {a : Addr} {o : Ob} (h : RO K Gd H ι a o) : Ob.under ι.length o = true := by
  cases o with
  | lst ds => obtain ⟨_, _, h⟩ := h; exact h.under
  | dct ds => obtain ⟨_, _, h⟩ := h; exact h.under
theorem RO.cut {a : Addr} {o : Ob} {n : Nat} (hl : n ≤ ι.length) (h : RO K Gd H ι a o) (u : Ob.under n o = true) : RO K Gd H (ι.take n) a o := by
  cases o with
  | lst ds => obtain ⟨vs, h1, h⟩ := h; exact ⟨vs, h1, h.cut hl u⟩
  | dct ds => obtain ⟨vs, h1, h⟩ := h; exact ⟨vs, h1, h.cut hl u⟩

mutual
theorem D.beq_eq : ∀ {a b : D}, D.beq a b = true → a = b
  | .non, .non, _ => rfl
  | .bl a, .bl b, h => by simp [D.beq] at h; rw [h]
  | .int a, .int b, h => by simp [D.beq] at h; rw [h]
  | .str a, .str b, h => by simp [D.beq] at h; rw [h]
  | .tup a, .tup b, h => by rw [D.beqAll_eq (show D.beqAll a b = true by simpa [D.beq] using h)]
  | .loc k n, .loc l m, h => by simp [D.beq] at h; rw [h.1, h.2]
  | .scr a, .scr b, h => by simp [D.beq] at h; rw [h]
  | .gd a, .gd b, h => by simp [D.beq] at h; rw [h]
  | .non, .bl _, h | .non, .int _, h | .non, .str _, h | .non, .tup _, h | .non, .loc _ _, h | .non, .scr _, h | .non, .gd _, h => by simp [D.beq] at h
  | .bl _, .non, h | .bl _, .int _, h | .bl _, .str _, h | .bl _, .tup _, h | .bl _, .loc _ _, h | .bl _, .scr _, h | .bl _, .gd _, h => by simp [D.beq] at h
  | .int _, .non, h | .int _, .bl _, h | .int _, .str _, h | .int _, .tup _, h | .int _, .loc _ _, h | .int _, .scr _, h | .int _, .gd _, h => by simp [D.beq] at h
  | .str _, .non, h | .str _, .bl _, h | .str _, .int _, h | .str _, .tup _, h | .str _, .loc _ _, h | .str _, .scr _, h | .str _, .gd _, h => by simp [D.beq] at h
  | .tup _, .non, h | .tup _, .bl _, h | .tup _, .int _, h | .tup _, .str _, h | .tup _, .loc _ _, h | .tup _, .scr _, h | .tup _, .gd _, h => by simp [D.beq] at h
  | .loc _ _, .non, h | .loc _ _, .bl _, h | .loc _ _, .int _, h | .loc _ _, .str _, h | .loc _ _, .tup _, h | .loc _ _, .scr _, h | .loc _ _, .gd _, h => by simp [D.beq] at h
  | .scr _, .non, h | .scr _, .bl _, h | .scr _, .int _, h | .scr _, .str _, h | .scr _, .tup _, h | .scr _, .loc _ _, h | .scr _, .gd _, h => by simp [D.beq] at h
  | .gd _, .non, h | .gd _, .bl _, h | .gd _, .int _, h | .gd _, .str _, h | .gd _, .tup _, h | .gd _, .loc _ _, h | .gd _, .scr _, h => by simp [D.beq] at h
theorem D.beqAll_eq : ∀ {a b : List D}, D.beqAll a b = true → a = b
  | [], [], _ => rfl
  | x :: xs, y :: ys, h => by
    have h' : D.beq x y = true ∧ D.beqAll xs ys = true := by simpa [D.beqAll] using h
    rw [D.beq_eq h'.1, D.beqAll_eq h'.2]
  | [], _ :: _, h => by simp [D.beqAll] at h
  | _ :: _, [], h => by simp [D.beqAll] at h
end
mutual
theorem D.beq_self : ∀ a : D, D.beq a a = true
  | .non => rfl
  | .bl a => by simp [D.beq]
  | .int a => by simp [D.beq]
  | .str a => by simp [D.beq]
  | .tup a => by rw [D.beq]; exact D.beqAll_self a
  | .loc k n => by simp [D.beq]
  | .scr a => by simp [D.beq]
  | .gd a => by simp [D.beq]
theorem D.beqAll_self : ∀ a : List D, D.beqAll a a = true
  | [] => rfl
  | x :: xs => by rw [D.beqAll, D.beq_self x, D.beqAll_self xs]; rfl
end
theorem beqKv_eq : ∀ {a b : List (Key × D)}, beqKv a b = true → a = b
  | [], [], _ => rfl
  | (k, x) :: xs, (l, y) :: ys, h => by
    have h' : (k = l ∧ D.beq x y = true) ∧ beqKv xs ys = true := by simpa [beqKv] using h
    rw [h'.1.1, D.beq_eq h'.1.2, beqKv_eq h'.2]
  | [], _ :: _, h => by simp [beqKv] at h
  | _ :: _, [], h => by simp [beqKv] at h
theorem beqKv_self : ∀ a : List (Key × D), beqKv a a = true
  | [] => rfl
  | (k, x) :: xs => by simp [beqKv, D.beq_self x, beqKv_self xs]
theorem Ob.beq_eq {a b : Ob} (h : Ob.beq a b = true) : a = b := by
  cases a <;> cases b <;> simp only [Ob.beq] at h
  · rw [D.beqAll_eq h]
  · cases h
  · cases h
  · rw [beqKv_eq h]
theorem Ob.beq_self (a : Ob) : Ob.beq a a = true := by
  cases a with
  | lst xs => exact D.beqAll_self xs
  | dct xs => exact beqKv_self xs

theorem oldOk_at {n : Nat} : ∀ {S S1 : Sto}, oldOk n S S1 = true → S.length ≤ S1.length ∧ ∀ i o, i < S.length → S1[i]? = some o → S[i]? = some o ∨ Ob.under n o = true
  | [], S1, _ => ⟨Nat.zero_le _, fun i o h => absurd h (Nat.not_lt_zero _)⟩
  | _ :: _, [], h => by simp [oldOk] at h
  | o :: S, o' :: S1, h => by
    have h' : (Ob.beq o o' = true ∨ Ob.under n o' = true) ∧ oldOk n S S1 = true := by have q := h; simp only [oldOk, Bool.and_eq_true, Bool.or_eq_true] at q; exact ⟨q.1.symm, q.2⟩
    obtain ⟨h1, h2⟩ := oldOk_at h'.2
    refine ⟨Nat.succ_le_succ h1, fun i u hi e => ?_⟩
    cases i with
    | zero =>
      simp at e
      subst e
      rcases h'.1 with q | q
      · exact .inl (by rw [Ob.beq_eq q]; rfl)
      · exact .inr q
    | succ i =>
      simp only [List.getElem?_cons_succ] at e ⊢
      exact h2 i u (by simpa using hi) e

/-- behind a piece of work: the store as it is left -/
theorem gc0_ok {S1 : Sto} {ι1 : Loc} {H1 : Hp} (R : Rel K Gd H ι S) (R1 : Rel K Gd H1 ι1 S1) (r : RD K Gd H1 ι1 d v) (x : Ext H ι H1 ι1) :
    ∃ ι2, Rel K Gd H1 ι2 (gc0 S (d, S1)).2 ∧ RD K Gd H1 ι2 (gc0 S (d, S1)).1 v ∧ Ext H ι H1 ι2 := by
  have hle : ι.length ≤ ι1.length := by obtain ⟨t, rfl⟩ := x.pre; simp
  have htake : ι1.take S.length = ι := by
    obtain ⟨t, rfl⟩ := x.pre
    rw [← R.len]
    simp
  have keep : ∃ ι2, Rel K Gd H1 ι2 S1 ∧ RD K Gd H1 ι2 d v ∧ Ext H ι H1 ι2 := ⟨ι1, R1, r, x⟩
  by_cases ho : oldOk S.length S S1 = true
  · obtain ⟨hl, hu⟩ := oldOk_at ho
    have old : ∀ (i : Nat) (o : Ob), i < S.length → S1[i]? = some o → Ob.under S.length o = true := fun i o hi e => by
      rcases hu i o hi e with q | q
      · obtain ⟨a, _, h2⟩ := R.ob i o q
        have := h2.under
        rwa [R.len] at this
      · exact q
    have hcut : S.length ≤ ι1.length := by rw [← R.len]; exact hle
    -- what is old, cut
    have Rc : Rel K Gd H1 (ι1.take S.length) (S1.take S.length) := by
      refine ⟨by simp [R1.len], ?_, fun i o e => ?_⟩
      · rw [List.map_take]
        exact R1.nd.sublist (List.take_sublist _ _)
      · have hi : i < S.length := by
          have := (List.getElem?_eq_some_iff.mp e).1
          simp at this
          omega
        rw [List.getElem?_take_of_lt hi] at e
        obtain ⟨a, h1, h2⟩ := R1.ob i o e
        exact ⟨a, by rw [List.getElem?_take_of_lt hi]; exact h1, h2.cut hcut (old i o hi e)⟩
    by_cases hd : D.under S.length d = true
    · have e : gc0 S (d, S1) = (d, S1.take S.length) := by simp [gc0, ho, hd]
      rw [e]
      refine ⟨ι1.take S.length, Rc, r.cut hcut hd, ?_⟩
      rw [htake]
      exact ⟨⟨[], by simp⟩, fun p hp => .inl hp, x.frm, x.dom⟩
    · by_cases hk : ∃ k m, d = .loc k m
      · obtain ⟨k, m, rfl⟩ := hk
        cases q : S1[m]? with
        | none =>
          have e : gc0 S (.loc k m, S1) = (.loc k m, S1) := by simp [gc0, ho, hd, q]
          rw [e]
          exact keep
        | some o =>
          by_cases hc : (Ob.under (List.length S) o && decide (List.length S ≤ m) && decide (o.kd = k)) = true
          · have e : gc0 S (.loc k m, S1) = (.loc k S.length, S1.take S.length ++ [o]) := by
              unfold gc0
              rw [if_pos (show oldOk S.length S (D.loc k m, S1).2 = true from ho), if_neg (show ¬ D.under S.length (D.loc k m, S1).1 = true from hd)]
              simp only [q]
              rw [if_pos hc]
            rw [e]
            simp only [Bool.and_eq_true, decide_eq_true_eq] at hc
            obtain ⟨⟨hc1, hc2⟩, hc3⟩ := hc
            obtain ⟨a, h1, h2⟩ := R1.ob m o q
            have hv : v = .ref a := by
              cases r with
              | loc h =>
                rw [h1] at h
                cases h
                rfl
            subst hv
            have hm : (a, o.kd) ∈ ι1 := List.mem_of_getElem? h1
            have han : ∀ p ∈ ι, p.1 ≠ a := fun p hp z => by
              obtain ⟨i, hi⟩ := List.mem_iff_getElem?.mp hp
              have hi1 := (x.keeps R).loc _ _ hi
              have e := R1.ne_ix hi1 h1 z
              have := (List.getElem?_eq_some_iff.mp hi).1
              rw [R.len] at this
              omega
            have x2 : Ext H ι H1 (ι ++ [(a, o.kd)]) := ⟨⟨_, rfl⟩, fun p hp => by
              rcases List.mem_append.mp hp with h | h
              · exact .inl h
              · simp at h
                subst h
                rcases x.new _ hm with z | z
                · exact absurd rfl (han _ z)
                · exact .inr z, x.frm, x.dom⟩
            have kp : Kp K H1 (ι1.take S.length) H1 (ι ++ [(a, o.kd)]) := by
              rw [htake]
              exact ⟨fun _ _ h => h, fun _ _ h => h, fun n y h => by
                rw [List.getElem?_append_left (List.getElem?_eq_some_iff.mp h).1]; exact h⟩
            have hl2 : (S1.take S.length).length = S.length := by simp; omega
            refine ⟨ι ++ [(a, o.kd)], ⟨?_, ?_, fun i u e => ?_⟩, ?_, x2⟩
            · rw [List.length_append, List.length_append, hl2, R.len]
              rfl
            · rw [List.map_append, List.nodup_append]
              refine ⟨R.nd, by simp, fun b hb c hc => ?_⟩
              simp at hc
              subst hc
              obtain ⟨p, hp, rfl⟩ := List.mem_map.mp hb
              exact han p hp
            · have ro : ∀ {b : Addr} {w : Ob}, RO K Gd H1 (ι1.take S.length) b w → RO K Gd H1 (ι ++ [(a, o.kd)]) b w := fun {b w} h => by
                cases w with
                | lst ds => obtain ⟨vs, h3, h4⟩ := h; exact ⟨vs, h3, h4.keep kp⟩
                | dct ds => obtain ⟨vs, h3, h4⟩ := h; exact ⟨vs, h3, h4.keep kp⟩
              have e : (S1.take S.length ++ [o])[i]? = some u := e
              by_cases hi : i < S.length
              · rw [List.getElem?_append_left (by omega)] at e
                obtain ⟨b, h3, h4⟩ := Rc.ob i u e
                exact ⟨b, kp.loc _ _ h3, ro h4⟩
              · have hi2 : i = S.length := by
                  have := (List.getElem?_eq_some_iff.mp e).1
                  rw [List.length_append, hl2] at this
                  simp at this
                  omega
                subst hi2
                rw [List.getElem?_append_right (by omega), hl2] at e
                simp at e
                subst e
                exact ⟨a, by rw [← R.len]; simp, ro (h2.cut hcut hc1)⟩
            · refine .loc ?_
              rw [← hc3, ← R.len]
              simp
          · have e : gc0 S (.loc k m, S1) = (.loc k m, S1) := by
              unfold gc0
              rw [if_pos (show oldOk S.length S (D.loc k m, S1).2 = true from ho), if_neg (show ¬ D.under S.length (D.loc k m, S1).1 = true from hd)]
              simp only [q]
              rw [if_neg hc]
            rw [e]
            exact keep
      · have e : gc0 S (d, S1) = (d, S1) := by
          unfold gc0
          rw [if_pos (show oldOk S.length S (d, S1).2 = true from ho), if_neg (show ¬ D.under S.length (d, S1).1 = true from hd)]
          cases d with
          | loc k m => exact absurd ⟨k, m, rfl⟩ hk
          | _ => rfl
        rw [e]
        exact keep
  · have e : gc0 S (d, S1) = (d, S1) := by simp [gc0, ho]
    rw [e]
    exact keep

theorem gc_ok {S1 : Sto} {ι1 : Loc} {H1 : Hp} (R : Rel K Gd H ι S) (R1 : Rel K Gd H1 ι1 S1) (r : RD K Gd H1 ι1 d v) (x : Ext H ι H1 ι1) :
    ∃ ι2, Rel K Gd H1 ι2 (gc S (d, S1)).2 ∧ RD K Gd H1 ι2 (gc S (d, S1)).1 v ∧ Ext H ι H1 ι2 := by
  unfold gc
  split
  · exact ⟨ι1, R1, r, x⟩
  · exact gc0_ok R R1 r x

/-- what is wanted behind an expression -/
def Post (K : PySem.W.Frag) (Gd : Str → Addr → Prop) (H : Hp) (ι : Loc) (r : D × Sto) (Q : VK) : Prop :=
  ∀ v H' ι', Rel K Gd H' ι' r.2 → RD K Gd H' ι' r.1 v → Ext H ι H' ι' → Q v H'
theorem Post.gc {r : D × Sto} {Q : VK} (R : Rel K Gd H ι S) (h : Post K Gd H ι (gc S r) Q) : Post K Gd H ι r Q := fun v H' ι' R' r' x => by
  obtain ⟨ι2, h1, h2, h3⟩ := gc_ok R R' r' x
  exact h v H' ι2 h1 h2 h3
theorem Post.step {r : D × Sto} {Q : VK} (x : Ext H ι H' ι') (h : Post K Gd H ι r Q) : Post K Gd H' ι' r Q := fun v H2 ι2 R2 r2 x2 => h v H2 ι2 R2 r2 (x.trans x2)
end
end CV

set_option Elab.async false
set_option linter.all false
set_option maxRecDepth 100000
set_option maxHeartbeats 4000000
/-! CvV: the evaluator's operations on values are the model's. -/
namespace CV
open PySem PySem.Spec PyProof.Rows L2

section
variable {X : Cx} {Gd : Str → Addr → Prop} {H : Hp} {ι : Loc} {S : Sto} {K : PySem.W.Frag}

theorem strGood_len {s : Str} (h : strGood s = true) : s.length ≤ sizeLine := by
  rw [← cap_eq]
  unfold strGood at h
  simp only [Bool.and_eq_true, decide_eq_true_eq] at h
  exact h.1
theorem strGood_ok {s : Str} (h : strGood s = true) : PyData.strOk s = true := by
  unfold strGood at h
  simp only [Bool.and_eq_true] at h
  exact h.2
theorem strGood_mk {s : Str} (h1 : s.length ≤ cap) (h2 : ∀ c ∈ s.cps.toList, c < 0x110000) : strGood s = true := by
  unfold strGood PyData.strOk
  simp only [Bool.and_eq_true, decide_eq_true_eq]
  refine ⟨h1, ?_⟩
  rw [Array.all_eq_true']
  intro c hc
  exact decide_eq_true (h2 c (by simpa using hc))
theorem strGood_cps {s : Str} (h : strGood s = true) : ∀ c ∈ s.cps.toList, c < 0x110000 := fun c hc => by
  have h2 := strGood_ok h
  unfold PyData.strOk at h2
  rw [Array.all_eq_true'] at h2
  exact of_decide_eq_true (h2 c (by simpa using hc))
theorem length_cps (s : Str) : s.cps.toList.length = s.length := by simp [Str.length]
theorem strGood_app {x y : Str} (hx : strGood x = true) (hy : strGood y = true) (h : x.length + y.length ≤ cap) : strGood (x ++ y) = true := by
  have e : (x ++ y).cps = x.cps ++ y.cps := rfl
  refine strGood_mk ?_ fun c hc => ?_
  · show (x ++ y).cps.size ≤ cap
    rw [e, Array.size_append]
    exact h
  · rw [e, Array.toList_append] at hc
    rcases List.mem_append.mp hc with h | h
    · exact strGood_cps hx c h
    · exact strGood_cps hy c h

theorem Post.at_ {r : D × Sto} {Q : VK} {v : V} (h : Post K Gd H ι r Q) (R : Rel K Gd H ι r.2) (d : RD K Gd H ι r.1 v) : Q v H := h v H ι R d Ext.refl
/-- a new object that the store needn't know: a tuple -/
theorem Post.tup {Q : VK} {ds : List D} {vs : List V} (h : Post K Gd H ι (.tup ds, S) Q) (R : Rel K Gd H ι S) (d : RDs K Gd H ι ds vs) : ∀ p, H p = none → Q (.ref p) (upd H p (.tup vs)) := fun p hp =>
  h _ _ ι (R.fresh hp) (.tup (.of upd_same) (d.keep ((Ext.fresh hp).keeps R))) (Ext.fresh hp)
/-- a new list -/
theorem Post.lst {Q : VK} {ds : List D} {vs : List V} (h : Post K Gd H ι (.loc .lst S.length, S ++ [.lst ds]) Q) (R : Rel K Gd H ι S) (d : RDs K Gd H ι ds vs) : ∀ p, H p = none → Q (.ref p) (upd H p (.lst vs)) := fun p hp =>
  h _ _ (ι ++ [(p, .lst)]) (R.alloc (ob := .lst ds) hp ⟨vs, upd_same, d.keep ((Ext.alloc hp).keeps R)⟩) (.loc (by rw [← R.len]; simp)) (Ext.alloc hp)

theorem Rel.lst_at (R : Rel K Gd H ι S) {n : Nat} {a : Addr} {xs : List D} (e : S[n]? = some (.lst xs)) (h : ι[n]? = some (a, .lst)) : ∃ vs, H a = some (.lst vs) ∧ RDs K Gd H ι xs vs := by
  obtain ⟨b, h1, h2⟩ := R.ob n _ e
  rw [h] at h1
  cases h1
  exact h2
theorem Rel.dct_at (R : Rel K Gd H ι S) {n : Nat} {a : Addr} {xs : List (Key × D)} (e : S[n]? = some (.dct xs)) (h : ι[n]? = some (a, .dct)) : ∃ vs, H a = some (.dK vs) ∧ RKv K Gd H ι xs vs := by
  obtain ⟨b, h1, h2⟩ := R.ob n _ e
  rw [h] at h1
  cases h1
  exact h2
/-- the written list -/
theorem Post.wlst {Q : VK} {n : Nat} {a : Addr} {ds : List D} {vs : List V} {d : D} {v : V} (h : Post K Gd H ι (d, S.set n (.lst ds)) Q) (R : Rel K Gd H ι S) (e : ι[n]? = some (a, .lst)) (hH : H a ≠ none)
    (r : RDs K Gd H ι ds vs) (rd : RD K Gd H ι d v) : Q v (upd H a (.lst vs)) := by
  have x : Ext H ι (upd H a (.lst vs)) ι := Ext.write e hH
  exact h _ _ ι (R.write (ob := .lst ds) e hH ⟨vs, upd_same, r.keep (x.keeps R)⟩) (rd.keep (x.keeps R)) x

def rB (K : PySem.W.Frag) (Gd : Str → Addr → Prop) (f : D → D → Sto → Option (D × Sto)) : R2 := fun x y H Q =>
  ∃ ι S a b r, Rel K Gd H ι S ∧ RD K Gd H ι a x ∧ RD K Gd H ι b y ∧ f a b S = some r ∧ Post K Gd H ι r Q

def bopO : Bop → Operator
  | .add => .Add
  | .sub => .Sub
  | .mul => .Mult
  | .fdiv => .FloorDiv
  | .mod => .Mod
  | .pow => .Pow
theorem bopC_eq {o : Operator} {b : Bop} (h : bopC o = some b) : bopO b = o := by
  cases o <;> simp [bopC] at h <;> subst h <;> rfl

/-- text times number -/
theorem mul_ok {x : Str} {n : Int} (h1 : -(2 ^ 63) ≤ n) (h2 : n < 2 ^ 63) (h3 : x.length * n.toNat ≤ cap) : MulOk x n := by
  refine ⟨?_, fun h hc => ?_, fun h hc => ?_⟩
  · have e1 : ¬ n < -(2 ^ 63 : Int) := by omega
    have e2 : ¬ n ≥ 2 ^ 63 := by omega
    rw [decide_eq_false e1, decide_eq_false e2]
    rfl
  · have hn : 0 < n := by omega
    have h4 : (x.length : Int) * n ≤ cap := by
      have : ((x.length * n.toNat : Nat) : Int) ≤ (cap : Int) := by exact_mod_cast h3
      have e : (n.toNat : Int) = n := Int.toNat_of_nonneg (by omega)
      rw [Int.natCast_mul, e] at this
      exact this
    have h5 : (x.length : Int) ≤ (2 ^ 63 - 1) / n := by
      rw [Int.le_ediv_iff_mul_le hn]
      have : (cap : Int) = 16777216 := rfl
      omega
    omega
  · unfold Builtin.Str.tooLong
    have : cap = sizeLine := cap_eq
    simp
    omega
theorem mul_good {x : Str} {n : Int} (h : strGood x = true) (h3 : x.length * n.toNat ≤ cap) : strGood (Txt.mul x n) = true := by
  unfold Txt.mul
  split
  · exact strGood_mk (by show (#[] : Array Nat).size ≤ cap; exact Nat.zero_le _) fun c hc => by simp [Str.empty] at hc
  · split
    · exact h
    · have e : ∀ k : Nat, ((List.replicate k x.cps).foldl (· ++ ·) #[]).toList = (List.replicate k x.cps.toList).flatten := fun k => by
        have gen : ∀ (k : Nat) (acc : Array Nat), ((List.replicate k x.cps).foldl (· ++ ·) acc).toList = acc.toList ++ (List.replicate k x.cps.toList).flatten := fun k => by
          induction k with
          | zero => intro acc; simp
          | succ k ih => intro acc; rw [List.replicate_succ, List.foldl_cons, ih, List.replicate_succ, List.flatten_cons, Array.toList_append, List.append_assoc]
        simpa using gen k #[]
      refine strGood_mk ?_ fun c hc => ?_
      · show ((List.replicate n.toNat x.cps).foldl (· ++ ·) #[]).size ≤ cap
        rw [← Array.length_toList, e]
        rw [List.length_flatten, List.map_replicate, List.sum_replicate_nat, length_cps, Nat.mul_comm]
        exact h3
      · have hc' : c ∈ (List.replicate n.toNat x.cps.toList).flatten := by rw [← e]; exact hc
        obtain ⟨l, hl, hc2⟩ := List.mem_flatten.mp hc'
        rw [(List.mem_replicate.mp hl).2] at hc2
        exact strGood_cps h c hc2

theorem opB (op : Bop) : OpR X (binaryOp (bopO op)) (rB X.K Gd (binD op)) := by
  intro pins s σ H x y v u Q I rx ry h
  obtain ⟨ι, S, a, b, r, R, ra, rb, e, q⟩ := h
  have hcs : cap = sizeLine := cap_eq
  cases op with
  | add =>
    cases ra with
    | int i =>
      cases rb <;> simp [binD] at e
      subst e
      exact op_add pins s σ H _ _ v u Q I rx ry ⟨_, _, rfl, rfl, q.at_ R (.int _)⟩
    | str hi =>
      cases rb <;> simp [binD] at e
      rename_i hj
      obtain ⟨hl, e⟩ := e
      subst e
      exact op_add_str pins s σ H _ _ v u Q I rx ry ⟨_, _, rfl, rfl, by omega, q.at_ R (.str (strGood_app hi hj hl))⟩
    | tup ha ta =>
      cases rb <;> simp [binD] at e
      rename_i hb tb
      obtain ⟨hl, e⟩ := e
      subst e
      have hl1 := ta.length
      have hl2 := tb.length
      refine op_catA pins s σ H _ _ v u Q I rx ry ⟨_, _, _, _, rfl, rfl, ha, hb, by omega, fun e1 => ?_, fun _ e2 => ?_, fun _ _ => ?_⟩
      · subst e1
        cases ta
        exact q.at_ R (.tup hb tb)
      · subst e2
        cases tb
        exact q.at_ R (.tup ha (by rw [List.append_nil]; exact ta))
      · exact q.tup R (ta.append tb)
    | loc ha =>
      rename_i k n a
      cases k <;> cases rb <;> simp [binD] at e
      rename_i k m b hb
      cases k <;> simp [binD] at e
      split at e <;> simp at e
      rename_i xs ys e1 e2
      obtain ⟨hl, e⟩ := e
      subst e
      obtain ⟨vs, h1, h2⟩ := R.lst_at e1 ha
      obtain ⟨us, h3, h4⟩ := R.lst_at e2 hb
      have hl1 := h2.length
      have hl2 := h4.length
      exact op_cat pins s σ H _ _ v u Q I rx ry ⟨_, _, _, _, rfl, rfl, h1, h3, by omega, q.lst R (h2.append h4)⟩
    | _ => simp [binD] at e
  | sub =>
    cases ra <;> cases rb <;> simp [binD] at e
    subst e
    exact op_sub pins s σ H _ _ v u Q I rx ry ⟨_, _, rfl, rfl, q.at_ R (.int _)⟩
  | mul =>
    cases ra with
    | int i =>
      cases rb <;> simp [binD] at e
      obtain ⟨hc, e⟩ := e
      subst e
      exact op_mul pins s σ H _ _ v u Q I rx ry ⟨_, _, rfl, rfl, by unfold CMul; omega, q.at_ R (.int _)⟩
    | tup ha ta =>
      cases rb <;> simp [binD] at e
      obtain ⟨hc, e⟩ := e
      subst e
      have hl1 := ta.length
      refine op_repT pins s σ H _ _ v u Q I rx ry ⟨_, _, _, rfl, rfl, ha, ?_, by omega, by omega, by omega, q.tup R (ta.rep _)⟩
      intro z
      subst z
      cases ta
      simp at hc
    | loc ha =>
      rename_i k n a
      cases k <;> cases rb <;> simp [binD] at e
      split at e <;> simp at e
      rename_i xs e1
      obtain ⟨hc, e⟩ := e
      subst e
      obtain ⟨vs, h1, h2⟩ := R.lst_at e1 ha
      have hl1 := h2.length
      exact op_rep pins s σ H _ _ v u Q I rx ry ⟨_, _, _, rfl, rfl, h1, by omega, by omega, by rw [← hl1]; omega, q.lst R (h2.rep _)⟩
    | str hi =>
      cases rb <;> simp [binD] at e
      rename_i k
      obtain ⟨hc, e⟩ := e
      subst e
      obtain ⟨t, rfl⟩ := (show ∃ t, v = Value.str _ t from rx)
      obtain ⟨t', rfl⟩ := (show ∃ t, u = Value.int k t from ry)
      refine SB.mul (mul_ok (by omega) (by omega) hc.2) fun t2 tk => ?_
      exact ⟨.str _, H, I.tok _, ⟨_, rfl⟩, q.at_ R (.str (mul_good hi hc.2))⟩
    | _ => simp [binD] at e
  | fdiv =>
    cases ra <;> cases rb <;> simp [binD] at e
    obtain ⟨hc, e⟩ := e
    subst e
    exact op_fdiv pins s σ H _ _ v u Q I rx ry ⟨_, _, rfl, rfl, hc, q.at_ R (.int _)⟩
  | mod =>
    cases ra <;> cases rb <;> simp [binD] at e
    obtain ⟨hc, e⟩ := e
    subst e
    exact op_mod pins s σ H _ _ v u Q I rx ry ⟨_, _, rfl, rfl, hc, q.at_ R (.int _)⟩
  | pow =>
    cases ra <;> cases rb <;> simp [binD] at e
    obtain ⟨hc, e⟩ := e
    subst e
    exact op_pow pins s σ H _ _ v u Q I rx ry ⟨_, _, rfl, rfl, ⟨hc.1.1, hc.1.2, by simpa using hc.2⟩, q.at_ R (.int _)⟩

/-! ### == and in -/
theorem mapO_some {α β : Type} {f : α → Option β} : ∀ {xs : List α} {ys : List β}, mapO f xs = some ys → xs.length = ys.length ∧ ∀ (i : Nat) (x : α), xs[i]? = some x → ∃ y, ys[i]? = some y ∧ f x = some y
  | [], ys, h => by simp [mapO] at h; subst h; exact ⟨rfl, fun i x h => by simp at h⟩
  | x :: xs, ys, h => by
    simp only [mapO] at h
    split at h <;> try cases h
    rename_i y e
    split at h <;> cases h
    rename_i zs e2
    obtain ⟨h1, h2⟩ := mapO_some e2
    refine ⟨by simp [h1], fun i z hz => ?_⟩
    cases i with
    | zero => simp at hz; subst hz; exact ⟨y, rfl, e⟩
    | succ i => simp only [List.getElem?_cons_succ] at hz ⊢; exact h2 i z hz
theorem seqs_ok {f : D → Option PyData} {k : Nat} (hf : ∀ d v p, RD K Gd H ι d v → f d = some p → Dp K H v p ∧ p.canLay0 = true ∧ p.depth ≤ k) :
    ∀ {ds : List D} {vs : List V} {ps : List PyData}, RDs K Gd H ι ds vs → mapO f ds = some ps → DpAll K H vs ps ∧ PyData.canLayAll0 ps = true ∧ PyData.depthAll ps ≤ k
  | _, _, ps, .nil, h => by
    simp [mapO] at h
    subst h
    exact ⟨.nil, by simp [PyData.canLayAll0], by simp [PyData.depthAll]⟩
  | _, _, ps, .cons h t, e => by
    simp only [mapO] at e
    split at e <;> try cases e
    rename_i y e1
    split at e <;> cases e
    rename_i zs e2
    obtain ⟨a1, a2, a3⟩ := hf _ _ _ h e1
    obtain ⟨b1, b2, b3⟩ := seqs_ok hf t e2
    refine ⟨.cons a1 b1, by simp [PyData.canLayAll0, a2, b2], ?_⟩
    simp only [PyData.depthAll]
    omega
theorem ints_dp : ∀ ns : List Int, DpAll K H (ns.map V.int) (ns.map PyData.int) ∧ PyData.canLayAll0 (ns.map PyData.int) = true ∧ PyData.depthAll (ns.map PyData.int) ≤ 0
  | [] => ⟨.nil, by simp [PyData.canLayAll0], by simp [PyData.depthAll]⟩
  | n :: ns => by
    obtain ⟨h1, h2, h3⟩ := ints_dp ns
    refine ⟨.cons (.int n) h1, by simp [PyData.canLayAll0, PyData.canLay0, h2], ?_⟩
    simp only [List.map_cons, PyData.depthAll, PyData.depth]
    omega
theorem pd_ok (R : Rel K Gd H ι S) : ∀ (k : Nat) (d : D) (v : V) (p : PyData), RD K Gd H ι d v → pd S k d = some p → Dp K H v p ∧ p.canLay0 = true ∧ p.depth ≤ k
  | k, d, v, p, r, h => by
    cases r with
    | non => cases k <;> (simp [pd] at h; subst h; exact ⟨.non, by simp [PyData.canLay0], by simp [PyData.depth]⟩)
    | bl b => cases k <;> (simp [pd] at h; subst h; exact ⟨.bl b, by simp [PyData.canLay0], by simp [PyData.depth]⟩)
    | int b => cases k <;> (simp [pd] at h; subst h; exact ⟨.int b, by simp [PyData.canLay0], by simp [PyData.depth]⟩)
    | str hs => cases k <;> (simp [pd] at h; subst h; exact ⟨.str _, by simp [PyData.canLay0, strGood_ok hs], by simp [PyData.depth]⟩)
    | tup ht hr =>
      cases k with
      | zero => simp [pd] at h
      | succ k =>
        simp only [pd, Option.map_eq_some_iff] at h
        obtain ⟨ps, e, rfl⟩ := h
        obtain ⟨a1, a2, a3⟩ := seqs_ok (fun d v p => pd_ok R k d v p) hr e
        exact ⟨.tup ht a1, by simp [PyData.canLay0, a2], by simp only [PyData.depth]; omega⟩
    | loc hl =>
      rename_i kd n a
      cases k with
      | zero => simp [pd] at h
      | succ k =>
        cases kd with
        | dct => simp [pd] at h
        | lst =>
          simp only [pd] at h
          split at h <;> try cases h
          rename_i xs e0
          simp only [Option.map_eq_some_iff] at h
          obtain ⟨ps, e, rfl⟩ := h
          obtain ⟨vs, h1, h2⟩ := R.lst_at e0 hl
          obtain ⟨a1, a2, a3⟩ := seqs_ok (fun d v p => pd_ok R k d v p) h2 e
          exact ⟨.lst (.of h1) a1, by simp [PyData.canLay0, a2], by simp only [PyData.depth]; omega⟩
    | scr hs =>
      cases k with
      | zero => simp [pd] at h
      | succ k =>
        simp only [pd, Option.some.injEq] at h
        subst h
        obtain ⟨a1, a2, a3⟩ := ints_dp (K := K) (H := H) _
        exact ⟨.lst hs.sq a1, by simp [PyData.canLay0, a2], by simp only [PyData.depth]; omega⟩
    | gd hg => cases k <;> simp [pd] at h
theorem scal_dp {d : D} {v : V} (r : RD K Gd H ι d v) (h : d.scal = true) : ∃ p, Dp K H v p ∧ p.canLay0 = true ∧ p.depth = 0 ∧ ∀ S k, pd S k d = some p := by
  cases r with
  | non => exact ⟨_, .non, by simp [PyData.canLay0], by simp [PyData.depth], fun S k => by cases k <;> rfl⟩
  | bl b => exact ⟨_, .bl b, by simp [PyData.canLay0], by simp [PyData.depth], fun S k => by cases k <;> rfl⟩
  | int b => exact ⟨_, .int b, by simp [PyData.canLay0], by simp [PyData.depth], fun S k => by cases k <;> rfl⟩
  | str hs => exact ⟨_, .str _, by simp [PyData.canLay0, strGood_ok hs], by simp [PyData.depth], fun S k => by cases k <;> rfl⟩
  | _ => simp [D.scal] at h
theorem eqS_eq {a b : D} {x y : PyData} (ha : a.scal = true) (hb : b.scal = true) (h1 : pd S 60 a = some x) (h2 : pd S 60 b = some y) : eqS a b = PyData.eqv x y := by
  cases a <;> simp [D.scal] at ha <;> cases b <;> simp [D.scal] at hb <;> simp [pd] at h1 h2 <;> subst h1 <;> subst h2 <;> simp [eqS, PyData.eqv]

/-- lists and tuples as the model has them -/
theorem seq_at {pins : List (Addr × Obj)} {s : Shared} {σ : L2.St} {d : D} {v : V} {u : Value} (I : Inv X pins σ H s) (r : RD X.K Gd H ι d v) (R : Rel X.K Gd H ι S) (hd : d.seq = true) (rv : RelV v u) :
    ∃ (a : Addr) (items : Array Value), u = .ref a ∧ (s.heap.IsList a items ∨ s.heap.IsTuple a items) := by
  cases r with
  | tup ht hr =>
    cases rv
    obtain ⟨its, _, p, _⟩ := I.tuple ht
    exact ⟨_, _, rfl, .inr p⟩
  | loc hl =>
    rename_i k n a
    cases k with
    | dct => simp [D.seq] at hd
    | lst =>
      cases rv
      obtain ⟨o, e, h1, h2⟩ := R.at_ hl
      cases o with
      | dct kvs => cases h1
      | lst xs =>
        obtain ⟨vs, h3, _⟩ := h2
        obtain ⟨its, _, p, _⟩ := I.list (.of h3)
        exact ⟨_, _, rfl, .inl p.isList⟩
  | scr hs =>
    cases rv
    obtain ⟨its, _, p, _⟩ := I.list hs.sq
    exact ⟨_, _, rfl, .inl p.isList⟩
  | _ => simp [D.seq] at hd

def rC (K : PySem.W.Frag) (Gd : Str → Addr → Prop) (f : D → D → Sto → Option Bool) : R2 := fun x y H Q =>
  ∃ ι S a b k, Rel K Gd H ι S ∧ RD K Gd H ι a x ∧ RD K Gd H ι b y ∧ f a b S = some k ∧ Q (.bl k) H

theorem op_eqC (hu : X.A.units + 64 < cLine) : OpR X (compareOp .Eq) (rC X.K Gd fun a b S => eqD S a b) := by
  intro pins s σ H x y v u Q I rx ry h
  obtain ⟨ι, S, a, b, k, R, ra, rb, e, q⟩ := h
  have data : ∀ p r, pd S 60 a = some p → pd S 60 b = some r → Q (.bl (PyData.eqv p r)) H → wpAny (model X.prog X.w) X.A (compareOp .Eq v u) (EP X pins σ Q) X.xe s := fun p r e1 e2 q => by
    obtain ⟨a1, a2, a3⟩ := pd_ok R 60 a x p ra e1
    obtain ⟨b1, b2, b3⟩ := pd_ok R 60 b y r rb e2
    obtain ⟨as, r1⟩ := Dp.reads I p x v a1 rx
    obtain ⟨bs, r2⟩ := Dp.reads I r y u b1 ry
    exact SeqAt.compareEq_reads r1 r2 a2 b2 (by omega) ⟨.bl _, H, I, rfl, q⟩
  simp only [eqD] at e
  split at e
  · rename_i hs
    simp only [Bool.and_eq_true] at hs
    cases e
    obtain ⟨p, _, _, _, e1⟩ := scal_dp ra hs.1
    obtain ⟨r, _, _, _, e2⟩ := scal_dp rb hs.2
    rw [eqS_eq hs.1 hs.2 (e1 S 60) (e2 S 60)] at q
    exact data p r (e1 S 60) (e2 S 60) q
  · split at e
    · rename_i hs
      cases e
      simp only [Bool.or_eq_true, Bool.and_eq_true] at hs
      have fin : EP X pins σ Q (.bool false) s := ⟨.bl false, H, I, rfl, q⟩
      have hu' : X.A.units < cLine := by omega
      rcases hs with ⟨h1, h2⟩ | ⟨h1, h2⟩
      · obtain ⟨l, items, rfl, hl⟩ := seq_at I rb R h2 ry
        rcases hl with hl | hl
        · cases ra with
          | non => cases rx; exact SeqAt.RcAt.none_list hl hu' _ _ _ _ fin
          | bl b => cases rx; exact SeqAt.RcAt.bool_list b hl hu' _ _ _ _ fin
          | int b => obtain ⟨t, rfl⟩ := rx; exact SeqAt.RcAt.int_list b t hl hu' _ _ _ _ fin
          | str hs => obtain ⟨t, rfl⟩ := rx; exact SeqAt.RcAt.str_list _ t hl hu' _ _ _ _ fin
          | _ => simp [D.scal] at h1
        · cases ra with
          | non => cases rx; exact SeqAt.RcAt.none_tuple hl hu' _ _ _ _ fin
          | bl b => cases rx; exact SeqAt.RcAt.bool_tuple b hl hu' _ _ _ _ fin
          | int b => obtain ⟨t, rfl⟩ := rx; exact SeqAt.RcAt.int_tuple b t hl hu' _ _ _ _ fin
          | str hs => obtain ⟨t, rfl⟩ := rx; exact SeqAt.RcAt.str_tuple _ t hl hu' _ _ _ _ fin
          | _ => simp [D.scal] at h1
      · obtain ⟨l, items, rfl, hl⟩ := seq_at I ra R h1 rx
        rcases hl with hl | hl
        · cases rb with
          | non => cases ry; exact SeqAt.RcAt.list_none hl hu' _ _ _ _ fin
          | bl b => cases ry; exact SeqAt.RcAt.list_bool b hl hu' _ _ _ _ fin
          | int b => obtain ⟨t, rfl⟩ := ry; exact SeqAt.RcAt.list_int b t hl hu' _ _ _ _ fin
          | str hs => obtain ⟨t, rfl⟩ := ry; exact SeqAt.RcAt.list_str _ t hl hu' _ _ _ _ fin
          | _ => simp [D.scal] at h2
        · cases rb with
          | non => cases ry; exact SeqAt.RcAt.tuple_none hl hu' _ _ _ _ fin
          | bl b => cases ry; exact SeqAt.RcAt.tuple_bool b hl hu' _ _ _ _ fin
          | int b => obtain ⟨t, rfl⟩ := ry; exact SeqAt.RcAt.tuple_int b t hl hu' _ _ _ _ fin
          | str hs => obtain ⟨t, rfl⟩ := ry; exact SeqAt.RcAt.tuple_str _ t hl hu' _ _ _ _ fin
          | _ => simp [D.scal] at h2
    · split at e <;> cases e
      rename_i e1 e2
      exact data _ _ e1 e2 q
theorem op_neC (hu : X.A.units + 64 < cLine) : OpR X (compareOp .NotEq) (rC X.K Gd fun a b S => neD S a b) := by
  intro pins s σ H x y v u Q I rx ry h
  obtain ⟨ι, S, a, b, k, R, ra, rb, e, q⟩ := h
  have data : ∀ p r, pd S 60 a = some p → pd S 60 b = some r → Q (.bl (!PyData.eqv p r)) H → wpAny (model X.prog X.w) X.A (compareOp .NotEq v u) (EP X pins σ Q) X.xe s := fun p r e1 e2 q => by
    obtain ⟨a1, a2, a3⟩ := pd_ok R 60 a x p ra e1
    obtain ⟨b1, b2, b3⟩ := pd_ok R 60 b y r rb e2
    obtain ⟨as, r1⟩ := Dp.reads I p x v a1 rx
    obtain ⟨bs, r2⟩ := Dp.reads I r y u b1 ry
    exact SeqAt.compareNe_reads r1 r2 a2 b2 (by omega) ⟨.bl _, H, I, rfl, q⟩
  simp only [neD] at e
  split at e
  · rename_i hs
    simp only [Bool.and_eq_true] at hs
    cases e
    obtain ⟨p, _, _, _, e1⟩ := scal_dp ra hs.1
    obtain ⟨r, _, _, _, e2⟩ := scal_dp rb hs.2
    rw [eqS_eq hs.1 hs.2 (e1 S 60) (e2 S 60)] at q
    exact data p r (e1 S 60) (e2 S 60) q
  · split at e <;> cases e
    rename_i e1 e2
    exact data _ _ e1 e2 q

/-! ### in -/
theorem seqOf_rd {d : D} {v : V} {xs : List D} (R : Rel K Gd H ι S) (r : RD K Gd H ι d v) (e : seqOf S d = some xs) :
    ∃ a vs, v = .ref a ∧ RDs K Gd H ι xs vs ∧ (SqL K H a vs ∨ SqT K H a vs) := by
  cases r with
  | tup h t => simp [seqOf] at e; subst e; exact ⟨_, _, rfl, t, .inr h⟩
  | loc hl =>
    rename_i k n a
    cases k with
    | dct => simp [seqOf] at e
    | lst =>
      simp only [seqOf] at e
      split at e <;> cases e
      rename_i e0
      obtain ⟨vs, h1, h2⟩ := R.lst_at e0 hl
      exact ⟨a, vs, rfl, h2, .inl (.of h1)⟩
  | scr hs => simp [seqOf] at e; subst e; exact ⟨_, _, rfl, RDs.ints, .inl hs.sq⟩
  | _ => simp [seqOf] at e
theorem lstOf_rd {d : D} {v : V} {xs : List D} (R : Rel K Gd H ι S) (r : RD K Gd H ι d v) (e : lstOf S d = some xs) :
    ∃ a vs, v = .ref a ∧ RDs K Gd H ι xs vs ∧ SqL K H a vs := by
  cases r with
  | loc hl =>
    rename_i k n a
    cases k with
    | dct => simp [lstOf] at e
    | lst =>
      simp only [lstOf] at e
      split at e <;> cases e
      rename_i e0
      obtain ⟨vs, h1, h2⟩ := R.lst_at e0 hl
      exact ⟨a, vs, rfl, h2, .of h1⟩
  | scr hs => simp [lstOf] at e; subst e; exact ⟨_, _, rfl, RDs.ints, hs.sq⟩
  | _ => simp [lstOf] at e

theorem scal_pds {ds : List D} {vs : List V} (r : RDs K Gd H ι ds vs) (h : ds.all D.scal = true) : ∃ ps, (∀ S k, mapO (pd S k) ds = some ps) ∧ PyData.depthAll ps = 0 := by
  induction ds generalizing vs with
  | nil => exact ⟨[], fun _ _ => rfl, by simp [PyData.depthAll]⟩
  | cons d ds ih =>
    cases r with
    | cons h1 t1 =>
      simp only [List.all_cons, Bool.and_eq_true] at h
      obtain ⟨p, _, _, e0, e1⟩ := scal_dp h1 h.1
      obtain ⟨ps, e2, e3⟩ := ih t1 h.2
      refine ⟨p :: ps, fun S k => by simp [mapO, e1, e2], ?_⟩
      simp only [PyData.depthAll, e0, e3]
      rfl
theorem any_eqS {x : D} {p : PyData} (hx : x.scal = true) (e1 : pd S 60 x = some p) : ∀ {ds : List D} {ps : List PyData}, ds.all D.scal = true → mapO (pd S 60) ds = some ps → (ds.any fun y => eqS y x) = ps.any fun y => PyData.eqv y p
  | [], ps, _, e => by simp [mapO] at e; subst e; rfl
  | d :: ds, ps, h, e => by
    simp only [List.all_cons, Bool.and_eq_true] at h
    simp only [mapO] at e
    split at e <;> try cases e
    rename_i y e2
    split at e <;> cases e
    rename_i zs e3
    rw [List.any_cons, List.any_cons, any_eqS hx e1 h.2 e3, eqS_eq h.1 hx e2 e1]
/-- whether what a list holds is a flat thing: never the walked list or tuple -/
theorem flat_eqAt {A : Around} {pins : List (Addr × Obj)} {s : Shared} {σ : L2.St} {d y : D} {v z : V} {u w' : Value} (I : Inv X pins σ H s) (R : Rel X.K Gd H ι S) (r : RD X.K Gd H ι d v) (hd : d.seq = true) (rv : RelV v u)
    (ry : RD X.K Gd H ι y z) (hy : y.scal = true) (rz : RelV z w') (hu : A.units < cLine) : SeqAt.EqAt A s w' u false := by
  obtain ⟨l, items, rfl, hl⟩ := seq_at I r R hd rv
  rcases hl with hl | hl
  · cases ry with
    | non => cases rz; exact SeqAt.EqAt.none_list hl hu
    | bl b => cases rz; exact SeqAt.EqAt.bool_list b hl hu
    | int b => obtain ⟨t, rfl⟩ := rz; exact SeqAt.EqAt.int_list b t hl hu
    | str hs => obtain ⟨t, rfl⟩ := rz; exact SeqAt.EqAt.str_list _ t hl hu
    | _ => simp [D.scal] at hy
  · cases ry with
    | non => cases rz; exact SeqAt.EqAt.none_tuple hl hu
    | bl b => cases rz; exact SeqAt.EqAt.bool_tuple b hl hu
    | int b => obtain ⟨t, rfl⟩ := rz; exact SeqAt.EqAt.int_tuple b t hl hu
    | str hs => obtain ⟨t, rfl⟩ := rz; exact SeqAt.EqAt.str_tuple _ t hl hu
    | _ => simp [D.scal] at hy

/-- what is known of the module's constant dicts -/
structure GdOk (K : PySem.W.Frag) (w : World) (Gd : Str → Addr → Prop) (g : Cst) : Prop where
  ok : ∀ x a, Gd x a → ∃ (es : Array DictEntry) (n : Nat), KDict K w a es n ∧ ∀ kvs, g.gds.lookup x = some kvs → ∀ z : Str, ∃ r, PySem.W.nsIn K a z = some r ∧
    ((valD kvs (.inr z) = none ∧ r = none) ∨ ∃ d v u, valD kvs (.inr z) = some d ∧ r = some u ∧ RelV v u ∧ ∀ H ι, RD K Gd H ι d v)

theorem RKv.val (k : Key) : ∀ {ds : List (Key × D)} {vs : List (Key × V)}, RKv K Gd H ι ds vs → (valD ds k = none ∧ valV vs k = none) ∨ ∃ d v, valD ds k = some d ∧ valV vs k = some v ∧ RD K Gd H ι d v
  | _, _, .nil => .inl ⟨rfl, rfl⟩
  | (l, d) :: ds, (_, v) :: vs, .cons h t => by
    by_cases e : l = k
    · refine .inr ⟨d, v, ?_, ?_, h⟩
      · simp [valD, List.find?_cons, e]
      · exact valV_pos e
    · have e1 : valD ((l, d) :: ds) k = valD ds k := by simp [valD, List.find?_cons, e]
      have e2 : valV ((l, v) :: vs) k = valV vs k := valV_neg e
      rw [e1, e2]
      exact RKv.val k t
theorem RKv.length : ∀ {ds : List (Key × D)} {vs : List (Key × V)}, RKv K Gd H ι ds vs → ds.length = vs.length
  | _, _, .nil => rfl
  | _, _, .cons _ t => congrArg (· + 1) (RKv.length t)
theorem RKv.any (k : Key) : ∀ {ds : List (Key × D)} {vs : List (Key × V)}, RKv K Gd H ι ds vs → (ds.any fun kv => decide (kv.1 = k)) = vs.any fun kv => decide (kv.1 = k)
  | _, _, .nil => rfl
  | _, _, .cons _ t => by rw [List.any_cons, List.any_cons, RKv.any k t]
theorem RKv.put {k : Key} {x : D} {u : V} (r : RD K Gd H ι x u) {ds : List (Key × D)} {vs : List (Key × V)} (h : RKv K Gd H ι ds vs) : RKv K Gd H ι (putD ds k x) (putK vs k u) := by
  have rep : ∀ {ds : List (Key × D)} {vs : List (Key × V)}, RKv K Gd H ι ds vs → RKv K Gd H ι (ds.map fun kv => if kv.1 = k then (kv.1, x) else kv) (vs.map fun kv => if kv.1 = k then (kv.1, u) else kv) := fun {ds vs} h => by
    induction h with
    | nil => exact .nil
    | cons h t ih =>
      rename_i l d ds v vs
      simp only [List.map_cons]
      by_cases e : l = k
      · simp only [e, if_true]; exact .cons r ih
      · simp only [e, if_false]; exact .cons h ih
  have app : ∀ {ds : List (Key × D)} {vs : List (Key × V)}, RKv K Gd H ι ds vs → RKv K Gd H ι (ds ++ [(k, x)]) (vs ++ [(k, u)]) := fun {ds vs} h => by
    induction h with
    | nil => exact .cons r .nil
    | cons h t ih => exact .cons h ih
  unfold putD putK
  rw [h.any k]
  split
  · exact rep h
  · exact app h
theorem key_rd {d : D} {v : V} {k : Key} (r : RD K Gd H ι d v) (e : toKey d = some k) : v = kV k := by
  cases r <;> simp [toKey] at e <;> subst e <;> rfl

theorem str_one {x : Str} {c : Nat} (h : x.cps.toList = [c]) : x = ⟨#[c]⟩ := by
  cases x with
  | mk cps =>
    have : cps = #[c] := by
      have := congrArg List.toArray h
      simpa using this
    rw [this]
theorem mem_ok {g : Cst} (G : GdOk X.K X.w Gd g) (hu : X.A.units + 65 < cLine) (neg : Bool) {f : Value → Value → Sem Value} (hf : f = compareOp (if neg then .NotIn else .In)) :
    OpR X f (rC X.K Gd fun a b S => (cmpD.memD g a b S).map fun k => if neg then !k else k) := by
  intro pins s σ H x y v u Q I rx ry h
  obtain ⟨ι, S, a, b, k, R, ra, rb, e, q⟩ := h
  simp only [Option.map_eq_some_iff] at e
  obtain ⟨k, e, rfl⟩ := e
  have hu1 : X.A.units + 1 < cLine := by omega
  -- a list or a tuple
  have seqs : ∀ (xs : List D), seqOf S b = some xs → inD S a xs = some k → wpAny (model X.prog X.w) X.A (f v u) (EP X pins σ Q) X.xe s := fun xs e0 e1 => by
    obtain ⟨l, vs, rfl, rs, hl⟩ := seqOf_rd R rb e0
    cases ry
    have data : ∀ p ps, pd S 60 a = some p → mapO (pd S 59) xs = some ps → Q (.bl (if neg then !(ps.any fun z => PyData.eqv z p) else ps.any fun z => PyData.eqv z p)) H → wpAny (model X.prog X.w) X.A (f v (.ref l)) (EP X pins σ Q) X.xe s := fun p ps e2 e3 q => by
      obtain ⟨a1, a2, a3⟩ := pd_ok R 60 a x p ra e2
      obtain ⟨b1, b2, b3⟩ := seqs_ok (fun d v p => pd_ok R 59 d v p) rs e3
      obtain ⟨as, r1⟩ := Dp.reads I p x v a1 rx
      subst hf
      rcases hl with hl | hl
      · obtain ⟨bs, r2⟩ := Dp.reads I (.list ps) (.ref l) (.ref l) (.lst hl b1) rfl
        cases neg with
        | false => exact SeqAt.in_list_reads r2 r1 b2 a2 (by omega) ⟨.bl _, H, I, rfl, q⟩
        | true => exact SeqAt.notIn_list_reads r2 r1 b2 a2 (by omega) ⟨.bl _, H, I, rfl, q⟩
      · obtain ⟨bs, r2⟩ := Dp.reads I (.tuple ps) (.ref l) (.ref l) (.tup hl b1) rfl
        cases neg with
        | false => exact SeqAt.in_tuple_reads r2 r1 b2 a2 (by omega) ⟨.bl _, H, I, rfl, q⟩
        | true => exact SeqAt.notIn_tuple_reads r2 r1 b2 a2 (by omega) ⟨.bl _, H, I, rfl, q⟩
    simp only [inD] at e1
    split at e1
    · rename_i hs
      simp only [Bool.and_eq_true] at hs
      cases e1
      obtain ⟨p, _, _, _, e2⟩ := scal_dp ra hs.1
      obtain ⟨ps, e3, _⟩ := scal_pds rs hs.2
      rw [any_eqS hs.1 (e2 S 60) hs.2 (e3 S 60)] at q
      exact data p ps (e2 S 60) (e3 S 59) q
    · split at e1
      · rename_i hs
        simp only [Bool.and_eq_true] at hs
        cases e1
        subst hf
        have at_ : ∀ {its : List Value}, Vals vs its → ∀ z, z ∈ its.toArray → SeqAt.EqAt X.A.in1 s z v ((fun _ : Value => false) z) := fun {its} rv z hz => by
          obtain ⟨i, hi⟩ := List.mem_iff_getElem?.mp (show z ∈ its by simpa using hz)
          obtain ⟨zv, hzv, rz⟩ : ∃ zv, vs[i]? = some zv ∧ RelV zv z := by
            cases hq : vs[i]? with
            | none => rw [rv.none_of hq] at hi; cases hi
            | some zv =>
              obtain ⟨u', h1, h2⟩ := rv.get hq
              rw [hi] at h1; cases h1
              exact ⟨zv, rfl, h2⟩
          obtain ⟨d, hd, rd⟩ := rs.get' hzv
          have hsc := List.all_eq_true.mp hs.2 d (List.mem_of_getElem? hd)
          exact flat_eqAt I R ra hs.1 rx rd hsc rz (by show X.A.units + 1 < cLine; omega)
        have none_ : ∀ its : List Value, (its.toArray.any fun _ : Value => false) = false := fun its => by
          rw [Array.any_eq_false]
          intro i hi
          exact Bool.false_ne_true
        rcases hl with hl | hl
        · obtain ⟨its, rv, pl, _⟩ := I.list hl
          cases neg with
          | false => exact SeqAt.in_listAt _ pl.isList (at_ rv) (by rw [none_]; exact ⟨.bl _, H, I, rfl, q⟩)
          | true => exact SeqAt.notIn_listAt _ pl.isList (at_ rv) (by rw [none_]; exact ⟨.bl _, H, I, rfl, q⟩)
        · obtain ⟨its, rv, pl, _⟩ := I.tuple hl
          cases neg with
          | false => exact SeqAt.in_tupleAt _ pl (at_ rv) (by rw [none_]; exact ⟨.bl _, H, I, rfl, q⟩)
          | true => exact SeqAt.notIn_tupleAt _ pl (at_ rv) (by rw [none_]; exact ⟨.bl _, H, I, rfl, q⟩)
      · split at e1 <;> cases e1
        rename_i e2 e3
        exact data _ _ e2 e3 q
  unfold cmpD.memD at e
  split at e
  · -- a text in a text
    cases e
    rename_i z1 z2
    cases ra
    cases rb
    subst hf
    by_cases hc : ∃ c, z1.cps.toList = [c]
    · obtain ⟨c, hc⟩ := hc
      have e1 := str_one hc
      subst e1
      cases neg with
      | false => exact op_in_sign pins s σ H _ _ v u Q I rx ry ⟨_, _, rfl, rfl, q⟩
      | true => exact op_notIn_sign pins s σ H _ _ v u Q I rx ry ⟨_, _, rfl, rfl, q⟩
    · have e1 : strIn z1 z2 = !(Builtin.Str.occurrences z2 z1 0 z2.length 1).isEmpty := by
        unfold strIn
        split
        · rename_i c hc2
          exact absurd ⟨c, hc2⟩ hc
        · rfl
      rw [e1] at q
      cases neg with
      | false => exact op_in_str pins s σ H _ _ v u Q I rx ry ⟨_, _, rfl, rfl, q⟩
      | true => exact L2.op_notIn_str pins s σ H _ _ v u Q I rx ry ⟨_, _, rfl, rfl, q⟩
  · -- a constant dict
    rename_i z n
    split at e <;> cases e
    rename_i kvs e0
    cases ra
    cases rb with
    | gd hg =>
      obtain ⟨es, m, KD, hk⟩ := G.ok _ _ hg
      obtain ⟨r, hr, hh⟩ := hk kvs e0 z
      have hs : (valD kvs (.inr z)).isSome = r.isSome := by
        rcases hh with ⟨h1, h2⟩ | ⟨d, v, u, h1, h2, _⟩ <;> (rw [h1, h2]; rfl)
      rw [hs] at q
      subst hf
      cases neg with
      | false => exact op_in_kd KD pins s σ H _ _ v u Q I rx ry ⟨z, r, rfl, rfl, hr, q⟩
      | true => exact op_notIn_kd KD pins s σ H _ _ v u Q I rx ry ⟨z, r, rfl, rfl, hr, q⟩
  · -- a dict
    rename_i n _ _
    split at e <;> cases e
    rename_i kvs ky e1 e2
    cases rb with
    | loc hl =>
      obtain ⟨vs, h1, h2⟩ := R.dct_at e1 hl
      have hx := key_rd ra e2
      subst hx
      cases ry
      have hs : (valD kvs ky).isSome = (valV vs ky).isSome := by
        rcases h2.val ky with ⟨e3, e4⟩ | ⟨d, v, e3, e4, _⟩ <;> (rw [e3, e4]; rfl)
      rw [hs] at q
      subst hf
      cases neg with
      | false => exact d_in hu1 I (DGet.k h1) rx fun s' I' => ⟨.bl _, H, I', rfl, q⟩
      | true => exact d_notIn hu1 I (DGet.k h1) rx fun s' I' => ⟨.bl _, H, I', rfl, q⟩
  · split at e
    · rename_i xs e0
      exact seqs xs e0 e
    · cases e
end
end CV

set_option Elab.async false
set_option linter.all false
set_option maxRecDepth 100000
set_option maxHeartbeats 4000000
/-! CvU: repr of lists, tuples, dicts. -/
namespace CV
open PySem PySem.Spec PyProof.Rows L2

theorem strOk_append (a b : Str) : PyData.strOk (a ++ b) = (PyData.strOk a && PyData.strOk b) := by
  show (a.cps ++ b.cps).all _ = _
  rw [Array.all_append]
  rfl
theorem strOk_of (s : String) : PyData.strOk (Str.ofString s) = true := by
  rw [Str.ofString_eq_toList]
  unfold PyData.strOk
  simp only [List.all_toArray, List.all_map, List.all_eq_true, Function.comp_apply, decide_eq_true_eq]
  intro c _
  have h := c.valid
  have h2 : c.toNat < 0x110000 := by
    rcases h with h | ⟨_, h⟩
    · exact Nat.lt_trans h (by decide)
    · exact h
  exact h2
theorem strLen (a b : Str) : (a ++ b).length = a.length + b.length := strLen_append a b
theorem textFrom_okS : ∀ (ts : List Str) (k : Nat) (acc : Str), PyData.strOk acc = true → (∀ t ∈ ts, PyData.strOk t = true) → PyData.strOk (textFrom k acc ts) = true
  | [], _, _, h, _ => h
  | t :: ts, k, acc, h, g => textFrom_okS ts (k + 1) _ (by
      rw [strOk_append, strOk_append, h, g t (by simp), strOk_of]
      rfl) fun u hu => g u (by simp [hu])
theorem join_okS (sep : Str) (hs : PyData.strOk sep = true) : ∀ ts : List Str, (∀ t ∈ ts, PyData.strOk t = true) → PyData.strOk (Str.join sep ts) = true
  | [], _ => by rw [Str.join]; decide +kernel
  | [x], g => g x (by simp)
  | x :: y :: r, g => by
    show PyData.strOk (x ++ sep ++ Str.join sep (y :: r)) = true
    rw [strOk_append, strOk_append, g x (by simp), hs, join_okS sep hs (y :: r) fun u hu => g u (by simp at hu; simp [hu])]
    rfl
theorem listText_len : ∀ ts : List Str, (listText ts).length ≤ piled ts + 3
  | [] => by decide
  | t :: r => by
    have h := textFrom_length_pos r 1 (("[" : Str) ++ (if (0 : Nat) > 0 then ", " else "" : String) ++ t) (Nat.succ_pos 0)
    have e : ((("[" : Str) ++ (if (0 : Nat) > 0 then ", " else "" : String) ++ t)).length = 1 + t.length := by
      rw [strLen_append, strLen_append]; rfl
    have hX : (listText (t :: r)).length = (textFrom 0 "[" (t :: r)).length + 1 := by
      show (textFrom 0 "[" (t :: r) ++ "]").length = _
      rw [strLen_append]; rfl
    have hY : (textFrom 0 "[" (t :: r)).length = (textFrom 1 (("[" : Str) ++ (if (0 : Nat) > 0 then ", " else "" : String) ++ t) r).length := rfl
    rw [hX, hY, h, e, piled_cons]; omega
theorem join_len (ts : List Str) : (Str.join ", " ts).length ≤ piled ts := by
  cases ts with
  | nil => exact Nat.le_refl _
  | cons x r =>
    have := join_length_add (x :: r) (by simp)
    omega
theorem tupleText_len (ts : List Str) : (tupleText ts).length ≤ piled ts + 3 := by
  unfold tupleText
  rw [strLen_append, strLen_append]
  have e1 : ((("(" : String) : Str)).length = 1 := rfl
  have e3 : (((if ts.length == 1 then ",)" else ")" : String) : Str)).length ≤ 2 := by split <;> decide
  have := join_len ts
  omega
theorem dictText_len (ts : List Str) : (dictText ts).length ≤ piled ts + 3 := by
  have e : (dictText ts).length = 1 + (Str.join ", " ts).length + 1 := by
    unfold dictText
    rw [strLen_append, strLen_append]; rfl
  have := join_len ts
  omega
mutual
theorem shown_len : ∀ p : PyData, p.shown.length ≤ wtP p
  | .none => by rw [PyData.shown, wtP]; decide
  | .bool b => by rw [PyData.shown, wtP]; cases b <;> decide
  | .int i => by rw [PyData.shown, wtP]; exact Nat.le_refl _
  | .str x => by rw [PyData.shown, wtP]; exact Nat.le_refl _
  | .list xs => by
    rw [PyData.shown, wtP]
    have := listText_len (PyData.shownAll xs)
    have := shownAll_len xs
    omega
  | .tuple xs => by
    rw [PyData.shown, wtP]
    have := tupleText_len (PyData.shownAll xs)
    have := shownAll_len xs
    omega
  | .dict kvs => by
    rw [PyData.shown, wtP]
    have := dictText_len (PyData.shownKv kvs)
    have := shownKv_len kvs
    omega
theorem shownAll_len : ∀ xs : List PyData, piled (PyData.shownAll xs) ≤ wtAll xs
  | [] => by rw [PyData.shownAll, wtAll]; decide
  | x :: xs => by
    rw [PyData.shownAll, wtAll, piled_cons]
    have := shown_len x
    have := shownAll_len xs
    omega
theorem shownKv_len : ∀ kvs : List (PyData × PyData), piled (PyData.shownKv kvs) ≤ wtKv kvs
  | [] => by rw [PyData.shownKv, wtKv]; decide
  | (k, v) :: r => by
    rw [PyData.shownKv, wtKv, piled_cons, strLen, strLen]
    have := shown_len k
    have := shown_len v
    have := shownKv_len r
    have e : ((": " : String) : Str).length = 2 := rfl
    omega
end
mutual
theorem shown_ok : ∀ p : PyData, okP p = true → PyData.strOk p.shown = true
  | .none, _ => by rw [PyData.shown]; exact strOk_of _
  | .bool b, _ => by rw [PyData.shown]; cases b <;> exact strOk_of _
  | .int i, _ => by rw [PyData.shown]; exact strOk_of _
  | .str x, h => by rw [PyData.shown]; simpa [okP] using h
  | .list xs, h => by
    have g := shownAll_ok xs (by simpa [okP] using h)
    rw [PyData.shown]
    unfold listText
    rw [strOk_append, textFrom_okS _ _ _ (strOk_of _) g, strOk_of]
    rfl
  | .tuple xs, h => by
    have g := shownAll_ok xs (by simpa [okP] using h)
    rw [PyData.shown]
    unfold tupleText
    rw [strOk_append, strOk_append, join_okS _ (strOk_of _) _ g, strOk_of, strOk_of]
    rfl
  | .dict kvs, h => by
    have g := shownKv_ok kvs (by simpa [okP] using h)
    rw [PyData.shown]
    unfold dictText
    rw [strOk_append, strOk_append, join_okS _ (strOk_of _) _ g, strOk_of, strOk_of]
    rfl
theorem shownAll_ok : ∀ xs : List PyData, okAll xs = true → ∀ t ∈ PyData.shownAll xs, PyData.strOk t = true
  | [], _, t, ht => by rw [PyData.shownAll] at ht; cases ht
  | x :: xs, h, t, ht => by
    have h' : okP x = true ∧ okAll xs = true := by simpa [okAll] using h
    rw [PyData.shownAll] at ht
    rcases List.mem_cons.mp ht with rfl | ht
    · exact shown_ok x h'.1
    · exact shownAll_ok xs h'.2 t ht
theorem shownKv_ok : ∀ kvs : List (PyData × PyData), okKv kvs = true → ∀ t ∈ PyData.shownKv kvs, PyData.strOk t = true
  | [], _, t, ht => by rw [PyData.shownKv] at ht; cases ht
  | (k, v) :: r, h, t, ht => by
    have h' : (okP k = true ∧ okP v = true) ∧ okKv r = true := by simpa [okKv] using h
    rw [PyData.shownKv] at ht
    rcases List.mem_cons.mp ht with rfl | ht
    · rw [strOk_append, strOk_append, shown_ok k h'.1.1, shown_ok v h'.1.2, strOk_of]
      rfl
    · exact shownKv_ok r h'.2 t ht
end
theorem shown_good {p : PyData} (h : okP p = true) (w : wtP p ≤ cap) : strGood p.shown = true := by
  unfold strGood
  rw [Bool.and_eq_true, decide_eq_true_eq]
  exact ⟨Nat.le_trans (shown_len p) w, shown_ok p h⟩

section
variable {X : Cx} {Gd : Str → Addr → Prop} {H : Hp} {ι : Loc} {S : Sto} {pins : List (Addr × Obj)} {σ : L2.St} {s : Shared}
mutual
/-- what has no lists reads without them -/
theorem pdT_reads (I : Inv X pins σ H s) : ∀ (k : Nat) (d : D) (v : V) (u : Value) (p : PyData), RD X.K Gd H ι d v → RelV v u → pdT k d = some p → Reads s.heap u p [] ∧ p.depth ≤ k
  | k, d, v, u, p, r, ru, h => by
    cases r with
    | non => cases ru; cases k <;> (simp [pdT] at h; subst h; exact ⟨.none, by simp [PyData.depth]⟩)
    | bl b => cases ru; cases k <;> (simp [pdT] at h; subst h; exact ⟨.bool b, by simp [PyData.depth]⟩)
    | int b => obtain ⟨t, rfl⟩ := ru; cases k <;> (simp [pdT] at h; subst h; exact ⟨.int b t, by simp [PyData.depth]⟩)
    | str hs => obtain ⟨t, rfl⟩ := ru; cases k <;> (simp [pdT] at h; subst h; exact ⟨.str _ t, by simp [PyData.depth]⟩)
    | tup ht hr =>
      cases k with
      | zero => simp [pdT] at h
      | succ k =>
        simp only [pdT, Option.map_eq_some_iff] at h
        obtain ⟨ps, e, rfl⟩ := h
        obtain ⟨its, rv, ⟨o, ho, hc, n, hd⟩, _⟩ := I.tuple ht
        obtain ⟨q, z⟩ := pdTs_reads I k _ _ _ ps hr rv e
        cases ru
        exact ⟨.tuple ho hc hd (by simpa using q), by simp only [PyData.depth]; omega⟩
    | loc hl => cases k <;> simp [pdT] at h
    | scr hs => cases k <;> simp [pdT] at h
    | gd hg => cases k <;> simp [pdT] at h
  termination_by k d => (k, 1, 0)
theorem pdTs_reads (I : Inv X pins σ H s) : ∀ (k : Nat) (ds : List D) (vs : List V) (us : List Value) (ps : List PyData), RDs X.K Gd H ι ds vs → Vals vs us → mapO (pdT k) ds = some ps → ReadsAll s.heap us ps [] ∧ PyData.depthAll ps ≤ k
  | k, [], vs, us, ps, r, ru, h => by
    simp [mapO] at h
    subst h
    cases r
    cases ru
    exact ⟨.nil, by simp [PyData.depthAll]⟩
  | k, d :: ds, vs, us, ps, r, ru, h => by
    simp only [mapO] at h
    split at h <;> try cases h
    rename_i y e1
    split at h <;> cases h
    rename_i zs e2
    cases r with
    | cons r1 r2 =>
      cases ru with
      | cons u1 u2 =>
        obtain ⟨q1, z1⟩ := pdT_reads I k d _ _ y r1 u1 e1
        obtain ⟨q2, z2⟩ := pdTs_reads I k ds _ _ zs r2 u2 e2
        refine ⟨ReadsAll.cons q1 q2, ?_⟩
        simp only [PyData.depthAll]
        omega
  termination_by k ds => (k, 2, ds.length)
end
theorem keyPd_reads {h : Heap} {k : Key} {u : Value} (q : keyIs k u = true) : Reads h u (keyPd k) [] ∧ (keyPd k).depth = 0 := by
  rcases keyIs_shape q with ⟨i, t, rfl, rfl⟩ | ⟨x, t, rfl, rfl⟩
  · exact ⟨.int i t, by simp [keyPd, PyData.depth]⟩
  · exact ⟨.str x t, by simp [keyPd, PyData.depth]⟩
theorem kv_reads (I : Inv X pins σ H s) : ∀ (kvs : List (Key × D)) (vs : List (Key × V)) (ws : List (Key × Value)) (es : List DictEntry) (ps : List (PyData × PyData)),
    RKv X.K Gd H ι kvs vs → KV vs ws → PySem.Pairs (mixKind X.prog X.w) es ws → mapO kvPd kvs = some ps →
    ReadsAll s.heap (es.map (·.key)) (ps.map (·.1)) [] ∧ ReadsAll s.heap (es.map (·.val)) (ps.map (·.2)) [] ∧ PyData.depthKv ps ≤ 50
  | [], _, _, _, ps, r, rv, rp, h => by
    simp [mapO] at h
    subst h
    cases r
    cases rv
    cases rp
    exact ⟨.nil, .nil, by simp [PyData.depthKv]⟩
  | (k, d) :: kvs, _, _, _, ps, r, rv, rp, h => by
    simp only [mapO] at h
    split at h <;> try cases h
    rename_i y e1
    split at h <;> cases h
    rename_i zs e2
    simp only [kvPd, Option.map_eq_some_iff] at e1
    obtain ⟨p, e1, rfl⟩ := e1
    cases r with
    | cons r1 r2 =>
      cases rv with
      | cons v1 v2 =>
        cases rp with
        | cons p1 p2 p3 =>
          obtain ⟨a1, a2, a3⟩ := kv_reads I kvs _ _ _ zs r2 v2 p3 e2
          have hk := v1.1
          dsimp only at hk
          subst hk
          obtain ⟨b1, b2⟩ := keyPd_reads (h := s.heap) (show keyIs _ _ = true from p1)
          obtain ⟨c1, c2⟩ := pdT_reads I 50 d _ _ p r1 v1.2 e1
          have c3 := p2.symm ▸ c1
          refine ⟨ReadsAll.cons b1 a1, ReadsAll.cons (as := []) (bs := []) c3 a2, ?_⟩
          simp only [PyData.depthKv]
          omega
theorem call_repr (hg : X.A.guards = some []) (hu : X.A.units + 65 < cLine) : CallR X (.builtin "repr") (fun xs H Q => ∃ ι S d v p r, Rel X.K Gd H ι S ∧ RD X.K Gd H ι d v ∧ xs = [v] ∧ reprD S d = some p ∧ reprP p = some r ∧ Post X.K Gd H ι (r, S) Q) := by
  intro pins s σ H xs us Q I r h
  obtain ⟨ι, S, d, v, p, r, R, rv, rfl, e0, e1, q⟩ := h
  unfold reprP at e1
  split at e1 <;> cases e1
  rename_i z
  simp only [Bool.and_eq_true, decide_eq_true_eq] at z
  obtain ⟨⟨z1, z2⟩, z3⟩ := z
  have good := shown_good z2 z3
  obtain ⟨u, rfl, ru⟩ := vals1 r
  have hsz : p.shown.length ≤ sizeLine := by
    rw [← cap_eq]
    exact Nat.le_trans (shown_len p) z3
  have main : ∀ a as, u = .ref a → Reads s.heap (.ref a) p as → (p.hasDict = true → sysModules ∉ as) → p.depth ≤ 60 → wpAny (model X.prog X.w) X.A (call (.builtin "repr") [u]) (EP X pins σ Q) X.xe s := fun a as ea rd hs hd => by
    subst ea
    refine repr_of_reads' rd z1 hs hg (by omega) (fun b o e => e) (fun h' t tk k => ?_) hsz
    exact ⟨.str p.shown, H, I.kept k, ⟨t, rfl⟩, q.at_ R (.str good)⟩
  have plain : pd S 60 d = some p → (∃ a, v = .ref a) → wpAny (model X.prog X.w) X.A (call (.builtin "repr") [u]) (EP X pins σ Q) X.xe s := fun e ⟨a, ea⟩ => by
    obtain ⟨b1, b2, b3⟩ := pd_ok R 60 d v p rv e
    obtain ⟨as, b4⟩ := Dp.reads I p v u b1 ru
    subst ea
    cases ru
    exact main a as rfl b4 (PyData.noDict_hsm (PyData.hasDict_of_canLay p b2)) b3
  cases d with
  | tup xs =>
    refine plain e0 ?_
    cases rv
    exact ⟨_, rfl⟩
  | loc k n =>
    cases k with
    | lst =>
      refine plain e0 ?_
      cases rv
      exact ⟨_, rfl⟩
    | dct =>
      simp only [reprD] at e0
      split at e0 <;> try cases e0
      rename_i kvs e3
      simp only [Option.map_eq_some_iff] at e0
      obtain ⟨ps, e4, rfl⟩ := e0
      cases rv with
      | loc hl =>
        rename_i a
        obtain ⟨vs, h1, h2⟩ := R.dct_at e3 hl
        obtain ⟨_, hs, ws, rel, o, es, ep, ho, hc, hd, _, hp, _⟩ := dk_of I.hok h1
        obtain ⟨a1, a2, a3⟩ := kv_reads I kvs vs ws es.toList ps h2 rel hp e4
        cases ru
        refine main a _ rfl (.dict ho hc.1 hd a1 a2) (fun _ hm => ?_) (by simp only [PyData.depth]; omega)
        simp at hm
        rw [hm] at hs
        simp at hs
  | _ => simp [reprD] at e0
end
end CV

set_option Elab.async false
set_option linter.all false
set_option maxRecDepth 100000
set_option maxHeartbeats 4000000
/-! CvW: comparisons, items, slices, built-ins, methods, stores. -/
namespace CV
open PySem PySem.Spec PyProof.Rows L2

section
variable {X : Cx} {Gd : Str → Addr → Prop} {H : Hp} {ι : Loc} {S : Sto} {K : PySem.W.Frag} {g : Cst}

def copO : Cop → CmpOp
  | .eq => .Eq
  | .ne => .NotEq
  | .lt => .Lt
  | .le => .LtE
  | .gt => .Gt
  | .ge => .GtE
  | .in_ => .In
  | .notIn => .NotIn
theorem copC_eq {o : CmpOp} {b : Cop} (h : copC o = some b) : copO b = o := by
  cases o <;> simp [copC] at h <;> subst h <;> rfl
theorem opC (G : GdOk X.K X.w Gd g) (hu : X.A.units + 65 < cLine) (op : Cop) : OpR X (compareOp (copO op)) (rC X.K Gd fun a b S => cmpD g op a b S) := by
  have hu' : X.A.units + 64 < cLine := by omega
  have two : ∀ {f : Value → Value → Sem Value} {c : Int → Int → Bool}, OpR X f (rI0 fun i j => .bl (c i j)) → OpR X f (rC X.K Gd fun a b S => match a, b with
      | .int i, .int j => some (c i j)
      | _, _ => none) := fun {f c} h => by
    intro pins s σ H x y v u Q I rx ry q
    obtain ⟨ι, S, a, b, k, R, ra, rb, e, q⟩ := q
    dsimp only at e
    split at e <;> cases e
    cases ra
    cases rb
    exact h pins s σ H _ _ v u Q I rx ry ⟨_, _, rfl, rfl, q⟩
  cases op with
  | eq => exact op_eqC hu'
  | ne => exact op_neC hu'
  | lt => exact two op_lt
  | le => exact two op_le
  | gt => exact two op_gt
  | ge => exact two op_ge
  | in_ =>
    intro pins s σ H x y v u Q I rx ry q
    obtain ⟨ι, S, a, b, k, R, ra, rb, e, q⟩ := q
    exact mem_ok G hu false rfl pins s σ H x y v u Q I rx ry ⟨ι, S, a, b, k, R, ra, rb, by simpa [cmpD] using e, q⟩
  | notIn =>
    intro pins s σ H x y v u Q I rx ry q
    obtain ⟨ι, S, a, b, k, R, ra, rb, e, q⟩ := q
    refine mem_ok G hu true rfl pins s σ H x y v u Q I rx ry ⟨ι, S, a, b, k, R, ra, rb, ?_, q⟩
    simpa [cmpD] using e

/-! ### is -/
theorem op_isD (neg : Bool) : OpR X (compareOp (if neg then .IsNot else .Is)) (rC X.K Gd fun a b _ => (isD a b).map fun k => if neg then !k else k) := by
  intro pins s σ H x y v u Q I rx ry h
  obtain ⟨ι, S, a, b, k, R, ra, rb, e, q⟩ := h
  simp only [Option.map_eq_some_iff] at e
  obtain ⟨k, e, rfl⟩ := e
  cases rb with
  | non =>
    simp only [isD, Option.some.injEq] at e
    have hk : k = decide (x = .non) := by
      subst e
      cases ra <;> rfl
    subst hk
    cases neg with
    | false => exact op_isN pins s σ H _ _ v u Q I rx ry ⟨rfl, q⟩
    | true => exact op_notN pins s σ H _ _ v u Q I rx ry ⟨rfl, q⟩
  | bl j =>
    cases ra <;> simp [isD] at e
    subst e
    cases neg with
    | false => exact op_isBl pins s σ H _ _ v u Q I rx ry ⟨_, _, rfl, rfl, q⟩
    | true => exact op_notBl pins s σ H _ _ v u Q I rx ry ⟨_, _, rfl, rfl, q⟩
  | _ => simp [isD] at e

/-! ### items -/
def rX (K : PySem.W.Frag) (Gd : Str → Addr → Prop) (f : D → D → Sto → Option D) : R2 := fun x y H Q =>
  ∃ ι S a b d, Rel K Gd H ι S ∧ RD K Gd H ι a x ∧ RD K Gd H ι b y ∧ f a b S = some d ∧ ∀ v, RD K Gd H ι d v → Q v H
theorem atI_rd {ds : List D} {vs : List V} {i : Int} {d : D} (r : RDs K Gd H ι ds vs) (e : atI ds i = some d) : ∃ v, atI vs i = some v ∧ RD K Gd H ι d v := by
  unfold atI at e ⊢
  rw [← r.length]
  cases h : ixN ds.length i with
  | none => rw [h] at e; cases e
  | some j =>
    rw [h] at e
    exact r.get e
theorem good_one {c : Nat} (h : c < 0x110000) : strGood ⟨#[c]⟩ = true :=
  strGood_mk (by show 1 ≤ cap; decide) fun d hd => by simp at hd; omega
theorem ixOp (G : GdOk X.K X.w Gd g) (hu : X.A.units + 65 < cLine) : IxR X (rX X.K Gd fun a b S => ixD g a b S) := by
  intro value slice pins s σ H x y v u Q I rx ry h hs
  obtain ⟨ι, S, a, b, d, R, ra, rb, e, q⟩ := h
  have hu1 : X.A.units + 1 < cLine := by omega
  have seqs : ∀ (xs : List D) (j : Int), b = .int j → seqOf S a = some xs → atI xs j = some d → wpAny (model X.prog X.w) X.A (subscriptTail value slice v u) (EP X pins σ Q) X.xe s := fun xs j eb e0 e1 => by
    obtain ⟨l, vs, rfl, rs, hl⟩ := seqOf_rd R ra e0
    obtain ⟨z, h1, h2⟩ := atI_rd rs e1
    subst eb
    cases rb
    rcases hl with hl | hl
    · exact ix_list value slice pins s σ H _ _ v u Q I rx ry ⟨_, _, _, _, rfl, rfl, hl, h1, q _ h2⟩ hs
    · exact ix_tup value slice pins s σ H _ _ v u Q I rx ry ⟨_, _, _, _, rfl, rfl, hl, h1, q _ h2⟩ hs
  unfold ixD at e
  dsimp only at e
  split at e
  · rename_i z j
    simp only [Option.map_eq_some_iff] at e
    obtain ⟨c, e, rfl⟩ := e
    cases ra with
    | str hz =>
      cases rb
      have hc : c < 0x110000 := by
        obtain ⟨j', _, h2, _⟩ := atI_get e
        exact strGood_cps hz c (List.mem_of_getElem? h2)
      exact ix_str value slice pins s σ H _ _ v u Q I rx ry ⟨_, _, _, rfl, rfl, strGood_len hz, e, q _ (.str (good_one hc))⟩ hs
  · rename_i n z
    split at e
    · rename_i kvs e0
      cases ra with
      | gd hg =>
        cases rb
        obtain ⟨es, m, KD, hk⟩ := G.ok _ _ hg
        obtain ⟨r, hr, hh⟩ := hk kvs e0 z
        rcases hh with ⟨h1, h2⟩ | ⟨d', v', u', h1, h2, h3, h4⟩
        · rw [h1] at e; cases e
        · rw [h1] at e
          cases e
          subst h2
          exact ix_kdict value slice pins s σ H _ _ v u Q I rx ry ⟨_, _, _, rfl, rfl, ⟨es, m, u', KD.at_, KD.lit, hr, h3⟩, q _ (h4 H ι)⟩ hs
    · cases e
  · rename_i n i
    split at e
    · rename_i kvs k e0 e1
      cases ra with
      | loc hl =>
        rename_i ad
        obtain ⟨vs, h1, h2⟩ := R.dct_at e0 hl
        have hx := key_rd rb e1
        subst hx
        cases rx
        rcases h2.val k with ⟨h3, h4⟩ | ⟨d', v', h3, h4, h5⟩
        · rw [h3] at e; cases e
        · rw [h3] at e
          cases e
          have gget : DGet H ad (kV k) (some v') := by
            have := DGet.k (k := k) h1
            rwa [h4] at this
          exact tail_any (dict_typeIs I gget) slot_dict_getitem.lookup (d_getItem hu1 I gget ry fun w' s' I' r' => ⟨v', H, I', r', q _ h5⟩) hs
    · cases e
  · rename_i a' j _ _
    split at e
    · rename_i xs e0
      exact seqs xs j rfl e0 e
    · cases e
  · cases e

/-! ### slices -/
theorem cut_rd {ds : List D} {vs : List V} (r : RDs K Gd H ι ds vs) (lo hi : Option Int) : RDs K Gd H ι (cutD ds lo hi) (cutV vs lo hi) := by
  unfold cutD cutV
  rw [r.length]
  exact (r.drop _).take _
theorem cut_good {z : Str} (h : strGood z = true) (lo hi : Option Int) : strGood ⟨(cutD z.cps.toList lo hi).toArray⟩ = true := by
  refine strGood_mk ?_ fun c hc => ?_
  · have h1 := strGood_len h
    rw [← cap_eq] at h1
    refine Nat.le_trans ?_ h1
    show ((cutD z.cps.toList lo hi).toArray).size ≤ z.length
    rw [List.size_toArray]
    unfold cutD
    rw [List.length_take, List.length_drop, length_cps]
    omega
  · have hc' : c ∈ cutD z.cps.toList lo hi := by simpa using hc
    exact strGood_cps h c (List.mem_of_mem_drop (List.mem_of_mem_take hc'))
def rS (K : PySem.W.Frag) (Gd : Str → Addr → Prop) : V → Option Int → Option Int → Hp → VK → Prop := fun x lo hi H Q =>
  ∃ ι S a r, Rel K Gd H ι S ∧ RD K Gd H ι a x ∧ slD a lo hi S = some r ∧ Post K Gd H ι r Q
theorem slOp : SlR X (rS X.K Gd) := by
  intro pins s σ H x v vl vu lo hi sl Q I rx hs pl pu h
  obtain ⟨ι, S, a, r, R, ra, e, q⟩ := h
  unfold slD at e
  split at e
  · cases e
    cases ra with
    | tup ht hr =>
      rename_i ds ad vs
      refine sl_tupA pins s σ H _ v vl vu lo hi sl Q I rx hs pl pu ⟨_, _, rfl, ht, fun hw => ?_, fun _ => ?_⟩
      · refine q.at_ R (.tup ht ?_)
        have e1 : cutD ds lo hi = ds := by
          unfold cutD
          rw [hr.length, hw.1, hw.2]
          simp only [List.drop_zero, Nat.sub_zero]
          rw [← hr.length, List.take_length]
        show RDs X.K Gd H ι (cutD ds lo hi) vs
        rw [e1]
        exact hr
      · exact q.tup R (cut_rd hr lo hi)
  · cases e
    cases ra with
    | str hz => exact sl_str pins s σ H _ v vl vu lo hi sl Q I rx hs pl pu ⟨_, rfl, strGood_len hz, q.at_ R (.str (cut_good hz lo hi))⟩
  · split at e
    · rename_i xs e1
      cases e
      obtain ⟨l, vs, rfl, rs, hl⟩ := lstOf_rd R ra e1
      exact sl_list pins s σ H _ v vl vu lo hi sl Q I rx hs pl pu ⟨l, vs, rfl, hl, q.lst R (cut_rd rs lo hi)⟩
    · cases e

/-! ### truth -/
theorem truth_ok {d : D} {v : V} {k : Bool} (R : Rel K Gd H ι S) (r : RD K Gd H ι d v) (e : truth S d = some k) : TruV K v H k := by
  cases r with
  | non => simp [truth] at e; subst e; rfl
  | bl b => simp [truth] at e; subst e; rfl
  | int i => simp [truth] at e; subst e; show (_ = (i != 0)); simp
  | str hs => simp only [truth, Option.some.injEq] at e; exact ⟨strGood_len hs, e.symm⟩
  | tup ht hr =>
    simp only [truth, Option.some.injEq] at e
    refine .inr (.inl ⟨_, ht, ?_⟩)
    subst e
    cases hr <;> rfl
  | loc hl =>
    rename_i kd n a
    cases kd with
    | lst =>
      simp only [truth] at e
      split at e <;> cases e
      rename_i e0
      obtain ⟨vs, h1, h2⟩ := R.lst_at e0 hl
      refine .inl ⟨vs, .of h1, ?_⟩
      cases h2 <;> rfl
    | dct =>
      simp only [truth] at e
      split at e <;> cases e
      rename_i e0
      obtain ⟨vs, h1, h2⟩ := R.dct_at e0 hl
      refine .inr (.inr ⟨vs, h1, ?_⟩)
      cases h2 <;> rfl
  | _ => simp [truth] at e

/-! ### built-ins -/
def rF (K : PySem.W.Frag) (Gd : Str → Addr → Prop) (f : List D → Sto → Option (D × Sto)) : List V → Hp → VK → Prop := fun xs H Q =>
  ∃ ι S ds r, Rel K Gd H ι S ∧ RDs K Gd H ι ds xs ∧ f ds S = some r ∧ Post K Gd H ι r Q
theorem bls_rd : ∀ {ds : List D} {vs : List V} {bs : List Bool}, RDs K Gd H ι ds vs → blsOf ds = some bs → vs = bs.map V.bl
  | [], _, bs, .nil, e => by simp [blsOf] at e; subst e; rfl
  | d :: ds, _, bs, .cons h t, e => by
    cases d <;> simp only [blsOf] at e <;> try cases e
    simp only [Option.map_eq_some_iff] at e
    obtain ⟨cs, e1, rfl⟩ := e
    cases h
    rw [bls_rd t e1]
    rfl
/-- what the built-in's name is as a value -/
def biV : Bi → Value
  | .len => .builtin "len"
  | .list => .type "list"
  | .tuple => .type "tuple"
  | .all => .builtin "all"
  | .any => .builtin "any"
  | .abs => .builtin "abs"
  | .max => .builtin "max"
  | .min => .builtin "min"
  | .repr => .builtin "repr"
theorem rds1 {d : D} {vs : List V} (h : RDs K Gd H ι [d] vs) : ∃ v, vs = [v] ∧ RD K Gd H ι d v := by
  cases h with
  | cons h t => cases t; exact ⟨_, rfl, h⟩
theorem rds2 {d e : D} {vs : List V} (h : RDs K Gd H ι [d, e] vs) : ∃ v u, vs = [v, u] ∧ RD K Gd H ι d v ∧ RD K Gd H ι e u := by
  cases h with
  | cons h t =>
    obtain ⟨u, rfl, h2⟩ := rds1 t
    exact ⟨_, _, rfl, h, h2⟩
theorem len_dict : CallR X (.builtin "len") (fun xs H Q => ∃ a kvs, xs = [.ref a] ∧ H a = some (.dK kvs) ∧ Q (.int kvs.length) H) := by
  intro pins s σ H xs us Q I r h
  obtain ⟨a, kvs, rfl, ha, q⟩ := h
  have e := Vals.ref1 r
  subst e
  exact d_len I (.inl ha) fun t s' I' => ⟨.int kvs.length, H, I', ⟨t, rfl⟩, q⟩
theorem biOp (hc : X.calm = true) (hg : X.A.guards = some []) (hu : X.A.units + 65 < cLine) (b : Bi) : CallR X (biV b) (rF X.K Gd (biD b)) := by
  intro pins s σ H xs us Q I r h
  obtain ⟨ι, S, ds, res, R, rs, e, q⟩ := h
  unfold biD at e
  split at e
  · cases e
    obtain ⟨v, rfl, rv⟩ := rds1 rs
    cases rv with
    | str hz => exact call_len_str pins s σ H _ us Q I r ⟨_, rfl, strGood_len hz, q.at_ R (.int _)⟩
  · split at e <;> cases e
    rename_i e0
    obtain ⟨v, rfl, rv⟩ := rds1 rs
    cases rv with
    | loc hl =>
      obtain ⟨vs, h1, h2⟩ := R.dct_at e0 hl
      refine len_dict pins s σ H _ us Q I r ⟨_, vs, rfl, h1, ?_⟩
      rw [← h2.length]
      exact q.at_ R (.int _)
  · simp only [Option.map_eq_some_iff] at e
    obtain ⟨ys, e0, rfl⟩ := e
    obtain ⟨v, rfl, rv⟩ := rds1 rs
    obtain ⟨a, vs, rfl, rs', hl⟩ := seqOf_rd R rv e0
    refine call_len_seq pins s σ H _ us Q I r ⟨a, vs, rfl, hl, ?_⟩
    rw [← rs'.length]
    exact q.at_ R (.int _)
  · simp only [Option.map_eq_some_iff] at e
    obtain ⟨ys, e0, rfl⟩ := e
    obtain ⟨v, rfl, rv⟩ := rds1 rs
    obtain ⟨a, vs, rfl, rs', hl⟩ := seqOf_rd R rv e0
    exact call_list_of pins s σ H _ us Q I r ⟨a, vs, rfl, hl, q.lst R rs'⟩
  · simp only [Option.map_eq_some_iff] at e
    obtain ⟨ys, e0, rfl⟩ := e
    obtain ⟨v, rfl, rv⟩ := rds1 rs
    obtain ⟨a, vs, rfl, rs', hl⟩ := seqOf_rd R rv e0
    refine call_tuple_of pins s σ H _ us Q I r ⟨a, vs, rfl, ?_⟩
    rcases hl with hl | hl
    · exact .inl ⟨hl, q.tup R rs'⟩
    · exact .inr ⟨hl, q.at_ R (.tup hl rs')⟩
  · simp only [Option.map_eq_some_iff, Option.bind_eq_some_iff] at e
    obtain ⟨bs, ⟨ys, e0, e1⟩, rfl⟩ := e
    obtain ⟨v, rfl, rv⟩ := rds1 rs
    obtain ⟨a, vs, rfl, rs', hl⟩ := lstOf_rd R rv e0
    have e2 := bls_rd rs' e1
    subst e2
    exact cr_all hc pins s σ H _ us Q I r ⟨a, bs, rfl, hl, q.at_ R (.bl _)⟩
  · simp only [Option.map_eq_some_iff, Option.bind_eq_some_iff] at e
    obtain ⟨bs, ⟨ys, e0, e1⟩, rfl⟩ := e
    obtain ⟨v, rfl, rv⟩ := rds1 rs
    obtain ⟨a, vs, rfl, rs', hl⟩ := lstOf_rd R rv e0
    have e2 := bls_rd rs' e1
    subst e2
    exact cr_any hc pins s σ H _ us Q I r ⟨a, bs, rfl, hl, q.at_ R (.bl _)⟩
  · cases e
    obtain ⟨v, rfl, rv⟩ := rds1 rs
    cases rv
    exact call_abs pins s σ H _ us Q I r ⟨_, rfl, q.at_ R (.int _)⟩
  · cases e
    obtain ⟨v, u, rfl, rv, ru⟩ := rds2 rs
    cases rv
    cases ru
    exact call_max2 hc pins s σ H _ us Q I r ⟨_, _, rfl, q.at_ R (.int _)⟩
  · cases e
    obtain ⟨v, u, rfl, rv, ru⟩ := rds2 rs
    cases rv
    cases ru
    exact call_min2 hc pins s σ H _ us Q I r ⟨_, _, rfl, q.at_ R (.int _)⟩
  · simp only [Option.map_eq_some_iff, Option.bind_eq_some_iff] at e
    obtain ⟨d, ⟨p, e0, e1⟩, rfl⟩ := e
    obtain ⟨v, rfl, rv⟩ := rds1 rs
    exact call_repr hg hu pins s σ H _ us Q I r ⟨ι, S, _, v, p, d, R, rv, rfl, e0, e1, q⟩
  · cases e

/-! ### methods of lists -/
def meId : Me → String
  | .append => "list.append"
  | .reverse => "list.reverse"
  | .extend => "list.extend"
  | .pop => "list.pop"
def rM (K : PySem.W.Frag) (Gd : Str → Addr → Prop) (f : D → List D → Sto → Option (D × Sto)) : V → List V → Hp → VK → Prop := fun x xs H Q =>
  ∃ ι S d ds r, Rel K Gd H ι S ∧ RD K Gd H ι d x ∧ RDs K Gd H ι ds xs ∧ f d ds S = some r ∧ Post K Gd H ι r Q
theorem meOp (m : Me) : MtR X (meId m) (rM X.K Gd (meD m)) := by
  intro pins s σ H x xs v us Q I rx rxs h
  obtain ⟨ι, S, d, ds, res, R, rd, rs, e, q⟩ := h
  have hcs : cap = sizeLine := cap_eq
  unfold meD at e
  split at e
  · rename_i n
    split at e
    · rename_i ys e0
      cases rd with
      | loc hl =>
        rename_i ad
        obtain ⟨vs, h1, h2⟩ := R.lst_at e0 hl
        have hne : H ad ≠ none := by rw [h1]; exact fun z => nomatch z
        have hlen := h2.length
        split at e
        · rename_i y
          split at e <;> cases e
          rename_i hz
          obtain ⟨z, rfl, rz⟩ := rds1 rs
          exact mt_append pins s σ H _ _ v us Q I rx rxs ⟨_, vs, z, rfl, rfl, h1, by omega, q.wlst R hl hne (h2.append (.cons rz .nil)) .non⟩
        · cases e
          cases rs
          exact mt_reverse pins s σ H _ _ v us Q I rx rxs ⟨_, vs, rfl, rfl, h1, q.wlst R hl hne h2.rev .non⟩
        · split at e
          · rename_i k zs e1
            split at e <;> cases e
            rename_i hz
            obtain ⟨z, rfl, rz⟩ := rds1 rs
            cases rz with
            | loc hk =>
              obtain ⟨ws, h3, h4⟩ := R.lst_at e1 hk
              have hlen2 := h4.length
              exact mt_extend pins s σ H _ _ v us Q I rx rxs ⟨_, _, vs, ws, rfl, rfl, h1, h3, by omega, q.wlst R hl hne (h2.append h4) .non⟩
          · cases e
        · split at e
          · rename_i y e1
            cases e
            cases rs
            obtain ⟨z, h3, h4⟩ := h2.get e1
            rw [hlen] at h3
            exact mt_pop pins s σ H _ _ v us Q I rx rxs ⟨_, vs, z, rfl, rfl, h1, h3, q.wlst R hl hne h2.dropLast h4⟩
          · cases e
        · cases e
    · cases e
  · cases e

/-! ### stores by an index -/
def rP (K : PySem.W.Frag) (Gd : Str → Addr → Prop) : V → V → V → Hp → (Hp → Prop) → Prop := fun o i v H Q =>
  ∃ ι S a b d S', Rel K Gd H ι S ∧ RD K Gd H ι a o ∧ RD K Gd H ι b i ∧ RD K Gd H ι d v ∧ setD a b d S = some S' ∧ ∀ H', Rel K Gd H' ι S' → Ext H ι H' ι → Q H'
theorem setOp (hu : X.A.units + 65 < cLine) : PSet X (rP X.K Gd) := by
  intro pins s σ H o i v ov iv u Q I ro ri rv h
  obtain ⟨ι, S, a, b, d, S', R, ra, rb, rd, e, q⟩ := h
  have hcs : cap = sizeLine := cap_eq
  unfold setD at e
  split at e
  · split at e
    · rename_i n j xs e0
      split at e <;> cases e
      rename_i k hk
      cases ra with
      | loc hl =>
        rename_i ad
        cases rb
        obtain ⟨vs, h1, h2⟩ := R.lst_at e0 hl
        have hne : H ad ≠ none := by rw [h1]; exact fun z => nomatch z
        rw [h2.length] at hk
        refine set_list pins s σ H _ _ v ov iv u Q I ro ri rv ⟨_, vs, _, k, rfl, rfl, h1, hk, ?_⟩
        have x : Ext H ι (upd H ad (.lst (vs.set k v))) ι := Ext.write hl hne
        exact q _ (R.write (ob := .lst (xs.set k d)) hl hne ⟨_, upd_same, (h2.set rd k).keep (x.keeps R)⟩) x
    · cases e
  · split at e
    · rename_i n i' kvs k e0 e1
      split at e <;> cases e
      rename_i hz
      cases ra with
      | loc hl =>
        rename_i ad
        obtain ⟨vs, h1, h2⟩ := R.dct_at e0 hl
        have hne : H ad ≠ none := by rw [h1]; exact fun z => nomatch z
        have hlen := h2.length
        have hk := key_rd rb e1
        subst hk
        cases ro
        have x : Ext H ι (upd H ad (.dK (putK vs k v))) ι := Ext.write hl hne
        exact d_setItem (by omega) I (DPut.k (k := k) h1 (by omega)) ri rv fun s' I' =>
          ⟨_, I', q _ (R.write (ob := .dct (putD kvs k d)) hl hne ⟨_, upd_same, (RKv.put rd h2).keep (x.keeps R)⟩) x⟩
    · cases e
  · cases e

/-! ### isinstance -/
theorem tyOf_ok {d : D} {v : V} {t : String} (R : Rel K Gd H ι S) (r : RD K Gd H ι d v) (e : tyOf d = some t) : TyX K H v (.type t) := by
  cases r with
  | non => cases e; exact .base .non
  | bl b => cases e; exact .base (.bl b)
  | int i => cases e; exact .base (.int i)
  | str hs => cases e; exact .base (.str _)
  | tup ht hr =>
    cases e
    rcases ht with (h | ⟨o, h⟩) | ⟨o, its, n, h, hc, _⟩
    · exact .base (.tup h)
    · exact .fTuple h
    · exact .kTuple h hc
  | loc hl =>
    rename_i k n a
    obtain ⟨o, e0, h1, h2⟩ := R.at_ hl
    cases k with
    | lst =>
      cases e
      cases o with
      | lst xs => obtain ⟨vs, h3, _⟩ := h2; exact .base (.lst h3)
      | dct xs => cases h1
    | dct =>
      cases e
      cases o with
      | lst xs => cases h1
      | dct xs => obtain ⟨vs, h3, _⟩ := h2; exact .base (.dK h3)
  | _ => simp [tyOf] at e
end
end CV

set_option Elab.async false
set_option linter.all false
set_option maxRecDepth 100000
set_option maxHeartbeats 4000000
/-! CvN: defs that know that no repr stands around them. -/
namespace CVN
open PySem PySem.Spec PyProof.Rows L2
/-- a promise kept wherever no repr is under way -/
structure FnG (P : Program) (w : World) (K : PySem.W.Frag) (mg : Str → Option Value) (base : Heap) (CX : CXT) (k : Nat) (f : Addr) (fd : FuncData) (ps : List Str) (sp : Sp) : Prop where
  len : ∀ vs H Q E, sp vs H Q E → vs.length = ps.length
  go : ∀ (A : Around), A.guards = some [] → ∀ (outer : List Env) (s : Shared) (H : Hp) (args : Args) (us : List Value) (vs : List V) (Q : VK) (E : XK), Room k A → Env0 P w K mg base A outer s H → BindsTo s fd args (ps.zip us) → Vals vs us → sp vs H Q E →
    codeAny (model P w) A (.call (.ref f) args) (CR CX outer P w H s Q E) s
theorem guards_deeper {A : Around} {env : Env} (h : A.guards = some []) : (A.deeper env).guards = some [] := by
  first | exact h | (unfold Around.deeper; exact h) | (simp [Around.deeper, h])
section
variable {P : Program} {w : World} {K : PySem.W.Frag} {mg : Str → Option Value} {base : Heap} {x qual : Str} {params : Arguments} {body : List Stmt} {scope : Scope} {dvs : List V} {kws : List (Str × V)} {f : Addr} {fd : FuncData}
/-- the rule for a def -/
theorem fnG_of {CX : CXT} {N ps : List Str} {k : Nat} {sp : Sp} (F : FunD K x qual params body scope dvs kws f fd) (S : FnScope N ps scope) (hlen : ∀ vs H Q E, sp vs H Q E → vs.length = ps.length)
    (hb : ∀ (cdv : Value) (A : Around) (outer : List Env) (s : Shared) (H : Hp) (vs : List V) (Q : VK) (E : XK), A.guards = some [] → Room k (A.deeper (envOfC qual scope s.heap.objs.size f cdv)) → sp vs H Q E →
      ∃ t, PSs (cxOf CX P w K mg base N qual scope f cdv A outer s H E) body t ∧ t { nx := fun _ H' => Q .non H', rt := Q } (start N vs) H) : FnG P w K mg base CX (k + 1) f fd ps sp := by
  obtain ⟨oc, od, dV, kV, doc, pm, an, cdv, ct, osl, rfl, look, code, _, _⟩ := F.ex
  constructor
  · exact hlen
  intro A hg outer s H args us vs Q E room env0 bind rel promise
  have inK : K.In s.heap := env0.mod.kin.keeps fun a o q => (env0.bs a o q).1
  have noLim : s.heap.NoLimit := env0.mod.nolimit.keeps fun a o q => (env0.bs a o q).1
  have kinds : ∀ y ∈ ps.zip us, scope.names.lookup y.1 = some .local ∨ (scope.names.lookup y.1 = some .cell ∧ ((cellsFrom (s.heap.objs.size + 1) scope.names []).lookup y.1).isSome = true) := by
    rintro ⟨m, v⟩ hm
    exact (S.par m (List.of_mem_zip hm).1).imp id fun q => ⟨q, PySem.W.cellsFrom_some _ _ _ (.inl q)⟩
  refine codeAny_call_function room.depth (inK _ _ look) rfl S.co S.gen rfl (PySem.W.codeRec_of inK code) (bind _ _ _ _ ?_)
  refine wpAny_newFunctionEnv_cells S.kind kinds fun env henv s1 call => ?_
  subst henv
  refine ⟨noLim.keeps call.toInCall.keep, codeAny_func ?_⟩
  obtain ⟨t, walks, reads⟩ := hb cdv A outer s H vs Q E hg (room.deeper _) promise
  refine wpAny_mono (walks.run [] s1 (start N vs) H _ (inv_start S room.hd env0 (hlen _ _ _ _ promise) rel call) reads) ?_ fun _ _ z => z
  intro flow s' z
  cases flow with
  | ret u =>
    obtain ⟨v, st, H', inv, hv, q⟩ := z
    exact ⟨v, H', inv.os, inv.bare, inv.base, inv.hok, hv, q⟩
  | next =>
    obtain ⟨st, H', inv, q⟩ := z
    exact ⟨.non, H', inv.os, inv.bare, inv.base, inv.hok, rfl, q⟩
  | brk => exact z.choose_spec.choose_spec.2.elim
  | cont => exact z.choose_spec.choose_spec.2.elim
end
section
variable {X : Cx} {CX : CXT} {k : Nat} {f : Addr} {fd : FuncData} {ps : List Str} {sp : Sp} {E : XK} {x : Str} {p pos : Pos} {e : Expr} {es : List Expr} {t : TA}
theorem runG {pins : List (Addr × Obj)} {σ : L2.St} {H : Hp} {s : Shared} {Q : VK} {us : List Value} {vs : List V} (F : FnG X.prog X.w X.K X.mg X.base CX k f fd ps sp) (hg : X.A.guards = some []) (hr : Room k X.A) (hb : Binds X.K fd ps []) (hx : Passes CX X E)
    (I : Inv X pins σ H s) (r : Vals vs us) (h : sp vs H Q E) : wpAny (model X.prog X.w) X.A (call (.ref f) us) (EP X pins σ Q) X.xe s := by
  have size : (us ++ []).length = ps.length := by rw [List.append_nil, ← r.length]; exact F.len _ _ _ _ h
  have bind := hb s us I.kIn size
  rw [List.append_nil] at bind
  refine wpAny_call (codeAny_mono (F.go X.A hg X.stack s H ⟨us, []⟩ us vs Q E hr I.env0 bind r h) ?_)
  intro res s' z
  cases res with
  | error er => exact hx pins σ H s er s' I z
  | ok fl => cases fl with
    | ret u => exact I.after z
    | next => exact z.elim
    | brk => exact z.elim
    | cont => exact z.elim
/-- f(e, ..) -/
theorem pe_callG (F : FnG X.prog X.w X.K X.mg X.base CX k f fd ps sp) (hg : X.A.guards = some []) (hr : Room k X.A) (gl : Gl X x) (hm : X.mg x = some (.ref f)) (kp : PySem.W.keepIn X.K (.ref f) = true) (hb : Binds X.K fd ps []) (hx : Passes CX X E)
    (ha : PA X (e :: es) t) (hdb : (x == ("__debug__" : Str)) = false) (he : starEach (e :: es) X.env = (false, eval e X.env) :: starEach es X.env) (hpl : (backTo pos (starEach es X.env)).any (·.1) = false) :
    PE X (.Call (.Name x p) (e :: es) [] pos) (tCall sp [] E t) := by
  constructor
  intro pins s σ H Q I h
  refine wpAny_Call_Name_kw (ld_glob I gl hm ?_ hdb)
  refine PySem.W.callWith_K (h₀ := X.base) I.ok.mod.kin kp (thn (ha.run pos pins s σ H _ I h) ?_) he hpl
  rintro us s1 ⟨vs, H1, I1, r, q⟩
  rw [List.append_nil] at q
  exact ⟨I1.kIn, runG F hg hr hb hx I1 r q⟩
/-- f() -/
theorem pe_callG0 (F : FnG X.prog X.w X.K X.mg X.base CX k f fd ps sp) (hg : X.A.guards = some []) (hr : Room k X.A) (gl : Gl X x) (hm : X.mg x = some (.ref f)) (kp : PySem.W.keepIn X.K (.ref f) = true) (hb : Binds X.K fd ps []) (hx : Passes CX X E)
    (hdb : (x == ("__debug__" : Str)) = false) : PE X (.Call (.Name x p) [] [] pos) (tCall sp [] E tNil) := by
  constructor
  intro pins s σ H Q I h
  refine wpAny_Call_Name_kw (ld_glob I gl hm ?_ hdb)
  exact PySem.W.callWith_K0 I.kIn kp (runG (us := []) (vs := []) F hg hr hb hx I .nil h)
end
/-- the law's call, where the heap that is told of holds the script alone -/
theorem core_call {P : Program} {w : World} {K : PySem.W.Frag} {mg mb : Str → Option Value} {CX : CXT} {k : Nat} {fa a : Addr} {fd : FuncData} {x : Str} {sp : Sp} {s₁ : Shared} {items : List Value} {ns : List Int}
    (inK : K.In s₁.heap) (gl : s₁.heap.Ns mainGlobals mg) (bl : s₁.heap.Ns builtinsNs mb) (boot : ∀ x : Str, x ≠ "__name__" → mb x = bootBuiltins x) (noLim : s₁.heap.NoLimit) (noGen : s₁.gens = #[])
    (script : s₁.heap.get? a = some { cls := .type "list", data := .seq items.toArray }) (room : Room k callerA)
    (F : ∀ base : Heap, K.In base → base.Ns mainGlobals mg → FnG P w K mg base CX k fa fd [x] sp) (bind : ∀ (s : Shared) (u : Value), BindsTo s fd ⟨[u], []⟩ [(x, u)])
    (told : ∀ H : Hp, Only H → SqL K H a (ns.map V.int) → sp [.ref a] H (fun v _ => v = .bl true) fun _ _ _ => False)
    (noExc : ∀ H e s', CX [] H s₁ (fun _ _ _ => False) e s' → False)
    (H : Hp) (only : Only H) (sq : SqL K H a (ns.map V.int)) (ok : HOk P w H s₁.heap) (alone : ∀ b, H b ≠ none → b = a) (out : H a ≠ none → K.lookup a = none) :
    codeAny (model P w) callerA (.call (.ref fa) ⟨[.ref a], []⟩) (fun r s' => r = .ok (.ret (.bool true)) ∧ OldK s₁.heap s'.heap ∧ s'.os = s₁.os ∧ AllBare s'.gens) s₁ := by
  have dictFree : ∀ {b : Addr} {o : Obj} {es : Array DictEntry} {ep : Nat}, s₁.heap.get? b = some o → o.data = .dict es ep → H b = none := by
    intro b o es ep q dt
    refine Classical.byContradiction fun z => ?_
    have := alone b z
    subst this
    rw [script] at q
    cases q
    cases dt
  have nsIn : ∀ {b : Addr} {m : Str → Option Value}, s₁.heap.Ns b m → (hidT s₁.heap H).Ns b m := by
    rintro b m ⟨o, es, ep, q, dt, rest⟩
    exact ⟨o, es, ep, hidT_get q (dictFree q dt), dt, rest⟩
  have kIn : K.In (hidT s₁.heap H) := by
    intro b o q
    refine hidT_get (inK b o q) (Classical.byContradiction fun z => ?_)
    have := alone b z
    subst this
    rw [out z] at q
    cases q
  have lim : (hidT s₁.heap H).NoLimit := by
    obtain ⟨mc, z1, z2⟩ := noLim
    exact ⟨mc, nsIn z1, z2⟩
  have env0 : Env0 P w K mg (hidT s₁.heap H) callerA [] s₁ H :=
    { frames := rfl, mod := ⟨kIn, nsIn gl, ⟨mb, nsIn bl, boot⟩, lim⟩, bs := fun b o q => of_hidT q, bsz := Nat.le_of_eq (hidT_size _ _), funs := trivial, frf := (fun b z => absurd (show b ∈ ([] : List Addr) from z) (by simp)), hok := ok, bare := .of_eq noGen }
  have run := (F _ kIn (nsIn gl)).go callerA rfl [] s₁ H ⟨[.ref a], []⟩ [.ref a] [.ref a] _ _ room env0 (bind s₁ (.ref a)) (.cons rfl .nil) (told H only sq)
  refine codeAny_mono run fun r s' z => ?_
  match r, z with
  | .error e, z => exact (noExc H e s' z).elim
  | .ok .next, z => exact z.elim
  | .ok .brk, z => exact z.elim
  | .ok .cont, z => exact z.elim
  | .ok (.ret u), ⟨v, H', os, bare, un, ok', rel, yes⟩ =>
    have yes : v = .bl true := yes
    subst yes
    have : u = Value.bool true := rel
    subst this
    refine ⟨rfl, OldK.of_keep fun b o q => ?_, os, bare⟩
    cases known : H b with
    | none => exact un.keep b o q known (by intro z; cases z) (by simp)
    | some t =>
      rcases only b with z | ⟨ob, xs, z⟩
      · rw [known] at z; cases z
      · obtain ⟨e1, _⟩ := ok b _ z
        obtain ⟨e2, _⟩ := ok' b _ (un.frzs b ob _ z)
        rw [q] at e1
        cases e1
        exact e2
/-- the law's call -/
theorem lawG_call {P : Program} {w : World} {K : PySem.W.Frag} {mg mb : Str → Option Value} {CX : CXT} {k : Nat} {fa a : Addr} {fd : FuncData} {x : Str} {sp : Sp} {s₁ : Shared} {items : List Value} {ns : List Int}
    (inK : K.In s₁.heap) (gl : s₁.heap.Ns mainGlobals mg) (bl : s₁.heap.Ns builtinsNs mb) (boot : ∀ x : Str, x ≠ "__name__" → mb x = bootBuiltins x) (noLim : s₁.heap.NoLimit) (noGen : s₁.gens = #[])
    (script : s₁.heap.get? a = some { cls := .type "list", data := .seq items.toArray }) (whole : IntsAre items ns) (few : ns.length ≤ sizeLine) (room : Room k callerA)
    (F : ∀ base : Heap, K.In base → base.Ns mainGlobals mg → FnG P w K mg base CX k fa fd [x] sp) (bind : ∀ (s : Shared) (u : Value), BindsTo s fd ⟨[u], []⟩ [(x, u)])
    (told : ∀ H : Hp, Only H → SqL K H a (ns.map V.int) → sp [.ref a] H (fun v _ => v = .bl true) fun _ _ _ => False)
    (noExc : ∀ H e s', CX [] H s₁ (fun _ _ _ => False) e s' → False) :
    codeAny (model P w) callerA (.call (.ref fa) ⟨[.ref a], []⟩) (fun r s' => r = .ok (.ret (.bool true)) ∧ OldK s₁.heap s'.heap ∧ s'.os = s₁.os ∧ AllBare s'.gens) s₁ := by
  have vals := vals_ints whole
  have size : items.toArray.size ≤ sizeLine := by rw [List.size_toArray, whole.length]; exact few
  have go := core_call (items := items) (ns := ns) inK gl bl boot noLim noGen script room F bind told noExc
  by_cases own : K.lookup a = none
  · refine go (fun b => if b = a then some (.frz { cls := .type "list", data := .seq items.toArray } (.lst (ns.map V.int))) else none) (fun b => ?_) (.inl (.inr ⟨{ cls := .type "list", data := .seq items.toArray }, if_pos rfl⟩)) (fun b u z => ?_) (fun b z => ?_) fun _ => own
    · by_cases c : b = a
      · exact .inr ⟨_, _, if_pos c⟩
      · exact .inl (if_neg c)
    · by_cases c : b = a
      · have z := (if_pos c).symm.trans z
        cases z
        subst c
        exact ⟨script, by rw [List.length_map]; exact few, items, _, vals, script⟩
      · have z := (if_neg c).symm.trans z
        cases z
    · exact Classical.byContradiction fun c => z (if_neg c)
  · obtain ⟨o, ho⟩ := Option.ne_none_iff_exists'.mp own
    have q := inK a o ho
    rw [script] at q
    cases q
    exact go (fun _ => none) (fun _ => .inl rfl) (.inr ⟨_, items.toArray, _, ho, rfl, rfl, rfl, size, by simpa using vals⟩) (fun b u z => by cases z) (fun b z => absurd rfl z) fun z => absurd rfl z
/-- a law whose defs know their guards -/
theorem walk_ofG {l : PySem.W.OpenLaw} {n k : Nat} {q : Program} {loose : List Str} {XP : (Str → Option Value) → Heap → Prop} {YP : World → Heap → Prop} {d : DefRec} {CX : CXT} {x : Str}
    (most : l.most = some n) (fits : n ≤ sizeLine) (noDfl : d.params.defaults = []) (room : Room k callerA)
    (F : ∀ (w : World) (mg : Str → Option Value) (fa : Addr) (h : Heap), YP w h → h.Ns mainGlobals mg → mg d.name = some (.ref fa) →
      ∃ (K : PySem.W.Frag) (fd : FuncData) (sp : Sp), K.In h ∧ (∀ (s : Shared) (u : Value), BindsTo s fd ⟨[u], []⟩ [(x, u)]) ∧
        (∀ (H : Hp) (a : Addr) (ns : List Int), ns.length ≤ n → Only H → SqL K H a (ns.map V.int) → sp [.ref a] H (fun v _ => v = .bl true) fun _ _ _ => False) ∧
        ∀ base : Heap, K.In base → base.Ns mainGlobals mg → FnG l.prog w K mg base CX k fa fd [x] sp)
    (noExc : ∀ (H : Hp) (s : Shared) (e : Value) (s' : Shared), CX [] H s (fun _ _ _ => False) e s' → False) :
    PySem.W.WalkO q loose XP YP l.row.toRowW d [] (fun f vs => PySem.call f vs) := by
  refine Att.attach_call most noDfl ?_
  intro w s₀ s₁ mg mb fa o pm cd doc a vs ns G Y _ _ _ named object whole few noGen
  obtain ⟨K, fd, sp, inK, bind, told, keep⟩ := F w mg fa _ Y G.T.g named
  exact lawG_call inK G.T.g G.T.b G.T.builtins G.T.nolimit noGen object whole (Nat.le_trans few fits) room keep bind (fun H only sq => told H a ns few only sq) fun H e s' => noExc H s₁ e s'
end CVN

set_option Elab.async false
set_option linter.all false
set_option maxRecDepth 100000
set_option maxHeartbeats 4000000
/-! CvE: expressions, tests, targets, what is walked. -/
namespace CV
open PySem PySem.Spec PyProof.Rows L2

/-! ### weaker wishes -/
theorem PE.imp {X : Cx} {e : Expr} {t t' : TE} (h : PE X e t) (w : ∀ σ H Q, t' σ H Q → t σ H Q) : PE X e t' := ⟨fun pins s σ H Q I q => h.run pins s σ H Q I (w _ _ _ q)⟩
theorem PT.imp {X : Cx} {e : Expr} {t t' : TT} (h : PT X e t) (w : ∀ σ H Q, t' σ H Q → t σ H Q) : PT X e t' := ⟨fun pins s σ H Q I q => h.run pins s σ H Q I (w _ _ _ q)⟩
theorem PA.imp {X : Cx} {e : List Expr} {t t' : TA} (h : PA X e t) (w : ∀ σ H Q, t' σ H Q → t σ H Q) : PA X e t' := ⟨fun pos pins s σ H Q I q => h.run pos pins s σ H Q I (w _ _ _ q)⟩
theorem PO.imp {X : Cx} {e : Option Expr} {t t' : TO} (h : PO X e t) (w : ∀ σ H Q, t' σ H Q → t σ H Q) : PO X e t' := ⟨fun pins s σ H Q I q => h.run pins s σ H Q I (w _ _ _ q)⟩
theorem PI.imp {X : Cx} {tg e : Expr} {t t' : TI} (h : PI X tg e t) (w : ∀ σ H R, t' σ H R → t σ H R) : PI X tg e t' := ⟨fun pins s σ H Q I q => h.run pins s σ H Q I (w _ _ _ q)⟩
theorem PG.imp {X : Cx} {e : Expr} {t t' : TG} (h : PG X e t) (w : ∀ v σ H Q, t' v σ H Q → t v σ H Q) : PG X e t' := ⟨fun pins s σ H v u Q I r q => h.run pins s σ H v u Q I r (w _ _ _ _ q)⟩
theorem PGs.imp {X : Cx} {e : List Expr} {t t' : TGs} (h : PGs X e t) (w : ∀ v σ H Q, t' v σ H Q → t v σ H Q) : PGs X e t' := ⟨fun pins s σ H v u Q I r q => h.run pins s σ H v u Q I r (w _ _ _ _ q)⟩
theorem PS.imp {X : Cx} {e : Stmt} {t t' : TS} (h : PS X e t) (w : ∀ D σ H, t' D σ H → t D σ H) : PS X e t' := ⟨fun pins s σ H D I q => h.run pins s σ H D I (w _ _ _ q)⟩
theorem PSs.imp {X : Cx} {e : List Stmt} {t t' : TS} (h : PSs X e t) (w : ∀ D σ H, t' D σ H → t D σ H) : PSs X e t' := ⟨fun pins s σ H D I q => h.run pins s σ H D I (w _ _ _ q)⟩
theorem PI.or {X : Cx} {tg e : Expr} {t t' : TI} (h : PI X tg e t) (h' : PI X tg e t') : PI X tg e (fun σ H R => t σ H R ∨ t' σ H R) := ⟨fun pins s σ H Q I q => q.elim (h.run pins s σ H Q I) (h'.run pins s σ H Q I)⟩

section
variable {K : PySem.W.Frag} {Gd : Str → Addr → Prop} {H H' : Hp} {ι ι' : Loc} {S S' : Sto} {σ : L2.St} {env : Env}

/-! ### readings by the evaluator -/
def tE (K : PySem.W.Frag) (Gd : Str → Addr → Prop) (g : Cst) (F : FT) (e : E) : TE := fun σ H Q =>
  ∃ ι S env r, Rel K Gd H ι S ∧ REnv K Gd H ι σ env ∧ evE g F e env S = some r ∧ Post K Gd H ι r Q
def tT (K : PySem.W.Frag) (Gd : Str → Addr → Prop) (g : Cst) (F : FT) (e : E) : TT := fun σ H Q =>
  ∃ ι S env b S', Rel K Gd H ι S ∧ REnv K Gd H ι σ env ∧ evT g F e env S = some (b, S') ∧ ∀ H' ι', Rel K Gd H' ι' S' → Ext H ι H' ι' → Q b H'
def tA (K : PySem.W.Frag) (Gd : Str → Addr → Prop) (g : Cst) (F : FT) (es : List E) : TA := fun σ H Q =>
  ∃ ι S env ds S', Rel K Gd H ι S ∧ REnv K Gd H ι σ env ∧ evEs g F es env S = some (ds, S') ∧ ∀ vs H' ι', Rel K Gd H' ι' S' → RDs K Gd H' ι' ds vs → Ext H ι H' ι' → Q vs H'
def tO (K : PySem.W.Frag) (Gd : Str → Addr → Prop) (g : Cst) (F : FT) (e : Option E) : TO := fun σ H Q =>
  ∃ ι S env i S', Rel K Gd H ι S ∧ REnv K Gd H ι σ env ∧ evO g F e env S = some (i, S') ∧ ∀ H' ι', Rel K Gd H' ι' S' → Ext H ι H' ι' → Q i H'

theorem REnv.keep (k : Kp K H ι H' ι') (h : REnv K Gd H ι σ env) : REnv K Gd H' ι' σ env := ⟨h.1, fun i d e => let ⟨v, h1, h2⟩ := h.2 i d e; ⟨v, h1, h2.keep k⟩⟩
theorem REnv.set {i : Nat} {d : D} {v : V} (h : REnv K Gd H ι σ env) (r : RD K Gd H ι d v) : REnv K Gd H ι (σ.set i (some v)) (env.set i (some d)) := by
  refine ⟨by simp [h.1], fun j e q => ?_⟩
  by_cases hj : i = j
  · subst hj
    have hl : i < env.length := by
      have := (List.getElem?_eq_some_iff.mp q).1
      simpa using this
    rw [List.getElem?_set_self hl] at q
    cases q
    exact ⟨v, by rw [List.getElem?_set_self (by rw [h.1]; exact hl)], r⟩
  · rw [List.getElem?_set_ne hj] at q ⊢
    exact h.2 j e q
theorem REnv.wipe (h : REnv K Gd H ι σ env) : ∀ vs : List Nat, REnv K Gd H ι (wipe σ vs) (wipeD env vs)
  | [] => h
  | v :: vs => by
    have ih := REnv.wipe h vs
    unfold L2.wipe wipeD
    refine ⟨by simp [ih.1], fun j e q => ?_⟩
    by_cases hj : v = j
    · subst hj
      have hl : v < (wipeD env vs).length := by
        have := (List.getElem?_eq_some_iff.mp q).1
        simpa using this
      rw [List.getElem?_set_self hl] at q
      cases q
    · rw [List.getElem?_set_ne hj] at q ⊢
      exact ih.2 j e q

/-! ### parts -/
variable {g : Cst} {F : FT}
theorem imp_bin {ia ib : E} {f : D → D → Sto → Option (D × Sto)} {r2 : R2} {x : E}
    (hx : ∀ env S r, evE g F x env S = some r → ∃ a S1 b S2 r', evE g F ia env S = some (a, S1) ∧ evE g F ib env S1 = some (b, S2) ∧ f a b S2 = some r' ∧ r = gc S r')
    (hr : ∀ x y H Q, rB K Gd f x y H Q → r2 x y H Q) : ∀ σ H Q, tE K Gd g F x σ H Q → tOp r2 (tE K Gd g F ia) (tE K Gd g F ib) σ H Q := by
  intro σ H Q ⟨ι, S, env, r, R, en, e, q⟩
  obtain ⟨a, S1, b, S2, r', e1, e2, e3, rfl⟩ := hx env S r e
  refine ⟨ι, S, env, (a, S1), R, en, e1, fun v1 H1 ι1 R1 r1 x1 => ?_⟩
  refine ⟨ι1, S1, env, (b, S2), R1, en.keep (x1.keeps R), e2, fun v2 H2 ι2 R2 r2' x2 => ?_⟩
  refine hr _ _ _ _ ⟨ι2, S2, a, b, r', R2, r1.keep (x2.keeps R1), r2', e3, ?_⟩
  exact Post.step (x1.trans x2) (q.gc R)
end

/-! ### the context -/
/-- what a def promises, by the evaluator -/
def spF (K : PySem.W.Frag) (Gd : Str → Addr → Prop) (F : FT) (f : Str) (np : Nat) : Sp := fun vs H Q _ =>
  ∃ ι S ds r, Rel K Gd H ι S ∧ RDs K Gd H ι ds vs ∧ ds.length = np ∧ F f ds S = some r ∧ Post K Gd H ι r Q
/-- the built-in names that the evaluator uses are the built-in ones -/
def bltNames : List Str := ["len", "list", "tuple", "all", "any", "abs", "max", "min", "isinstance", "int", "str", "bool", "dict", "range", "repr"]
structure FnAt (P : Program) (w : World) (K : PySem.W.Frag) (mg : Str → Option Value) (base : Heap) (Gd : Str → Addr → Prop) (F : FT) (k : Nat) (x : Str) : Prop where
  ex : ∃ (fa : Addr) (fd : FuncData) (ps : List Str), CVN.FnG P w K mg base CX0 k fa fd ps (spF K Gd F x ps.length) ∧ mg x = some (.ref fa) ∧ PySem.W.keepIn K (.ref fa) = true ∧ Binds K fd ps [] ∧
    ∀ ds S r, F x ds S = some r → ds.length = ps.length
structure Ok (X : Cx) (tb : Tb) (N : List Str) (Gd : Str → Addr → Prop) (g : Cst) (F : FT) (k : Nat) : Prop where
  names : X.N = N
  nd : X.N.Nodup
  calm : X.calm = true
  room : Room k X.A
  gu : X.A.guards = some []
  G : GdOk X.K X.w Gd g
  cst : ∀ x d, tb.cst.lookup x = some d → ∃ u v, X.mg x = some u ∧ RelV v u ∧ ∀ H ι, RD X.K Gd H ι d v
  gds : ∀ x ∈ tb.gds, ∃ a, X.mg x = some (.ref a) ∧ Gd x a
  fns : ∀ x ∈ tb.fns, FnAt X.prog X.w X.K X.mg X.base Gd F k x
  blt : ∀ x ∈ bltNames, X.mg x = none

section
variable {X : Cx} {tb : Tb} {N : List Str} {Gd : Str → Addr → Prop} {g : Cst} {F : FT} {k : Nat}
theorem Ok.hu (O : Ok X tb N Gd g F k) : X.A.units + 65 < cLine := by
  have := O.room.un
  omega
/-- in a comprehension's block -/
theorem Ok.blk (O : Ok X tb N Gd g F k) {s : Shared} {H : Hp} {scope : Scope} {C : Addr} {cl : List (Str × Addr)} {fp : List Addr} : Ok (X.blk s H scope (compEnvC scope cl C X.env) fp) tb N Gd g F k :=
  ⟨O.names, O.nd, O.calm, O.room, O.gu, O.G, O.cst, O.gds, O.fns, O.blt⟩

theorem seen_vis {X : Cx} {sc : Scope} (e : X.env.scope = sc) {x : Str} (h : seen sc x = true) : Vis X.env.scope x := by
  subst e
  unfold seen at h
  unfold Vis
  split at h <;> first | (rename_i q; exact .inl q) | (rename_i q; exact .inr (.inl q)) | (rename_i q; exact .inr (.inr q)) | cases h
theorem owned_loc {X : Cx} {sc : Scope} (e : X.env.scope = sc) {x : Str} (h : owned sc x = true) : L2.Loc X.env.scope x := by
  subst e
  unfold owned at h
  unfold L2.Loc
  split at h <;> first | (rename_i q; exact .inl q) | (rename_i q; exact .inr q) | cases h
theorem glob_gl {X : Cx} {sc : Scope} (e : X.env.scope = sc) {x : Str} (h : glob sc x = true) : Gl X x := by
  subst e
  unfold glob at h
  unfold Gl
  split at h
  · rename_i q
    exact q
  · cases h
theorem ixOf_get {x : Str} : ∀ {ys : List Str} {n i : Nat}, ixOf x ys n = some i → n ≤ i ∧ ys[i - n]? = some x
  | [], _, _, h => by simp [ixOf] at h
  | y :: ys, n, i, h => by
    unfold ixOf at h
    split at h
    · rename_i e
      cases h
      subst e
      exact ⟨Nat.le_refl _, by simp⟩
    · obtain ⟨h1, h2⟩ := ixOf_get h
      refine ⟨by omega, ?_⟩
      have e : i - n = (i - (n + 1)) + 1 := by omega
      rw [e, List.getElem?_cons_succ]
      exact h2
theorem ixOf_at {x : Str} {ys : List Str} {i : Nat} (h : ixOf x ys 0 = some i) : ys[i]? = some x := by
  have := (ixOf_get h).2
  simpa using this
theorem plainN_ok {x : Str} (h : plainN x = true) : (x == ("__debug__" : Str)) = false ∧ (x == ("__classdict__" : Str)) = false ∧ x ≠ "__name__" := by
  unfold plainN at h
  simp only [Bool.and_eq_true, Bool.not_eq_true'] at h
  exact ⟨h.1.1, h.1.2, fun e => by
    have := h.2
    rw [e] at this
    simp at this⟩
theorem star_cons {e : Expr} {es : List Expr} {env : PySem.Env} (h : notStar e = true) : starEach (e :: es) env = (false, eval e env) :: starEach es env := by
  cases e <;> first | rfl | cases h
theorem star_plain {pos : Pos} {env : PySem.Env} : ∀ {es : List Expr}, es.all notStar = true → (backTo pos (starEach es env)).any (·.1) = false
  | [], _ => rfl
  | e :: es, h => by
    simp only [List.all_cons, Bool.and_eq_true] at h
    rw [star_cons h.1]
    show (false || (backTo pos (starEach es env)).any (·.1)) = false
    rw [star_plain h.2]
    rfl

/-! ### single expressions -/
theorem se_var {i : Nat} {x : Str} {pos : Pos} {sc : Scope} (O : Ok X tb N Gd g F k) (hs : X.env.scope = sc) (h : seen sc x = true) (hp : plainN x = true) (hi : ixOf x N 0 = some i) : PE X (.Name x pos) (tE X.K Gd g F (.var i)) := by
  obtain ⟨p1, p2, _⟩ := plainN_ok hp
  refine PE.imp (pe_var (i := i) (by rw [O.names]; exact ixOf_at hi) (seen_vis hs h) p1 p2) fun σ H Q q => ?_
  obtain ⟨ι, S, env, r, R, en, e, q⟩ := q
  simp only [evE] at e
  split at e <;> cases e
  rename_i d e0
  obtain ⟨v, h1, h2⟩ := en.2 i d e0
  exact ⟨v, h1, q.at_ R h2⟩
theorem se_cst {e : Expr} {d : D} {v : V} (h : PE X e (tC v)) (r : ∀ H ι, RD X.K Gd H ι d v) : PE X e (tE X.K Gd g F (.cst d)) := by
  refine PE.imp h fun σ H Q q => ?_
  obtain ⟨ι, S, env, r', R, en, e, q⟩ := q
  simp only [evE, Option.some.injEq] at e
  subst e
  exact q.at_ R (r _ _)
theorem se_bin {a b : Expr} {ia ib : E} {op : Operator} {o : Bop} {pos : Pos} (ho : bopC op = some o) (ha : PE X a (tE X.K Gd g F ia)) (hb : PE X b (tE X.K Gd g F ib)) : PE X (.BinOp a op b pos) (tE X.K Gd g F (.bin o ia ib)) := by
  have e := bopC_eq ho
  subst e
  refine PE.imp (pe_op (opB (Gd := Gd) o) ha hb) (imp_bin (f := binD o) (fun env S r h => ?_) fun x y H Q q => q)
  simp only [evE] at h
  split at h <;> try cases h
  rename_i a S1 e1
  split at h <;> try cases h
  rename_i b S2 e2
  simp only [Option.map_eq_some_iff] at h
  obtain ⟨r', e3, rfl⟩ := h
  exact ⟨a, S1, b, S2, r', e1, e2, e3, rfl⟩
theorem se_neg {a : Expr} {ia : E} {pos : Pos} (ha : PE X a (tE X.K Gd g F ia)) : PE X (.UnaryOp .USub a pos) (tE X.K Gd g F (.neg ia)) := by
  refine PE.imp (pe_un un_neg ha) fun σ H Q q => ?_
  obtain ⟨ι, S, env, r, R, en, e, q⟩ := q
  simp only [evE] at e
  split at e <;> cases e
  rename_i i S1 e1
  refine ⟨ι, S, env, (.int i, S1), R, en, e1, fun v H1 ι1 R1 r1 x1 => ?_⟩
  cases r1
  exact ⟨i, rfl, (q.step x1).at_ R1 (.int _)⟩
/-- two values compared -/
theorem imp_cmp {ia ib : E} {f : D → D → Sto → Option Bool} {r2 : R2} {x : E} {fin : Sto → D × Sto → D × Sto} (hfin : ∀ S r, fin S r = r ∨ fin S r = gc S r)
    (hx : ∀ env S r, evE g F x env S = some r → ∃ a S1 b S2 k, evE g F ia env S = some (a, S1) ∧ evE g F ib env S1 = some (b, S2) ∧ f a b S2 = some k ∧ r = fin S (.bl k, S2))
    (hr : ∀ x y H Q, rC X.K Gd f x y H Q → r2 x y H Q) : ∀ σ H Q, tE X.K Gd g F x σ H Q → tOp r2 (tE X.K Gd g F ia) (tE X.K Gd g F ib) σ H Q := by
  intro σ H Q ⟨ι, S, env, r, R, en, e, q⟩
  obtain ⟨a, S1, b, S2, k, e1, e2, e3, rfl⟩ := hx env S r e
  refine ⟨ι, S, env, (a, S1), R, en, e1, fun v1 H1 ι1 R1 r1 x1 => ?_⟩
  refine ⟨ι1, S1, env, (b, S2), R1, en.keep (x1.keeps R), e2, fun v2 H2 ι2 R2 r2' x2 => ?_⟩
  refine hr _ _ _ _ ⟨ι2, S2, a, b, k, R2, r1.keep (x2.keeps R1), r2', e3, ?_⟩
  have q' : Post X.K Gd H ι (.bl k, S2) Q := by
    rcases hfin S (.bl k, S2) with h | h
    · rw [h] at q; exact q
    · rw [h] at q; exact q.gc R
  exact (q'.step (x1.trans x2)).at_ R2 (.bl k)
theorem se_cmp {a b : Expr} {ia ib : E} {op : CmpOp} {o : Cop} {pos : Pos} (O : Ok X tb N Gd g F k) (ho : copC op = some o) (hm : behindInMarks op b = false) (ha : PE X a (tE X.K Gd g F ia)) (hb : PE X b (tE X.K Gd g F ib)) :
    PE X (.Compare a [op] [b] pos) (tE X.K Gd g F (.cmp o ia ib)) ∧ PT X (.Compare a [op] [b] pos) (tT X.K Gd g F (.cmp o ia ib)) := by
  have e := copC_eq ho
  subst e
  have w : ∀ σ H Q, tE X.K Gd g F (.cmp o ia ib) σ H Q → tOp (rC X.K Gd fun a b S => cmpD g o a b S) (tE X.K Gd g F ia) (tE X.K Gd g F ib) σ H Q :=
    imp_cmp (f := fun a b S => cmpD g o a b S) (fin := gc) (fun S r => .inr rfl) (fun env S r h => by
      simp only [evE] at h
      split at h <;> try cases h
      rename_i a S1 e1
      split at h <;> try cases h
      rename_i b S2 e2
      simp only [Option.map_eq_some_iff] at h
      obtain ⟨r', e3, rfl⟩ := h
      exact ⟨a, S1, b, S2, r', e1, e2, e3, rfl⟩) fun x y H Q q => q
  refine ⟨PE.imp (pe_cmpR (opC O.G O.hu o) ha hb hm) w, PT.imp (pt_cmpR (opC O.G O.hu o) ha hb hm) fun σ H Q q => ?_⟩
  obtain ⟨ι, S, env, c, S', R, en, e, q⟩ := q
  refine w σ H _ ?_
  simp only [evT] at e
  split at e <;> try cases e
  rename_i d S1 e1
  split at e <;> cases e
  rename_i e2
  refine ⟨ι, S, env, (d, _), R, en, e1, fun v H1 ι1 R1 r1 x1 => ?_⟩
  have hd : ∃ j, d = .bl j := by
    simp only [evE] at e1
    split at e1 <;> try cases e1
    split at e1 <;> try cases e1
    simp only [Option.map_eq_some_iff] at e1
    obtain ⟨j, _, h⟩ := e1
    have hg := congrArg Prod.fst h
    refine ⟨j, ?_⟩
    have : ∀ S2, (gc S (.bl j, S2)).1 = .bl j := fun S2 => by
      unfold gc gc0
      split
      · rfl
      · split <;> rfl
    rw [this] at hg
    exact hg.symm
  obtain ⟨j, rfl⟩ := hd
  cases r1
  simp only [truth, Option.some.injEq] at e2
  subst e2
  exact ⟨j, rfl, q _ _ R1 x1⟩

theorem se_chain {a b c : Expr} {ia ib ic : E} {op op' : CmpOp} {o o' : Cop} {pos : Pos} (O : Ok X tb N Gd g F k) (ho : copC op = some o) (ho' : copC op' = some o') (hm : lastMarks [op, op'] [b, c] = false)
    (ha : PE X a (tE X.K Gd g F ia)) (hb : PE X b (tE X.K Gd g F ib)) (hc : PE X c (tE X.K Gd g F ic)) :
    PE X (.Compare a [op, op'] [b, c] pos) (tE X.K Gd g F (.chain o o' ia ib ic)) ∧ PT X (.Compare a [op, op'] [b, c] pos) (tT X.K Gd g F (.chain o o' ia ib ic)) := by
  have e := copC_eq ho
  subst e
  have e := copC_eq ho'
  subst e
  have w : ∀ σ H Q, (∃ ι S env kb S', Rel X.K Gd H ι S ∧ REnv X.K Gd H ι σ env ∧ evE g F (.chain o o' ia ib ic) env S = some (.bl kb, S') ∧ ∀ H' ι', Rel X.K Gd H' ι' S' → Ext H ι H' ι' → Q (.bl kb) H') →
      tChain (rC X.K Gd fun a b S => cmpD g o a b S) (rC X.K Gd fun a b S => cmpD g o' a b S) (tE X.K Gd g F ia) (tE X.K Gd g F ib) (tE X.K Gd g F ic) σ H Q := by
    intro σ H Q ⟨ι, S, env, kb, S', R, en, e, q⟩
    simp only [evE] at e
    split at e <;> try cases e
    rename_i a S1 e1
    split at e <;> try cases e
    rename_i b S2 e2
    refine ⟨ι, S, env, (a, S1), R, en, e1, fun v1 H1 ι1 R1 r1 x1 => ?_⟩
    refine ⟨ι1, S1, env, (b, S2), R1, en.keep (x1.keeps R), e2, fun v2 H2 ι2 R2 r2 x2 => ?_⟩
    have r1' := r1.keep (x2.keeps R1)
    split at e
    · rename_i e3
      split at e <;> try cases e
      rename_i c S3 e4
      simp only [Option.map_eq_some_iff] at e
      obtain ⟨j, e5, e6⟩ := e
      cases e6
      refine ⟨ι2, S2, a, b, true, R2, r1', r2, e3, true, rfl, ?_⟩
      refine iteT ?_
      refine ⟨ι2, S2, env, (c, _), R2, (en.keep (x1.keeps R)).keep (x2.keeps R1), e4, fun v3 H3 ι3 R3 r3 x3 => ?_⟩
      exact ⟨ι3, _, b, c, _, R3, r2.keep (x3.keeps R2), r3, e5, q _ _ R3 ((x1.trans x2).trans x3)⟩
    · rename_i e3
      cases e
      refine ⟨ι2, _, a, b, false, R2, r1', r2, e3, false, rfl, ?_⟩
      refine iteF ?_
      exact q _ _ R2 (x1.trans x2)
    · cases e
  have hd : ∀ env S r, evE g F (.chain o o' ia ib ic) env S = some r → ∃ j, r.1 = .bl j := fun env S r e => by
    simp only [evE] at e
    split at e <;> try cases e
    split at e <;> try cases e
    split at e <;> try cases e
    · split at e <;> try cases e
      simp only [Option.map_eq_some_iff] at e
      obtain ⟨j, _, h⟩ := e
      exact ⟨j, by rw [← h]⟩
    · exact ⟨false, rfl⟩
  refine ⟨PE.imp (pe_chain (opC O.G O.hu o) (opC O.G O.hu o') ha hb hc hm) fun σ H Q q => ?_, PT.imp (pt_chain (opC O.G O.hu o) (opC O.G O.hu o') ha hb hc hm) fun σ H Q q => ?_⟩
  · obtain ⟨ι, S, env, r, R, en, e, q⟩ := q
    obtain ⟨j, hj⟩ := hd env S r e
    refine w σ H Q ⟨ι, S, env, j, r.2, R, en, by rw [e, ← hj], fun H' ι' R' x' => ?_⟩
    exact q _ H' ι' R' (by rw [hj]; exact .bl j) x'
  · obtain ⟨ι, S, env, c, S', R, en, e, q⟩ := q
    simp only [evT] at e
    split at e <;> try cases e
    rename_i d S1 e1
    split at e <;> cases e
    rename_i e2
    obtain ⟨j, hj⟩ := hd env S _ e1
    have hj : d = .bl j := hj
    subst hj
    simp only [truth, Option.some.injEq] at e2
    subst e2
    exact w σ H _ ⟨ι, S, env, j, _, R, en, e1, fun H' ι' R' x' => ⟨j, rfl, q _ _ R' x'⟩⟩

theorem se_is {a b : Expr} {ia ib : E} {neg : Bool} {pos : Pos} (O : Ok X tb N Gd g F k) (ha : PE X a (tE X.K Gd g F ia)) (hb : PE X b (tE X.K Gd g F ib)) :
    PE X (.Compare a [if neg then .IsNot else .Is] [b] pos) (tE X.K Gd g F (.is_ neg ia ib)) ∧ PT X (.Compare a [if neg then .IsNot else .Is] [b] pos) (tT X.K Gd g F (.is_ neg ia ib)) := by
  have hm : behindInMarks (if neg then .IsNot else .Is) b = false := nobehind b (by cases neg <;> decide) (by cases neg <;> decide)
  have w : ∀ σ H Q, tE X.K Gd g F (.is_ neg ia ib) σ H Q → tOp (rC X.K Gd fun a b _ => (isD a b).map fun k => if neg then !k else k) (tE X.K Gd g F ia) (tE X.K Gd g F ib) σ H Q :=
    imp_cmp (f := fun a b _ => (isD a b).map fun k => if neg then !k else k) (fin := fun _ r => r) (fun S r => .inl rfl) (fun env S r h => by
      simp only [evE] at h
      split at h <;> try cases h
      rename_i a S1 e1
      split at h <;> try cases h
      rename_i b S2 e2
      simp only [Option.map_eq_some_iff] at h
      obtain ⟨r', e3, rfl⟩ := h
      exact ⟨a, S1, b, S2, _, e1, e2, by rw [e3]; rfl, rfl⟩) fun x y H Q q => q
  refine ⟨PE.imp (pe_cmpR (op_isD (Gd := Gd) neg) ha hb hm) w, PT.imp (pt_cmpR (op_isD (Gd := Gd) neg) ha hb hm) fun σ H Q q => ?_⟩
  obtain ⟨ι, S, env, c, S', R, en, e, q⟩ := q
  refine w σ H _ ?_
  simp only [evT] at e
  split at e <;> try cases e
  rename_i d S1 e1
  split at e <;> cases e
  rename_i e2
  refine ⟨ι, S, env, (d, _), R, en, e1, fun v H1 ι1 R1 r1 x1 => ?_⟩
  have hd : ∃ j, d = .bl j := by
    simp only [evE] at e1
    split at e1 <;> try cases e1
    split at e1 <;> try cases e1
    simp only [Option.map_eq_some_iff] at e1
    obtain ⟨j, _, h⟩ := e1
    cases h
    exact ⟨_, rfl⟩
  obtain ⟨j, rfl⟩ := hd
  cases r1
  simp only [truth, Option.some.injEq] at e2
  subst e2
  exact ⟨j, rfl, q _ _ R1 x1⟩

/-- an expression whose test is its value's truth -/
theorem st_plain {a : Expr} {ia : E} (ha : PE X a (tE X.K Gd g F ia)) (he : ∀ whole, isTrue a X.env whole = (do let v ← whole; standAt a.pos; holding [v] (truthy v)))
    (hi : ∀ env S, evT g F ia env S = match evE g F ia env S with
      | some (d, S1) => match truth S1 d with
        | some k => some (k, S1)
        | none => none
      | none => none) : PT X a (tT X.K Gd g F ia) := by
  refine PT.imp (pt_truth ha he) fun σ H Q q => ?_
  obtain ⟨ι, S, env, c, S', R, en, e, q⟩ := q
  rw [hi] at e
  split at e <;> try cases e
  rename_i d S1 e1
  split at e <;> cases e
  rename_i e2
  exact ⟨ι, S, env, (d, _), R, en, e1, fun v H1 ι1 R1 r1 x1 => ⟨c, truth_ok R1 r1 e2, q _ _ R1 x1⟩⟩

theorem se_and {a : Expr} {b : Expr} {rest : List Expr} {ia ib : E} {pos : Pos} (ha : PE X a (tE X.K Gd g F ia)) (hb : PE X (.BoolOp .And (b :: rest) pos) (tE X.K Gd g F ib)) :
    PE X (.BoolOp .And (a :: b :: rest) pos) (tE X.K Gd g F (.and_ ia ib)) := by
  refine PE.imp (pe_and ha hb) fun σ H Q q => ?_
  obtain ⟨ι, S, env, r, R, en, e, q⟩ := q
  simp only [evE] at e
  split at e <;> try cases e
  · rename_i S1 e1
    refine ⟨ι, S, env, (.bl true, S1), R, en, e1, fun v H1 ι1 R1 r1 x1 => ?_⟩
    cases r1
    exact ⟨true, rfl, iteT (⟨ι1, S1, env, r, R1, en.keep (x1.keeps R), e, q.step x1⟩)⟩
  · rename_i S1 e1
    refine ⟨ι, S, env, (.bl false, S1), R, en, e1, fun v H1 ι1 R1 r1 x1 => ?_⟩
    cases r1
    exact ⟨false, rfl, iteF ((q.step x1).at_ R1 (.bl _))⟩
theorem se_or {a : Expr} {b : Expr} {rest : List Expr} {ia ib : E} {pos : Pos} (ha : PE X a (tE X.K Gd g F ia)) (hb : PE X (.BoolOp .Or (b :: rest) pos) (tE X.K Gd g F ib)) :
    PE X (.BoolOp .Or (a :: b :: rest) pos) (tE X.K Gd g F (.or_ ia ib)) := by
  refine PE.imp (pe_or ha hb) fun σ H Q q => ?_
  obtain ⟨ι, S, env, r, R, en, e, q⟩ := q
  simp only [evE] at e
  split at e <;> try cases e
  · rename_i S1 e1
    refine ⟨ι, S, env, (.bl false, S1), R, en, e1, fun v H1 ι1 R1 r1 x1 => ?_⟩
    cases r1
    exact ⟨false, rfl, iteF (⟨ι1, S1, env, r, R1, en.keep (x1.keeps R), e, q.step x1⟩)⟩
  · rename_i S1 e1
    refine ⟨ι, S, env, (.bl true, S1), R, en, e1, fun v H1 ι1 R1 r1 x1 => ?_⟩
    cases r1
    exact ⟨true, rfl, iteT ((q.step x1).at_ R1 (.bl _))⟩
theorem ptBool {op : BoolOp} {vs : List Expr} {pos : Pos} {t : TT} (h : PT X (.BoolOp op vs pos) t) : PW X (.BoolOp op vs pos) t := ⟨fun whole pins s σ H Q I q => by
  have := h.run pins s σ H Q I q
  rw [arm_isTrue_BoolOp] at this ⊢
  exact this⟩
theorem st_and {a : Expr} {b : Expr} {rest : List Expr} {ia ib : E} {pos : Pos} (ha : PT X a (tT X.K Gd g F ia)) (hb : PT X (.BoolOp .And (b :: rest) pos) (tT X.K Gd g F ib)) :
    PT X (.BoolOp .And (a :: b :: rest) pos) (tT X.K Gd g F (.and_ ia ib)) := by
  refine PT.imp (pw_and ha (ptBool hb)).pt fun σ H Q q => ?_
  obtain ⟨ι, S, env, c, S', R, en, e, q⟩ := q
  simp only [evT] at e
  split at e <;> try cases e
  · rename_i S1 e1
    refine ⟨ι, S, env, true, S1, R, en, e1, fun H1 ι1 R1 x1 => ?_⟩
    refine iteT ?_
    exact ⟨ι1, S1, env, c, S', R1, en.keep (x1.keeps R), e, fun H' ι' R' x' => q _ _ R' (x1.trans x')⟩
  · rename_i e1
    refine ⟨ι, S, env, false, _, R, en, e1, fun H1 ι1 R1 x1 => ?_⟩
    refine iteF ?_
    exact q _ _ R1 x1
theorem st_or {a : Expr} {b : Expr} {rest : List Expr} {ia ib : E} {pos : Pos} (ha : PT X a (tT X.K Gd g F ia)) (hb : PT X (.BoolOp .Or (b :: rest) pos) (tT X.K Gd g F ib)) :
    PT X (.BoolOp .Or (a :: b :: rest) pos) (tT X.K Gd g F (.or_ ia ib)) := by
  refine PT.imp (pw_or ha (ptBool hb)).pt fun σ H Q q => ?_
  obtain ⟨ι, S, env, c, S', R, en, e, q⟩ := q
  simp only [evT] at e
  split at e <;> try cases e
  · rename_i S1 e1
    refine ⟨ι, S, env, false, S1, R, en, e1, fun H1 ι1 R1 x1 => ?_⟩
    refine iteF ?_
    exact ⟨ι1, S1, env, c, S', R1, en.keep (x1.keeps R), e, fun H' ι' R' x' => q _ _ R' (x1.trans x')⟩
  · rename_i e1
    refine ⟨ι, S, env, true, _, R, en, e1, fun H1 ι1 R1 x1 => ?_⟩
    refine iteT ?_
    exact q _ _ R1 x1
theorem se_not {a : Expr} {ia : E} {pos : Pos} (ha : PE X a (tE X.K Gd g F ia)) : PE X (.UnaryOp .Not a pos) (tE X.K Gd g F (.not_ ia)) := by
  refine PE.imp (pe_not ha) fun σ H Q q => ?_
  obtain ⟨ι, S, env, r, R, en, e, q⟩ := q
  simp only [evE] at e
  split at e <;> cases e
  rename_i k S1 e1
  refine ⟨ι, S, env, (.bl k, S1), R, en, e1, fun v H1 ι1 R1 r1 x1 => ?_⟩
  cases r1
  exact ⟨k, rfl, (q.step x1).at_ R1 (.bl _)⟩
theorem st_not {a : Expr} {ia : E} {pos : Pos} (ha : PT X a (tT X.K Gd g F ia)) : PT X (.UnaryOp .Not a pos) (tT X.K Gd g F (.not_ ia)) := by
  refine PT.imp (pt_not ha) fun σ H Q q => ?_
  obtain ⟨ι, S, env, c, S', R, en, e, q⟩ := q
  simp only [evT] at e
  split at e <;> cases e
  rename_i k e1
  exact ⟨ι, S, env, k, _, R, en, e1, fun H1 ι1 R1 x1 => q _ _ R1 x1⟩
theorem se_ife {c a b : Expr} {ic ia ib : E} {pos : Pos} (hc : PT X c (tT X.K Gd g F ic)) (ha : PE X a (tE X.K Gd g F ia)) (hb : PE X b (tE X.K Gd g F ib)) : PE X (.IfExp c a b pos) (tE X.K Gd g F (.ife ic ia ib)) := by
  refine PE.imp (pe_ifExp hc ha hb) fun σ H Q q => ?_
  obtain ⟨ι, S, env, r, R, en, e, q⟩ := q
  simp only [evE] at e
  split at e <;> try cases e
  · rename_i S1 e1
    refine ⟨ι, S, env, true, S1, R, en, e1, fun H1 ι1 R1 x1 => ?_⟩
    refine iteT ?_
    exact ⟨ι1, S1, env, r, R1, en.keep (x1.keeps R), e, q.step x1⟩
  · rename_i S1 e1
    refine ⟨ι, S, env, false, S1, R, en, e1, fun H1 ι1 R1 x1 => ?_⟩
    refine iteF ?_
    exact ⟨ι1, S1, env, r, R1, en.keep (x1.keeps R), e, q.step x1⟩
theorem pt_ifExp {tc ta tb : TT} {c a b : Expr} {pos : Pos} (hc : PT X c tc) (ha : PT X a ta) (hb : PT X b tb) : PT X (.IfExp c a b pos) (fun σ H Q => tc σ H fun k H1 => if k = true then ta σ H1 Q else tb σ H1 Q) := by
  refine ⟨fun pins s σ H Q I h => ?_⟩
  refine isTrue_IfExp (thn (hc.run pins s σ H _ I h) fun d s1 ⟨H1, I1, q1⟩ => ?_)
  cases d with
  | true => exact ha.run pins s1 σ H1 Q I1 q1
  | false => exact hb.run pins s1 σ H1 Q I1 q1
theorem st_ife {c a b : Expr} {ic ia ib : E} {pos : Pos} (hc : PT X c (tT X.K Gd g F ic)) (ha : PT X a (tT X.K Gd g F ia)) (hb : PT X b (tT X.K Gd g F ib)) : PT X (.IfExp c a b pos) (tT X.K Gd g F (.ife ic ia ib)) := by
  refine PT.imp (pt_ifExp hc ha hb) fun σ H Q q => ?_
  obtain ⟨ι, S, env, k, S', R, en, e, q⟩ := q
  simp only [evT] at e
  split at e <;> try cases e
  · rename_i S1 e1
    refine ⟨ι, S, env, true, S1, R, en, e1, fun H1 ι1 R1 x1 => ?_⟩
    refine iteT ?_
    exact ⟨ι1, S1, env, k, S', R1, en.keep (x1.keeps R), e, fun H' ι' R' x' => q _ _ R' (x1.trans x')⟩
  · rename_i S1 e1
    refine ⟨ι, S, env, false, S1, R, en, e1, fun H1 ι1 R1 x1 => ?_⟩
    refine iteF ?_
    exact ⟨ι1, S1, env, k, S', R1, en.keep (x1.keeps R), e, fun H' ι' R' x' => q _ _ R' (x1.trans x')⟩

/-! ### lists of expressions -/
theorem sa_nil : PA X [] (tA X.K Gd g F []) := PA.imp pa_nil fun σ H Q q => by
  obtain ⟨ι, S, env, ds, S', R, en, e, q⟩ := q
  simp only [evEs, Option.some.injEq, Prod.mk.injEq] at e
  obtain ⟨rfl, rfl⟩ := e
  exact q [] H ι R .nil Ext.refl
theorem sa_cons {e : Expr} {es : List Expr} {ie : E} {ies : List E} (hn : notStar e = true) (he : PE X e (tE X.K Gd g F ie)) (hes : PA X es (tA X.K Gd g F ies)) : PA X (e :: es) (tA X.K Gd g F (ie :: ies)) :=
  PA.imp (pa_cons he hes (star_cons hn)) fun σ H Q q => by
    obtain ⟨ι, S, env, ds, S', R, en, e, q⟩ := q
    simp only [evEs] at e
    split at e <;> try cases e
    rename_i d S1 e1
    split at e <;> cases e
    rename_i ds' e2
    refine ⟨ι, S, env, (d, S1), R, en, e1, fun v H1 ι1 R1 r1 x1 => ?_⟩
    refine ⟨ι1, S1, env, ds', _, R1, en.keep (x1.keeps R), e2, fun vs H2 ι2 R2 r2 x2 => ?_⟩
    exact q _ _ _ R2 (.cons (r1.keep (x2.keeps R1)) r2) (x1.trans x2)
theorem se_tup {es : List Expr} {ies : List E} {n : Nat} {pos : Pos} (h : PA X es (tA X.K Gd g F ies)) : PE X (.Tuple es n pos) (tE X.K Gd g F (.tup ies)) :=
  PE.imp (pe_tup h) fun σ H Q q => by
    obtain ⟨ι, S, env, r, R, en, e, q⟩ := q
    simp only [evE] at e
    split at e <;> try cases e
    rename_i ds S1 e1
    split at e <;> cases e
    rename_i hl
    refine ⟨ι, S, env, ds, S1, R, en, e1, fun vs H1 ι1 R1 r1 x1 => ⟨by rw [← r1.length, ← cap_eq]; exact hl, fun p hp => ?_⟩⟩
    exact (q.step x1).tup R1 r1 p hp
theorem se_lst {es : List Expr} {ies : List E} {pos : Pos} (h : PA X es (tA X.K Gd g F ies)) : PE X (.List es pos) (tE X.K Gd g F (.lst ies)) :=
  PE.imp (pe_lst h) fun σ H Q q => by
    obtain ⟨ι, S, env, r, R, en, e, q⟩ := q
    simp only [evE] at e
    split at e <;> try cases e
    rename_i ds S1 e1
    split at e <;> cases e
    rename_i hl
    refine ⟨ι, S, env, ds, S1, R, en, e1, fun vs H1 ι1 R1 r1 x1 => ⟨by rw [← r1.length, ← cap_eq]; exact hl, fun p hp => ?_⟩⟩
    exact (q.step x1).lst R1 r1 p hp

/-! ### calls -/
theorem se_call {f : Str} {p pos : Pos} {e : Expr} {es : List Expr} {ies : List E} {sc : Scope} (O : Ok X tb N Gd g F k) (hs : X.env.scope = sc) (hg : glob sc f = true) (hp : plainN f = true) (hf : f ∈ tb.fns) (hn : (e :: es).all notStar = true)
    (h : PA X (e :: es) (tA X.K Gd g F ies)) : PE X (.Call (.Name f p) (e :: es) [] pos) (tE X.K Gd g F (.call f ies)) := by
  obtain ⟨fa, fd, ps, hF, hm, hk, hb, hl⟩ := (O.fns f hf).ex
  simp only [List.all_cons, Bool.and_eq_true] at hn
  refine PE.imp (CVN.pe_callG hF O.gu O.room (glob_gl hs hg) hm hk hb pass0 h (plainN_ok hp).1 (star_cons hn.1) (star_plain hn.2)) fun σ H Q q => ?_
  obtain ⟨ι, S, env, r, R, en, ev, q⟩ := q
  simp only [evE] at ev
  split at ev <;> try cases ev
  rename_i ds S1 e1
  simp only [Option.map_eq_some_iff] at ev
  obtain ⟨r', e2, rfl⟩ := ev
  refine ⟨ι, S, env, ds, S1, R, en, e1, fun vs H1 ι1 R1 r1 x1 => ?_⟩
  exact ⟨ι1, S1, ds, r', R1, by rw [List.append_nil]; exact r1, hl _ _ _ e2, e2, (q.gc R).step x1⟩
theorem se_call0 {f : Str} {p pos : Pos} {sc : Scope} (O : Ok X tb N Gd g F k) (hs : X.env.scope = sc) (hg : glob sc f = true) (hp : plainN f = true) (hf : f ∈ tb.fns) :
    PE X (.Call (.Name f p) [] [] pos) (tE X.K Gd g F (.call f [])) := by
  obtain ⟨fa, fd, ps, hF, hm, hk, hb, hl⟩ := (O.fns f hf).ex
  refine PE.imp (CVN.pe_callG0 hF O.gu O.room (glob_gl hs hg) hm hk hb pass0 (plainN_ok hp).1) fun σ H Q q => ?_
  obtain ⟨ι, S, env, r, R, en, ev, q⟩ := q
  simp only [evE, evEs, Option.map_eq_some_iff] at ev
  obtain ⟨r', e2, rfl⟩ := ev
  exact ⟨ι, S, [], r', R, .nil, hl _ _ _ e2, e2, q.gc R⟩
theorem imp_bi {ies : List E} {f : List D → Sto → Option (D × Sto)} {x : E} (hx : ∀ env S r, evE g F x env S = some r → ∃ ds S1 r', evEs g F ies env S = some (ds, S1) ∧ f ds S1 = some r' ∧ r = gc S r') :
    ∀ σ H Q, tE X.K Gd g F x σ H Q → tCB (rF X.K Gd f) (tA X.K Gd g F ies) σ H Q := by
  intro σ H Q ⟨ι, S, env, r, R, en, ev, q⟩
  obtain ⟨ds, S1, r', e1, e2, rfl⟩ := hx env S r ev
  exact ⟨ι, S, env, ds, S1, R, en, e1, fun vs H1 ι1 R1 r1 x1 => ⟨ι1, S1, ds, r', R1, r1, e2, (q.gc R).step x1⟩⟩
theorem se_bi {f : Str} {p pos : Pos} {e : Expr} {es : List Expr} {ies : List E} {sc : Scope} {b : Bi} (O : Ok X tb N Gd g F k) (hs : X.env.scope = sc) (hg : glob sc f = true) (hp : plainN f = true) (hb : biC f (e :: es).length = some b) (hn : (e :: es).all notStar = true)
    (h : PA X (e :: es) (tA X.K Gd g F ies)) : PE X (.Call (.Name f p) (e :: es) [] pos) (tE X.K Gd g F (.bi b ies)) := by
  simp only [List.all_cons, Bool.and_eq_true] at hn
  obtain ⟨p1, _, p3⟩ := plainN_ok hp
  have w := imp_bi (X := X) (Gd := Gd) (g := g) (F := F) (ies := ies) (f := biD b) (x := .bi b ies) fun env S r ev => by
    simp only [evE] at ev
    split at ev <;> try cases ev
    rename_i ds S1 e1
    simp only [Option.map_eq_some_iff] at ev
    obtain ⟨r', e2, rfl⟩ := ev
    exact ⟨ds, S1, r', e1, e2, rfl⟩
  have hB : ∀ id, biV b = .builtin id → X.mg f = none → bootBuiltins f = some (.builtin id) → PE X (.Call (.Name f p) (e :: es) [] pos) (tE X.K Gd g F (.bi b ies)) := fun id e1 hm hv => by
    have ho := biOp (Gd := Gd) O.calm O.gu O.hu b
    rw [e1] at ho
    exact PE.imp (pe_callB ho (glob_gl hs hg) hm hv h p3 p1 (star_cons hn.1) (star_plain hn.2)) w
  have hT : ∀ T, biV b = .type T → X.mg f = none → bootBuiltins f = some (.type T) → PE X (.Call (.Name f p) (e :: es) [] pos) (tE X.K Gd g F (.bi b ies)) := fun T e1 hm hv => by
    have ho := biOp (Gd := Gd) O.calm O.gu O.hu b
    rw [e1] at ho
    exact PE.imp (pe_callTy ho (glob_gl hs hg) hm hv h p3 p1 (star_cons hn.1) (star_plain hn.2)) w
  unfold biC at hb
  split at hb
  · rename_i q; cases hb; obtain ⟨rfl, _⟩ := q; exact hB "len" rfl (O.blt _ (by simp [bltNames])) (by decide +kernel)
  split at hb
  · rename_i q; cases hb; obtain ⟨rfl, _⟩ := q; exact hT "list" rfl (O.blt _ (by simp [bltNames])) (by decide +kernel)
  split at hb
  · rename_i q; cases hb; obtain ⟨rfl, _⟩ := q; exact hT "tuple" rfl (O.blt _ (by simp [bltNames])) (by decide +kernel)
  split at hb
  · rename_i q; cases hb; obtain ⟨rfl, _⟩ := q; exact hB "all" rfl (O.blt _ (by simp [bltNames])) (by decide +kernel)
  split at hb
  · rename_i q; cases hb; obtain ⟨rfl, _⟩ := q; exact hB "any" rfl (O.blt _ (by simp [bltNames])) (by decide +kernel)
  split at hb
  · rename_i q; cases hb; obtain ⟨rfl, _⟩ := q; exact hB "abs" rfl (O.blt _ (by simp [bltNames])) (by decide +kernel)
  split at hb
  · rename_i q; cases hb; obtain ⟨rfl, _⟩ := q; exact hB "max" rfl (O.blt _ (by simp [bltNames])) (by decide +kernel)
  split at hb
  · rename_i q; cases hb; obtain ⟨rfl, _⟩ := q; exact hB "min" rfl (O.blt _ (by simp [bltNames])) (by decide +kernel)
  split at hb
  · rename_i q; cases hb; obtain ⟨rfl, _⟩ := q; exact hB "repr" rfl (O.blt _ (by simp [bltNames])) (by decide +kernel)
  · cases hb
end
end CV

set_option Elab.async false
set_option linter.all false
set_option maxRecDepth 100000
set_option maxHeartbeats 4000000
/-! CvT: t[::-1] of a tuple. -/
namespace CVT
open PySem PySem.Spec PyProof.Rows L2 HT
section
variable {prog : Program} {w : World} {A : Around} {E : Value → Shared → Prop} {s : Shared}
theorem applied_rev {sl : Addr} {vl vu vs : Value} {n : Nat} {Q : Int × Int × Nat → Shared → Prop} (hs : s.heap.IsSliceOf sl vl vu vs) (pl : IsPart vl none) (pu : IsPart vu none) (ps : IsPart vs (some (-1)))
    (h : Q ((n : Int) - 1, -1, n) s) : wpAny (model prog w) A (Builtin.Slice.sliceApplied (.ref sl) (pure (n : Int))) Q E s := by
  obtain ⟨os, hos, hcs, hds⟩ := id hs
  unfold Builtin.Slice.sliceApplied Builtin.Slice.sliceFields
  refine wpAny_bind (wpAny_bind (wpAny_field hos hds (x := vl) rfl (wpAny_bind (wpAny_field hos hds (x := vu) rfl (wpAny_bind (wpAny_field hos hds (x := vs) rfl (wpAny_pure ?_)))))))
  refine wpAny_bind (slicePart_ ps ?_)
  show wpAny _ _ (if ((-1 : Int) == 0) = true then _ else _) _ _ s
  rw [if_neg (by decide)]
  refine wpAny_bind (slicePart_ pl (wpAny_bind (slicePart_ pu (wpAny_bind (wpAny_pure ?_)))))
  show wpAny _ _ (match Builtin.Slice.sliceAdjust none none (-1) (n : Int) with | (lo, hi) => pure (lo, (-1 : Int), Builtin.Slice.slicePlaces lo hi (-1))) _ _ s
  have e : Builtin.Slice.sliceAdjust none none (-1) (n : Int) = ((n : Int) - 1, -1) := rfl
  rw [e]
  have e2 : Builtin.Slice.slicePlaces ((n : Int) - 1) (-1) (-1) = n := by
    unfold Builtin.Slice.slicePlaces
    rw [if_neg (by decide)]
    by_cases c : (n : Int) - 1 > -1
    · rw [if_pos c]
      have : ((n : Int) - 1 - -1 - 1) / (- -1) + 1 = n := by
        rw [show (- -1 : Int) = 1 by decide, Int.ediv_one]
        omega
      rw [this]
      omega
    · rw [if_neg c]
      omega
  show wpAny _ _ (pure ((n : Int) - 1, (-1 : Int), Builtin.Slice.slicePlaces ((n : Int) - 1) (-1) (-1))) _ _ s
  rw [e2]
  exact wpAny_pure h
theorem pick_rev (xs : Array Value) : ((List.range xs.size).filterMap fun (k : Nat) => xs[(((xs.size : Int) - 1) + (k : Int) * -1).toNat]?).toArray = xs.toList.reverse.toArray := by
  congr 1
  have e : ∀ k ∈ List.range xs.size, xs[(((xs.size : Int) - 1) + (k : Int) * -1).toNat]? = some (xs.toList.reverse[k]?.getD .none) := fun k hk => by
    have hk := List.mem_range.mp hk
    have h1 : (((xs.size : Int) - 1) + (k : Int) * -1).toNat = xs.size - 1 - k := by omega
    rw [h1, List.getElem?_reverse (by simpa using hk)]
    simp only [Array.length_toList]
    have h2 : xs.size - 1 - k < xs.size := by omega
    simp [h2]
  have e2 : ∀ l : List Nat, (∀ k ∈ l, k ∈ List.range xs.size) → l.filterMap (fun (k : Nat) => xs[(((xs.size : Int) - 1) + (k : Int) * -1).toNat]?) = l.map fun k => xs.toList.reverse[k]?.getD .none := fun l => by
    induction l with
    | nil => intro _; rfl
    | cons k l ih =>
      intro h
      rw [List.filterMap_cons, e k (h k List.mem_cons_self), ih fun j hj => h j (List.mem_cons_of_mem _ hj)]
      rfl
  rw [e2 _ fun k hk => hk]
  apply List.ext_getElem
  · simp
  · intro i h1 h2
    simp only [List.length_map, List.length_range] at h1
    have h3 : i < xs.toList.reverse.length := by simpa using h1
    simp only [List.getElem_map, List.getElem_range, List.getElem?_eq_getElem h3, Option.getD_some]
theorem getItem_rev {t sl : Addr} {items : Array Value} {vl vu vs : Value} {Q : Value → Shared → Prop} (ht : IsTup s.heap t items) (hs : s.heap.IsSliceOf sl vl vu vs) (pl : IsPart vl none) (pu : IsPart vu none) (ps : IsPart vs (some (-1)))
    (h : Q (.ref s.heap.objs.size) { s with heap := s.heap.push { cls := .type "tuple", data := .seq items.toList.reverse.toArray } })
    (hsz : items.size ≤ sizeLine) : wpAny (model prog w) A (getItem (.ref t) (.ref sl)) Q E s := by
  have htake : sizeOk (.seq items.toList.reverse.toArray) := by
    show items.toList.reverse.toArray.size ≤ sizeLine
    rw [List.size_toArray, List.length_reverse, Array.length_toList]
    exact hsz
  obtain ⟨os, hos, hcs, hds⟩ := id hs
  have hTs : s.TypeIs (.ref sl) "slice" := ⟨os, hos, hcs⟩
  unfold getItem
  try with_reducible refine wpAny_holding ?_
  first | refine wpAny_bind (wpAny_pure ?_) | skip
  refine wpAny_bind (wpAny_sequenceKey ht.typeIs (by decide) ?_)
  refine wpAny_bind (wpAny_callSpecial?_slot (name := Str.ofString "__getitem__") ht.typeIs PyProof.Rows.slot_tuple_getitem
    (wpAny_call_entry PyProof.Rows.slot_tuple_getitem ht.typeIs entry_tuple_getitem ?_ (args_tuple_getitem _ _)))
  show wpAny _ _ (Builtin.Tuple.tupleItemsOf (.ref t) >>= _) _ _ s
  refine wpAny_bind (tupleItemsOf_ ht ?_)
  refine wpAny_bind (wpAny_typeOf hTs ?_)
  rw [if_pos (by decide)]
  refine wpAny_bind (applied_rev hs pl pu ps ?_)
  have hno : ¬ ((((items.size : Int) - 1) == 0 && (-1 : Int) == 1 && items.size == items.size) = true) := by
    intro q
    rw [Bool.and_eq_true, Bool.and_eq_true] at q
    exact absurd q.1.2 (by decide)
  show wpAny _ _ (if (((items.size : Int) - 1) == 0 && (-1 : Int) == 1 && items.size == items.size) = true then _ else _) _ _ s
  rw [if_neg hno, pick_rev]
  first
    | exact wpAny_bind (m := Builtin.Tuple.tupleExact _) (wpAny_newObj_type (wpAny_pure ⟨_, rfl, wpAny_pure h⟩) htake)
    | exact wpAny_bind (m := Builtin.Tuple.tupleExact _) (wpAny_newObj_type (wpAny_bind (wpAny_pure (wpAny_pure ⟨_, rfl, wpAny_pure h⟩))) htake)
    | exact wpAny_bind (wpAny_bind (m := Builtin.Tuple.tupleExact _) (wpAny_newObj_type (wpAny_pure (wpAny_pure ⟨_, rfl, wpAny_pure h⟩)) htake))
    | exact wpAny_bind (wpAny_bind (m := Builtin.Tuple.tupleExact _) (wpAny_newObj_type (wpAny_pure ⟨_, rfl, wpAny_pure h⟩) htake))
end
section
variable {X : Cx}
def tRev (K : PySem.W.Frag) (te : TE) : TE := fun σ H Q => te σ H fun x H1 => ∃ a xs, x = .ref a ∧ ((SqL K H1 a xs ∧ ∀ p, H1 p = none → Q (.ref p) (upd H1 p (.lst xs.reverse))) ∨ (SqT K H1 a xs ∧ ∀ p, H1 p = none → Q (.ref p) (upd H1 p (.tup xs.reverse))))
theorem pe_rev {e : Expr} {te : TE} {k : Nat} {p1 p2 p3 pos : Pos} (he : PE X e te) : PE X (.Subscript e (.Slice none none (some (.UnaryOp .USub (.Constant (.int 1) k p1) p2)) p3) pos) (tRev X.K te) := by
  refine ⟨fun pins s σ H Q I h => ?_⟩
  refine Subscript_ (thn (he.run pins s σ H _ I h) fun v s1 ⟨x, H1, I1, r1, q1⟩ => ?_)
  obtain ⟨a, xs, ex, hx⟩ := q1
  subst ex
  cases r1
  have hst : PO X (some (.UnaryOp .USub (.Constant (.int 1) k p1) p2)) (tPart (tUn (rU fun i => .int (-i)) (tC (.int 1)))) := po_some (pe_un un_neg pe_int)
  refine wpAny_Slice (thn (po_none.run pins s1 σ H1 (fun o H2 => o = none ∧ H2 = H1) I1 ⟨rfl, rfl⟩) fun vl s2 ⟨l, H2, I2, pl, el, e2⟩ => ?_)
  subst el e2
  refine thn (po_none.run pins s2 σ H2 (fun o H3 => o = none ∧ H3 = H2) I2 ⟨rfl, rfl⟩) fun vu s3 ⟨u, H3, I3, pu, eu, e3⟩ => ?_
  subst eu e3
  refine thn (hst.run pins s3 σ H3 (fun o H4 => o = some (-1) ∧ H4 = H3) I3 ⟨1, rfl, -1, rfl, rfl, rfl⟩) fun vs s4 ⟨o, H4, I4, ps, eo, e4⟩ => ?_
  subst eo e4
  have I5 : Inv X pins σ H4 { s4 with heap := s4.heap.push { cls := .type "slice", data := .fields #[vl, vu, vs] } } := I4.kept (t' := s4.toks) fun b ob q => Heap.get?_push_of_some _ q
  show wpAny (model X.prog X.w) X.A (subscriptTail e (.Slice none none (some (.UnaryOp .USub (.Constant (.int 1) k p1) p2)) p3) (.ref a) (.ref s4.heap.objs.size)) (EP X pins σ Q) X.xe { s4 with heap := s4.heap.push { cls := .type "slice", data := .fields #[vl, vu, vs] } }
  rcases hx with ⟨hx, q⟩ | ⟨hx, q⟩
  · obtain ⟨its, r, ht, hz⟩ := I5.list hx
    have hlen := r.length
    refine tail_any (ops := [.ref a, .ref s4.heap.objs.size]) ht.isList.typeIs (PySem.slot_list_getitem.lookup) ?_ (by with_unfolding_all rfl)
    refine wpAny_getItem_list_slice ht.isList (Heap.IsSliceOf.new _ vl vu vs) pl pu ps (by decide) ?_ (by rw [List.size_toArray]; omega)
    rw [PySem.W.krv_pick]
    refine ⟨.ref _, _, I5.laid (t' := s4.toks) (o := .lst xs.reverse) (fun b ob q => Heap.get?_push_of_some _ q) (Nat.le_refl _) ?_, rfl, q _ (I5.hok.fresh (Nat.le_refl _))⟩
    exact ⟨by rw [List.length_reverse]; exact hz, _, 0, r.reverse, Heap.get?_push_size _ rfl⟩
  · obtain ⟨its, r, ht, hz⟩ := I5.tuple hx
    have hlen : its.toArray.size = xs.length := by rw [List.size_toArray]; exact r.length.symm
    refine tail_any (ops := [.ref a, .ref s4.heap.objs.size]) ht.typeIs PyProof.Rows.slot_tuple_getitem.lookup ?_ (by with_unfolding_all rfl)
    refine getItem_rev ht (Heap.IsSliceOf.new _ vl vu vs) pl pu ps ?_ (by rw [hlen]; exact hz)
    refine ⟨.ref _, _, I5.laid (t' := s4.toks) (o := .tup xs.reverse) (fun b ob q => Heap.get?_push_of_some _ q) (Nat.le_refl _) ?_, rfl, q _ (I5.hok.fresh (Nat.le_refl _))⟩
    exact ⟨by rw [List.length_reverse]; exact hz, _, r.reverse, IsTup.new _ _⟩
end
end CVT

set_option Elab.async false
set_option linter.all false
set_option maxRecDepth 100000
set_option maxHeartbeats 4000000
/-! CvF: isinstance, methods, items, slices, dicts, walks, comprehensions, targets. -/
namespace CV
open PySem PySem.Spec PyProof.Rows L2

section
variable {K : PySem.W.Frag} {Gd : Str → Addr → Prop} {H H' : Hp} {ι ι' : Loc} {S S' : Sto}
/-- an object that the store doesn't know is changed -/
def Loose (H : Hp) (ι : Loc) (p : Addr) : Prop := (∀ q ∈ ι, q.1 ≠ p) ∧ (H p = none ∨ (∃ xs, H p = some (.lst xs)) ∨ ∃ kvs, H p = some (.dK kvs))
theorem Loose.keeps {p : Addr} {o : HO} (l : Loose H ι p) : Kp K H ι (upd H p o) ι where
  tup := fun a xs h => by
    have ne : ∀ u, H a = some u → (∀ xs, u ≠ .lst xs) → (∀ xs, u ≠ .dK xs) → a ≠ p := fun u e n1 n2 z => by
      subst z
      rcases l.2 with q | ⟨ys, q⟩ | ⟨ys, q⟩
      · rw [q] at e; cases e
      · rw [q] at e; cases e; exact n1 _ rfl
      · rw [q] at e; cases e; exact n2 _ rfl
    rcases h with (h | ⟨u, h⟩) | h
    · exact .inl (.inl (by rw [upd_ne (ne _ h (fun _ z => nomatch z) (fun _ z => nomatch z))]; exact h))
    · exact .inl (.inr ⟨u, by rw [upd_ne (ne _ h (fun _ z => nomatch z) (fun _ z => nomatch z))]; exact h⟩)
    · exact .inr h
  frz := fun a xs h => by
    have ne : ∀ u, H a = some u → (∀ xs, u ≠ .lst xs) → (∀ xs, u ≠ .dK xs) → a ≠ p := fun u e n1 n2 z => by
      subst z
      rcases l.2 with q | ⟨ys, q⟩ | ⟨ys, q⟩
      · rw [q] at e; cases e
      · rw [q] at e; cases e; exact n1 _ rfl
      · rw [q] at e; cases e; exact n2 _ rfl
    rcases h with ⟨u, h⟩ | h
    · exact .inl ⟨u, by rw [upd_ne (ne _ h (fun _ z => nomatch z) (fun _ z => nomatch z))]; exact h⟩
    · exact .inr h
  loc := fun _ _ h => h
theorem RO.keep {a : Addr} {o : Ob} (k : Kp K H ι H' ι') (hs : H' a = H a) (h : RO K Gd H ι a o) : RO K Gd H' ι' a o := by
  cases o with
  | lst ds => obtain ⟨vs, h1, h2⟩ := h; exact ⟨vs, hs.trans h1, h2.keep k⟩
  | dct ds => obtain ⟨vs, h1, h2⟩ := h; exact ⟨vs, hs.trans h1, h2.keep k⟩
theorem Rel.loose (R : Rel K Gd H ι S) {p : Addr} {o : HO} (l : Loose H ι p) : Rel K Gd (upd H p o) ι S where
  len := R.len
  nd := R.nd
  ob := fun n u e => by
    obtain ⟨a, h1, h2⟩ := R.ob n u e
    exact ⟨a, h1, h2.keep l.keeps (upd_ne (l.1 _ (List.mem_of_getElem? h1)))⟩
/-- an object that the store didn't know is taken into it -/
theorem Rel.claim (R : Rel K Gd H ι S) {p : Addr} {ob : Ob} (hp : ∀ q ∈ ι, q.1 ≠ p) (ho : RO K Gd H ι p ob) : Rel K Gd H (ι ++ [(p, ob.kd)]) (S ++ [ob]) := by
  have kp : Kp K H ι H (ι ++ [(p, ob.kd)]) := ⟨fun _ _ h => h, fun _ _ h => h, fun n y h => by
    rw [List.getElem?_append_left (List.getElem?_eq_some_iff.mp h).1]; exact h⟩
  refine ⟨by simp [R.len], ?_, fun n u e => ?_⟩
  · rw [List.map_append, List.nodup_append]
    refine ⟨R.nd, by simp, fun a ha b hb => ?_⟩
    simp at hb
    subst hb
    obtain ⟨q, hq, rfl⟩ := List.mem_map.mp ha
    exact hp q hq
  · by_cases hn : n < S.length
    · rw [List.getElem?_append_left hn] at e
      obtain ⟨a, h1, h2⟩ := R.ob n u e
      exact ⟨a, kp.loc _ _ h1, h2.keep kp rfl⟩
    · have hn' : n = S.length := by
        have := (List.getElem?_eq_some_iff.mp e).1
        simp at this
        omega
      subst hn'
      simp at e
      subst e
      exact ⟨p, by rw [← R.len]; simp, ho.keep kp rfl⟩
/-- .. and what is new to whom began at H -/
theorem Ext.claim {p : Addr} {k : Kd} (x : Ext H ι H' ι') (hp : H p = none) : Ext H ι H' (ι' ++ [(p, k)]) where
  pre := by obtain ⟨t, rfl⟩ := x.pre; exact ⟨t ++ [(p, k)], by simp⟩
  new := fun q hq => by
    rcases List.mem_append.mp hq with h | h
    · exact x.new q h
    · simp at h; subst h; exact .inr hp
  frm := x.frm
  dom := x.dom
/-- .. a loose object made behind H is changed -/
theorem Ext.loose {p : Addr} {o : HO} (x : Ext H ι H' ι') (hp : H p = none) : Ext H ι (upd H' p o) ι' where
  pre := x.pre
  new := x.new
  frm := fun a u h n => by rw [upd_ne (ne_of_none h hp)]; exact x.frm a u h n
  dom := fun a h => by
    by_cases e : a = p
    · subst e; exact hp
    · rw [upd_ne e] at h; exact x.dom a h
/-- what the store didn't know, it doesn't know behind a piece of work -/
theorem Ext.out {p : Addr} {o : HO} (x : Ext H ι H' ι') (hp : ∀ q ∈ ι, q.1 ≠ p) (ho : H p = some o) : (∀ q ∈ ι', q.1 ≠ p) ∧ H' p = some o :=
  And.intro (fun q hq z => by
    rcases x.new q hq with h | h
    · exact hp q h z
    · rw [z, ho] at h
      cases h) (x.frm p o ho hp)
end

section
variable {X : Cx} {tb : Tb} {N : List Str} {Gd : Str → Addr → Prop} {g : Cst} {F : FT} {k : Nat}

/-! ### isinstance -/
theorem tyC_ok {sc : Scope} (O : Ok X tb N Gd g F k) (hs : X.env.scope = sc) {e : Expr} {t : String} (h : tyC sc e = some t) : PE X e (tC (.ty t)) := by
  cases e <;> simp only [tyC] at h <;> try cases h
  rename_i x pos
  split at h <;> try cases h
  rename_i hg
  simp only [Bool.and_eq_true] at hg
  obtain ⟨p1, _, p3⟩ := plainN_ok hg.2
  have gl := glob_gl hs hg.1
  split at h
  · rename_i q; cases h; subst q; exact pe_bltn gl (O.blt _ (by simp [bltNames])) (u := .type "int") (by decide +kernel) rfl p3 p1
  split at h
  · rename_i q; cases h; subst q; exact pe_bltn gl (O.blt _ (by simp [bltNames])) (u := .type "str") (by decide +kernel) rfl p3 p1
  split at h
  · rename_i q; cases h; subst q; exact pe_bltn gl (O.blt _ (by simp [bltNames])) (u := .type "bool") (by decide +kernel) rfl p3 p1
  split at h
  · rename_i q; cases h; subst q; exact pe_bltn gl (O.blt _ (by simp [bltNames])) (u := .type "tuple") (by decide +kernel) rfl p3 p1
  split at h
  · rename_i q; cases h; subst q; exact pe_bltn gl (O.blt _ (by simp [bltNames])) (u := .type "list") (by decide +kernel) rfl p3 p1
  split at h
  · rename_i q; cases h; subst q; exact pe_bltn gl (O.blt _ (by simp [bltNames])) (u := .type "dict") (by decide +kernel) rfl p3 p1
  · cases h
theorem notStar_ty {sc : Scope} {e : Expr} {t : String} (h : tyC sc e = some t) : notStar e = true := by
  cases e <;> first | rfl | (simp [tyC] at h)
theorem se_isi1 {sc : Scope} {a c : Expr} {ia : E} {t : String} {p pos : Pos} (O : Ok X tb N Gd g F k) (hs : X.env.scope = sc) (hg : glob sc "isinstance" = true) (hn : notStar a = true) (ha : PE X a (tE X.K Gd g F ia)) (ht : tyC sc c = some t) :
    PE X (.Call (.Name "isinstance" p) [a, c] [] pos) (tE X.K Gd g F (.isi ia [t])) := by
  have hc := tyC_ok O hs ht
  have nc := notStar_ty ht
  refine PE.imp (pe_callB call_isi (glob_gl hs hg) (O.blt _ (by simp [bltNames])) (by decide +kernel) (pa_cons ha (pa_cons hc pa_nil (star_cons nc)) (star_cons hn)) (by decide) (by decide) (star_cons hn) (star_plain (by simp [nc]))) fun σ H Q q => ?_
  obtain ⟨ι, S, env, r, R, en, ev, q⟩ := q
  simp only [evE] at ev
  split at ev <;> try cases ev
  rename_i x S1 e1
  split at ev <;> try cases ev
  rename_i ty e2
  split at ev <;> cases ev
  rename_i b e3
  refine ⟨ι, S, env, (x, S1), R, en, e1, fun v H1 ι1 R1 r1 x1 => ?_⟩
  simp only [List.foldr_cons, List.foldr_nil] at e3
  split at e3 <;> try cases e3
  rename_i b1 b2 e4 e5
  cases e5
  refine ⟨v, .ty t, .type ty, .type t, b1, rfl, .ty t, tyOf_ok R1 r1 e2, kit_ty e4, ?_⟩
  have := (q.step x1).at_ R1 (.bl (b1 || false))
  simpa using this

/-! ### methods -/
theorem attr_base {o : Expr} {m : Str} {env : PySem.Env} {whole : Sem Value} (h : notCall0 o = true) : attributeBase o m env whole = whole := by
  cases o <;> try rfl
  rename_i f args kws pos
  cases args with
  | nil => cases h
  | cons a as => cases f <;> rfl
theorem meC_at {m : Str} {n : Nat} {me : Me} (h : meC m n = some me) : (me = .append ∧ m = "append" ∧ n = 1) ∨ (me = .reverse ∧ m = "reverse" ∧ n = 0) ∨ (me = .extend ∧ m = "extend" ∧ n = 1) ∨ (me = .pop ∧ m = "pop" ∧ n = 0) := by
  unfold meC at h
  split at h
  · rename_i q; cases h; exact .inl ⟨rfl, q.1, q.2⟩
  split at h
  · rename_i q; cases h; exact .inr (.inl ⟨rfl, q.1, q.2⟩)
  split at h
  · rename_i q; cases h; exact .inr (.inr (.inl ⟨rfl, q.1, q.2⟩))
  split at h
  · rename_i q; cases h; exact .inr (.inr (.inr ⟨rfl, q.1, q.2⟩))
  · cases h
theorem meD_list {m : Me} {x : D} {xs : List D} {S : Sto} {r : D × Sto} (h : meD m x xs S = some r) : ∃ n, x = .loc .lst n := by
  unfold meD at h
  split at h
  · exact ⟨_, rfl⟩
  · cases h
theorem few_ok {cpos : Pos} {env : PySem.Env} {e : Expr} (h : notStar e = true) : ((backTo cpos (starEach [e] env)).all (fun x => !x.1) && (backToKw cpos (keywordEach [] env)).all (fun x => x.1.isSome)
      && decide (([e] : List Expr).length + ([] : List Keyword).length + (if ([] : List Keyword).isEmpty then 0 else 1) < 30)) = true := by
  rw [star_cons h]
  rfl
theorem se_meth1 {o e : Expr} {m : Str} {apos cpos : Pos} {io ie : E} {me : Me} (hm : meC m 1 = some me) (hn : notStar e = true) (h0 : notCall0 o = true) (hl : (apos.endLine == cpos.line) = true) (ho : PE X o (tE X.K Gd g F io)) (ha : PA X [e] (tA X.K Gd g F [ie])) :
    PE X (.Call (.Attribute o m apos) [e] [] cpos) (tE X.K Gd g F (.meth me io [ie])) := by
  have w : ∀ σ H Q, tE X.K Gd g F (.meth me io [ie]) σ H Q → tBM X.K "list" (rM X.K Gd (meD me)) (tE X.K Gd g F io) (tA X.K Gd g F [ie]) σ H Q := by
    intro σ H Q ⟨ι, S, env, r, R, en, ev, q⟩
    unfold evE at ev
    split at ev <;> try cases ev
    rename_i x S1 e1
    split at ev <;> try cases ev
    rename_i ds S2 e2
    simp only [Option.map_eq_some_iff] at ev
    obtain ⟨r', e3, rfl⟩ := ev
    obtain ⟨n, rfl⟩ := meD_list e3
    refine ⟨ι, S, env, (_, S1), R, en, e1, fun v H1 ι1 R1 r1 x1 => ?_⟩
    have ty : tyV X.K "list" v H1 := by
      cases r1 with
      | loc hl =>
        obtain ⟨ob, h1, h2, h3⟩ := R1.at_ hl
        cases ob with
        | lst xs => obtain ⟨vs, h4, _⟩ := h3; exact .inl ⟨rfl, vs, .of h4⟩
        | dct xs => cases h2
    refine ⟨ty, ι1, S1, env, ds, S2, R1, en.keep (x1.keeps R), e2, fun vs H2 ι2 R2 r2 x2 => ?_⟩
    exact ⟨ι2, S2, _, ds, r', R2, r1.keep (x2.keeps R1), r2, e3, (q.gc R).step (x1.trans x2)⟩
  rcases meC_at hm with ⟨rfl, rfl, _⟩ | ⟨_, _, h⟩ | ⟨rfl, rfl, _⟩ | ⟨_, _, h⟩
  · exact PE.imp (pe_bm PySem.F.plainAttrs_list PySem.F.slot_list_append PySem.F.type_list_append (meOp (Gd := Gd) .append) ho ha (attr_base h0) (few_ok hn) hl (star_cons hn) rfl) w
  · cases h
  · exact PE.imp (pe_bm PySem.F.plainAttrs_list PySem.F.slot_list_extend PySem.F.type_list_extend (meOp (Gd := Gd) .extend) ho ha (attr_base h0) (few_ok hn) hl (star_cons hn) rfl) w
  · cases h
theorem se_meth0 {o : Expr} {m : Str} {apos cpos : Pos} {io : E} {me : Me} (hm : meC m 0 = some me) (h0 : notCall0 o = true) (hl : (apos.endLine == cpos.line) = true) (ho : PE X o (tE X.K Gd g F io)) :
    PE X (.Call (.Attribute o m apos) [] [] cpos) (tE X.K Gd g F (.meth me io [])) := by
  have w : ∀ σ H Q, tE X.K Gd g F (.meth me io []) σ H Q → tBM0 X.K "list" (rM X.K Gd (meD me)) (tE X.K Gd g F io) σ H Q := by
    intro σ H Q ⟨ι, S, env, r, R, en, ev, q⟩
    unfold evE at ev
    split at ev <;> try cases ev
    rename_i x S1 e1
    simp only [evEs, Option.map_eq_some_iff] at ev
    obtain ⟨r', e3, rfl⟩ := ev
    obtain ⟨n, rfl⟩ := meD_list e3
    refine ⟨ι, S, env, (_, S1), R, en, e1, fun v H1 ι1 R1 r1 x1 => ?_⟩
    have ty : tyV X.K "list" v H1 := by
      cases r1 with
      | loc hl =>
        obtain ⟨ob, h1, h2, h3⟩ := R1.at_ hl
        cases ob with
        | lst xs => obtain ⟨vs, h4, _⟩ := h3; exact .inl ⟨rfl, vs, .of h4⟩
        | dct xs => cases h2
    exact ⟨ty, ι1, S1, _, [], r', R1, r1, .nil, e3, (q.gc R).step x1⟩
  rcases meC_at hm with ⟨_, _, h⟩ | ⟨rfl, rfl, _⟩ | ⟨_, _, h⟩ | ⟨rfl, rfl, _⟩
  · cases h
  · exact PE.imp (pe_bm0 PySem.F.plainAttrs_list PySem.F.slot_list_reverse PySem.F.type_list_reverse (meOp (Gd := Gd) .reverse) ho (attr_base h0) hl) w
  · cases h
  · exact PE.imp (pe_bm0 PySem.F.plainAttrs_list PySem.F.slot_list_pop PySem.F.type_list_pop (meOp (Gd := Gd) .pop) ho (attr_base h0) hl) w

/-! ### items and slices -/
theorem plain_ix {i : Expr} (h : notSlice i = true) : PlainIx i := by
  intro o v
  cases i <;> first | rfl | cases h
theorem se_ix {a i : Expr} {ia ii : E} {pos : Pos} (O : Ok X tb N Gd g F k) (hn : notSlice i = true) (ha : PE X a (tE X.K Gd g F ia)) (hi : PE X i (tE X.K Gd g F ii)) : PE X (.Subscript a i pos) (tE X.K Gd g F (.ix ia ii)) := by
  refine PE.imp (pe_ix (ixOp O.G O.hu) ha hi (plain_ix hn)) fun σ H Q q => ?_
  obtain ⟨ι, S, env, r, R, en, ev, q⟩ := q
  simp only [evE] at ev
  split at ev <;> try cases ev
  rename_i x S1 e1
  split at ev <;> try cases ev
  rename_i y S2 e2
  simp only [Option.map_eq_some_iff] at ev
  obtain ⟨d, e3, rfl⟩ := ev
  refine ⟨ι, S, env, (x, S1), R, en, e1, fun v1 H1 ι1 R1 r1 x1 => ?_⟩
  refine ⟨ι1, S1, env, (y, S2), R1, en.keep (x1.keeps R), e2, fun v2 H2 ι2 R2 r2 x2 => ?_⟩
  exact ⟨ι2, S2, x, y, d, R2, r1.keep (x2.keeps R1), r2, e3, fun v rv => ((q.gc R).step (x1.trans x2)).at_ R2 rv⟩
theorem so_none : PO X none (tO X.K Gd g F none) := PO.imp po_none fun σ H Q q => by
  obtain ⟨ι, S, env, i, S', R, en, ev, q⟩ := q
  simp only [evO, Option.some.injEq, Prod.mk.injEq] at ev
  obtain ⟨rfl, rfl⟩ := ev
  exact q H ι R Ext.refl
theorem so_some {e : Expr} {ie : E} (h : PE X e (tE X.K Gd g F ie)) : PO X (some e) (tO X.K Gd g F (some ie)) := PO.imp (po_some h) fun σ H Q q => by
  obtain ⟨ι, S, env, i, S', R, en, ev, q⟩ := q
  simp only [evO] at ev
  split at ev <;> cases ev
  rename_i j e1
  refine ⟨ι, S, env, (.int j, _), R, en, e1, fun v H1 ι1 R1 r1 x1 => ?_⟩
  cases r1
  exact ⟨j, rfl, q _ _ R1 x1⟩
theorem se_sl {a : Expr} {lo hi : Option Expr} {ia : E} {il ih : Option E} {p2 pos : Pos} (ha : PE X a (tE X.K Gd g F ia)) (hl : PO X lo (tO X.K Gd g F il)) (hh : PO X hi (tO X.K Gd g F ih)) :
    PE X (.Subscript a (.Slice lo hi none p2) pos) (tE X.K Gd g F (.sl ia il ih)) := by
  refine PE.imp (pe_slice (slOp (Gd := Gd)) ha hl hh) fun σ H Q q => ?_
  obtain ⟨ι, S, env, r, R, en, ev, q⟩ := q
  simp only [evE] at ev
  split at ev <;> try cases ev
  rename_i x S1 e1
  split at ev <;> try cases ev
  rename_i l S2 e2
  split at ev <;> try cases ev
  rename_i h S3 e3
  simp only [Option.map_eq_some_iff] at ev
  obtain ⟨r', e4, rfl⟩ := ev
  refine ⟨ι, S, env, (x, S1), R, en, e1, fun v1 H1 ι1 R1 r1 x1 => ?_⟩
  refine ⟨ι1, S1, env, l, S2, R1, en.keep (x1.keeps R), e2, fun H2 ι2 R2 x2 => ?_⟩
  refine ⟨ι2, S2, env, h, S3, R2, (en.keep (x1.keeps R)).keep (x2.keeps R1), e3, fun H3 ι3 R3 x3 => ?_⟩
  exact ⟨ι3, S3, x, r', R3, (r1.keep (x2.keeps R1)).keep (x3.keeps R2), e4, (q.gc R).step ((x1.trans x2).trans x3)⟩
theorem se_rev {a : Expr} {ia : E} {n : Nat} {p1 p2 p3 pos : Pos} (ha : PE X a (tE X.K Gd g F ia)) :
    PE X (.Subscript a (.Slice none none (some (.UnaryOp .USub (.Constant (.int 1) n p1) p2)) p3) pos) (tE X.K Gd g F (.rev ia)) := by
  refine PE.imp (CVT.pe_rev ha) fun σ H Q q => ?_
  obtain ⟨ι, S, env, r, R, en, ev, q⟩ := q
  simp only [evE] at ev
  split at ev <;> try cases ev
  rename_i x S1 e1
  simp only [Option.map_eq_some_iff] at ev
  obtain ⟨r', e2, rfl⟩ := ev
  unfold revD at e2
  split at e2
  · cases e2
    rename_i xs
    refine ⟨ι, S, env, (_, S1), R, en, e1, fun v1 H1 ι1 R1 r1 x1 => ?_⟩
    cases r1 with
    | tup h rs =>
      refine ⟨_, _, rfl, .inr ⟨h, fun p hp => ?_⟩⟩
      exact ((q.gc R).step x1).tup R1 rs.rev p hp
  · split at e2 <;> cases e2
    rename_i xs e3
    refine ⟨ι, S, env, (x, S1), R, en, e1, fun v1 H1 ι1 R1 r1 x1 => ?_⟩
    obtain ⟨l, vs, rfl, rs, hl⟩ := lstOf_rd R1 r1 e3
    exact ⟨l, vs, rfl, .inl ⟨hl, ((q.gc R).step x1).lst R1 rs.rev⟩⟩
end
end CV

set_option Elab.async false
set_option linter.all false
set_option maxRecDepth 100000
set_option maxHeartbeats 4000000
/-! CvG: dicts written out, walks, comprehensions, targets. -/
namespace CV
open PySem PySem.Spec PyProof.Rows L2

section
variable {K : PySem.W.Frag} {Gd : Str → Addr → Prop} {H H' : Hp} {ι ι' : Loc} {S S' : Sto}

/-! ### what a loop walks -/
/-- the model's iterator J walks w -/
def WkOk (K : PySem.W.Frag) (Gd : Str → Addr → Prop) (H0 : Hp) (ι0 : Loc) (w : Wk) (J : It) : Prop :=
  ∀ (i : Nat) (H : Hp) (ι : Loc) (S : Sto), Rel K Gd H ι S → Kp K H0 ι0 H ι → w.ok S = true →
    (∀ x, w.items[i]? = some x → J.go i H ∧ ∀ v H', J.yld i H v H' → H' = H ∧ RD K Gd H ι x v) ∧ (w.items.length ≤ i → J.stop i H)
theorem wk_tup {ds : List D} {vs : List V} {a : Addr} (h : SqT K H a vs) (r : RDs K Gd H ι ds vs) : WkOk K Gd H ι (.fix ds) (Itt K a) := by
  intro i H1 ι1 S1 R1 kp _
  have h1 := kp.tup _ _ h
  have r1 := r.keep kp
  refine ⟨fun x hx => ?_, fun hl => ⟨vs, h1, by rw [← r.length]; exact hl⟩⟩
  obtain ⟨v, hv, rv⟩ := r1.get hx
  refine ⟨⟨vs, v, h1, hv⟩, fun v' H' ⟨e, y⟩ => ⟨e, ?_⟩⟩
  have := y vs h1
  rw [hv] at this
  cases this
  exact rv
theorem wk_scr {ns : List Int} {a : Addr} (h : SqF K H a (ns.map V.int)) : WkOk K Gd H ι (.fix (ns.map D.int)) (Itl K a) := by
  intro i H1 ι1 S1 R1 kp _
  have h1 := (kp.frz _ _ h).sq
  have r1 : RDs K Gd H1 ι1 (ns.map D.int) (ns.map V.int) := RDs.ints
  refine ⟨fun x hx => ?_, fun hl => ⟨_, h1, by rw [← r1.length]; exact hl⟩⟩
  obtain ⟨v, hv, rv⟩ := r1.get hx
  refine ⟨⟨_, v, h1, hv⟩, fun v' H' ⟨e, y⟩ => ⟨e, ?_⟩⟩
  have := y _ h1
  rw [hv] at this
  cases this
  exact rv
theorem wk_lst {n : Nat} {ds : List D} {a : Addr} (hl : ι[n]? = some (a, .lst)) : WkOk K Gd H ι (.lst n ds) (Itl K a) := by
  intro i H1 ι1 S1 R1 kp ok
  have h1 := kp.loc _ _ hl
  have e0 : S1[n]? = some (.lst ds) := by
    unfold Wk.ok at ok
    simp only at ok
    split at ok
    · rename_i o e
      rw [e, Ob.beq_eq ok]
    · cases ok
  obtain ⟨vs, h2, r1⟩ := R1.lst_at e0 h1
  have h2' : SqL K H1 a vs := .of h2
  refine ⟨fun x hx => ?_, fun hl => ⟨vs, h2', by rw [← r1.length]; exact hl⟩⟩
  obtain ⟨v, hv, rv⟩ := r1.get hx
  refine ⟨⟨vs, v, h2', hv⟩, fun v' H' ⟨e, y⟩ => ⟨e, ?_⟩⟩
  have := y vs h2'
  rw [hv] at this
  cases this
  exact rv
theorem wk_str {x : Str} (h : strGood x = true) : WkOk K Gd H ι (.fix (x.cps.toList.map fun c => .str ⟨#[c]⟩)) (Its x) := by
  intro i H1 ι1 S1 R1 kp _
  refine ⟨fun y hy => ?_, fun hl => ?_⟩
  · have hy : (x.cps.toList.map fun c => D.str ⟨#[c]⟩)[i]? = some y := hy
    rw [List.getElem?_map] at hy
    cases e : x.cps.toList[i]? with
    | none => rw [e] at hy; cases hy
    | some c =>
      rw [e] at hy
      cases hy
      have hi : i < x.cps.size := by
        have := (List.getElem?_eq_some_iff.mp e).1
        simpa using this
      refine ⟨hi, fun v' H' ⟨e1, c', e2, e3⟩ => ⟨e1, ?_⟩⟩
      have e4 : x.cps[i]? = some c := by rw [← Array.getElem?_toList]; exact e
      rw [e4] at e2
      cases e2
      subst e3
      exact .str (good_one (strGood_cps h c (List.mem_of_getElem? e)))
  · have hl : (x.cps.toList.map fun c => D.str ⟨#[c]⟩).length ≤ i := hl
    show x.cps.size ≤ i
    simpa using hl
theorem wk_rng {lo hi : Int} : WkOk K Gd H ι (.fix (rngItems lo hi)) (Itr lo (hi - lo).toNat) := by
  intro i H1 ι1 S1 R1 kp _
  have hlen : (rngItems lo hi).length = (hi - lo).toNat := by unfold rngItems; simp
  refine ⟨fun y hy => ?_, fun hl => ?_⟩
  · have hy : (rngItems lo hi)[i]? = some y := hy
    have hi' : i < (hi - lo).toNat := by rw [← hlen]; exact (List.getElem?_eq_some_iff.mp hy).1
    refine ⟨hi', fun v' H' ⟨e1, e2⟩ => ⟨e1, ?_⟩⟩
    unfold rngItems at hy
    rw [List.getElem?_map, List.getElem?_range hi'] at hy
    cases hy
    subst e2
    exact .int _
  · have hl : (rngItems lo hi).length ≤ i := hl
    rw [hlen] at hl
    exact hl
end

section
variable {X : Cx} {tb : Tb} {N : List Str} {Gd : Str → Addr → Prop} {g : Cst} {F : FT} {k : Nat}

def tW (K : PySem.W.Frag) (Gd : Str → Addr → Prop) (g : Cst) (F : FT) (e : E) : TI := fun σ H R =>
  ∃ ι S env w S', Rel K Gd H ι S ∧ REnv K Gd H ι σ env ∧ evW g F e env S = some (w, S') ∧ ∀ J H' ι', Rel K Gd H' ι' S' → WkOk K Gd H' ι' w J → Ext H ι H' ι' → R J H'

theorem sw_plain {tg e : Expr} {ie : E} (he : PE X e (tE X.K Gd g F ie))
    (hi : ∀ env S, evW g F ie env S = match evE g F ie env S with
      | some (d, S1) => match wkOf S1 d with
        | some w => some (w, S1)
        | none => none
      | none => none) : PI X tg e (tW X.K Gd g F ie) := by
  refine PI.imp (PI.or (pi_list he) (PI.or (pi_tup he) (pi_str he))) fun σ H R q => ?_
  obtain ⟨ι, S, env, w, S', Rl, en, ev, q⟩ := q
  rw [hi] at ev
  split at ev <;> try cases ev
  rename_i d S1 e1
  split at ev <;> cases ev
  rename_i e2
  unfold wkOf at e2
  split at e2
  · cases e2
    refine .inr (.inl ⟨ι, S, env, (_, _), Rl, en, e1, fun v H1 ι1 R1 r1 x1 => ?_⟩)
    cases r1 with
    | tup h r => exact ⟨_, rfl, ⟨_, h⟩, q _ _ ι1 R1 (wk_tup h r) x1⟩
  · cases e2
    refine .inl ⟨ι, S, env, (_, _), Rl, en, e1, fun v H1 ι1 R1 r1 x1 => ?_⟩
    cases r1 with
    | scr h => exact ⟨_, rfl, ⟨_, h.sq⟩, q _ _ ι1 R1 (wk_scr h) x1⟩
  · cases e2
    refine .inr (.inr ⟨ι, S, env, (_, _), Rl, en, e1, fun v H1 ι1 R1 r1 x1 => ?_⟩)
    cases r1 with
    | str h => exact ⟨_, rfl, q _ _ ι1 R1 (wk_str h) x1⟩
  · split at e2 <;> cases e2
    rename_i e3
    refine .inl ⟨ι, S, env, (_, _), Rl, en, e1, fun v H1 ι1 R1 r1 x1 => ?_⟩
    cases r1 with
    | loc h =>
      obtain ⟨vs, h4, _⟩ := R1.lst_at e3 h
      exact ⟨_, rfl, ⟨vs, .of h4⟩, q _ _ ι1 R1 (wk_lst h) x1⟩
  · cases e2
theorem sw_rng1 {tg a : Expr} {ia : E} {sc : Scope} {p pos : Pos} (O : Ok X tb N Gd g F k) (hs : X.env.scope = sc) (hg : glob sc "range" = true) (hn : notStar a = true) (ha : PA X [a] (tA X.K Gd g F [ia])) :
    PI X tg (.Call (.Name "range" p) [a] [] pos) (tW X.K Gd g F (.rng [ia])) := by
  refine PI.imp (pi_range1 (glob_gl hs hg) (O.blt _ (by simp [bltNames])) ha (star_cons hn)) fun σ H R q => ?_
  obtain ⟨ι, S, env, w, S', Rl, en, ev, q⟩ := q
  unfold evW at ev
  split at ev
  · rename_i j S1 e1
    split at ev <;> cases ev
    rename_i hb
    simp only [Bool.and_eq_true, decide_eq_true_eq] at hb
    refine ⟨ι, S, env, [.int j], _, Rl, en, e1, fun vs H1 ι1 R1 r1 x1 => ?_⟩
    obtain ⟨v, rfl, rv⟩ := rds1 r1
    cases rv
    refine ⟨j, rfl, hb.1, hb.2, ?_⟩
    have := q (Itr 0 (j - 0).toNat) H1 ι1 R1 wk_rng x1
    simpa using this
  · rename_i i j S1 e1
    have : evEs g F [ia] env S = some ([.int i, .int j], S1) := e1
    unfold evEs at this
    split at this <;> try cases this
    unfold evEs at this
    simp at this
  · cases ev
theorem sw_rng2 {tg a b : Expr} {ia ib : E} {sc : Scope} {p pos : Pos} (O : Ok X tb N Gd g F k) (hs : X.env.scope = sc) (hg : glob sc "range" = true) (hn : notStar a = true) (hn2 : notStar b = true) (ha : PA X [a, b] (tA X.K Gd g F [ia, ib])) :
    PI X tg (.Call (.Name "range" p) [a, b] [] pos) (tW X.K Gd g F (.rng [ia, ib])) := by
  refine PI.imp (pi_range2 (glob_gl hs hg) (O.blt _ (by simp [bltNames])) ha (by rw [star_cons hn, star_cons hn2]; rfl) (star_cons hn2)) fun σ H R q => ?_
  obtain ⟨ι, S, env, w, S', Rl, en, ev, q⟩ := q
  unfold evW at ev
  split at ev
  · rename_i j S1 e1
    have : evEs g F [ia, ib] env S = some ([.int j], S1) := e1
    unfold evEs at this
    split at this <;> try cases this
    split at this <;> try cases this
    rename_i e2
    unfold evEs at e2
    split at e2 <;> try cases e2
    split at e2 <;> cases e2
  · rename_i i j S1 e1
    split at ev <;> cases ev
    rename_i hb
    simp only [Bool.and_eq_true, decide_eq_true_eq] at hb
    refine ⟨ι, S, env, [.int i, .int j], _, Rl, en, e1, fun vs H1 ι1 R1 r1 x1 => ?_⟩
    obtain ⟨v, u, rfl, rv, ru⟩ := rds2 r1
    cases rv
    cases ru
    exact ⟨i, j, rfl, ⟨hb.1.1.1, hb.1.1.2, hb.1.2, hb.2⟩, q _ H1 ι1 R1 wk_rng x1⟩
  · cases ev

/-! ### targets -/
/-- what a store to a target is: the slots of the target alone are changed -/
def gT (K : PySem.W.Frag) (Gd : Str → Addr → Prop) (t : T) : TG := fun v σ H Q =>
  ∃ ι S d env env', Rel K Gd H ι S ∧ RD K Gd H ι d v ∧ REnv K Gd H ι σ env ∧ asg t d env S = some env' ∧
    ∀ σ', REnv K Gd H ι σ' env' → (∀ vs : List Nat, (∀ i ∈ t.slots, i ∈ vs) → wipe σ' vs = wipe σ vs) → Q σ' H
def gTs (K : PySem.W.Frag) (Gd : Str → Addr → Prop) (ts : List T) : TGs := fun us σ H Q =>
  ∃ ι S ds env env', Rel K Gd H ι S ∧ RDs K Gd H ι ds us ∧ REnv K Gd H ι σ env ∧ asgAll ts ds env S = some env' ∧
    ∀ σ', REnv K Gd H ι σ' env' → (∀ vs : List Nat, (∀ i ∈ T.slotsAll ts, i ∈ vs) → wipe σ' vs = wipe σ vs) → Q σ' H
theorem wipe_set {σ : L2.St} {i : Nat} {v : Option V} : ∀ {vs : List Nat}, i ∈ vs → wipe (σ.set i v) vs = wipe σ vs
  | [], h => by simp at h
  | j :: vs, h => by
    unfold L2.wipe
    by_cases e : i = j
    · subst e
      have : ∀ (σ : L2.St) (vs : List Nat), (wipe (σ.set i v) vs).set i none = (wipe σ vs).set i none := fun σ vs => by
        induction vs with
        | nil => simp [L2.wipe]
        | cons j vs ih =>
          unfold L2.wipe
          by_cases e : j = i
          · subst e
            simp only [List.set_set]
            exact ih
          · rw [List.set_comm _ _ e, ih, List.set_comm _ _ (Ne.symm e)]
      exact this σ vs
    · rcases List.mem_cons.mp h with h | h
      · exact absurd h e
      · rw [wipe_set h]
theorem wipe_idem (σ : L2.St) (vs : List Nat) : wipe (wipe σ vs) vs = wipe σ vs := by
  have : ∀ (ws : List Nat), (∀ i ∈ ws, i ∈ vs) → wipe (wipe σ ws) vs = wipe σ vs := fun ws => by
    induction ws with
    | nil => intro _; rfl
    | cons i ws ih =>
      intro h
      show wipe ((wipe σ ws).set i none) vs = _
      rw [wipe_set (h i (List.mem_cons_self ..))]
      exact ih fun j hj => h j (List.mem_cons_of_mem _ hj)
  exact this vs fun _ h => h

/-- what may be stored: sc tells it -/
def Tgt (X : Cx) (sc : Scope) : Prop := ∀ x, owned sc x = true → L2.Loc X.env.scope x ∧ (X.fn x = true ∨ X.env.scope.names.lookup x = some .local)
theorem gs_nm {x : Str} {pos : Pos} {i : Nat} {sc : Scope} (O : Ok X tb N Gd g F k) (hT : Tgt X sc) (ho : owned sc x = true) (hi : ixOf x N 0 = some i) :
    PG X (.Name x pos) (gT X.K Gd (.nm i)) := by
  obtain ⟨hx, hf⟩ := hT x ho
  refine PG.imp (pg_name (i := i) O.nd (by rw [O.names]; exact ixOf_at hi) hx hf) fun v σ H Q q => ?_
  obtain ⟨ι, S, d, env, env', R, r, en, e, q⟩ := q
  simp only [asg, Option.some.injEq] at e
  subst e
  exact q _ (en.set r) fun vs h => wipe_set (h i (by simp [T.slots]))
theorem gs_nil : PGs X [] (gTs X.K Gd []) := PGs.imp pgs_nil fun us σ H Q q => by
  obtain ⟨ι, S, ds, env, env', R, r, en, e, q⟩ := q
  cases ds with
  | cons d ds => simp [asgAll] at e
  | nil =>
    cases r
    simp only [asgAll, Option.some.injEq] at e
    subst e
    exact ⟨rfl, q σ en fun _ _ => rfl⟩
theorem tgt_cons {e : Expr} {es : List Expr} {env : PySem.Env} (h : notStar e = true) : assignEach (e :: es) env = (false, assign e env) :: assignEach es env := by
  cases e <;> first | rfl | cases h
theorem gs_cons {e : Expr} {es : List Expr} {t : T} {ts : List T} (hn : notStar e = true) (h1 : PG X e (gT X.K Gd t)) (h2 : PGs X es (gTs X.K Gd ts)) : PGs X (e :: es) (gTs X.K Gd (t :: ts)) := by
  refine PGs.imp (pgs_cons h1 h2 (by rw [tgt_cons hn]; rfl)) fun us σ H Q q => ?_
  obtain ⟨ι, S, ds, env, env', R, r, en, ev, q⟩ := q
  cases ds with
  | nil => simp [asgAll] at ev
  | cons d ds =>
    cases r with
    | cons r rs =>
      simp only [asgAll] at ev
      split at ev <;> try cases ev
      rename_i env1 e1
      refine ⟨_, _, rfl, ι, S, d, env, env1, R, r, en, e1, fun σ1 en1 w1 => ?_⟩
      refine ⟨ι, S, ds, env1, env', R, rs, en1, ev, fun σ2 en2 w2 => q σ2 en2 fun vs hv => ?_⟩
      rw [w2 vs fun i hi => hv i (by simp [T.slotsAll, hi]), w1 vs fun i hi => hv i (by simp [T.slotsAll, hi])]
theorem tgt_len {env : PySem.Env} : ∀ {es : List Expr}, es.all notStar = true → (assignEach es env).length = es.length ∧ (assignEach es env).findIdx? (·.1) = none
  | [], _ => ⟨rfl, rfl⟩
  | e :: es, h => by
    simp only [List.all_cons, Bool.and_eq_true] at h
    rw [tgt_cons h.1]
    obtain ⟨h1, h2⟩ := tgt_len (env := env) h.2
    exact ⟨by simp [h1], by rw [List.findIdx?_cons, h2]; rfl⟩
theorem asgAll_len : ∀ {ts : List T} {ds : List D} {env env' : Env} {S : Sto}, asgAll ts ds env S = some env' → ts.length = ds.length
  | [], [], _, _, _, _ => rfl
  | [], _ :: _, _, _, _, h => by simp [asgAll] at h
  | _ :: _, [], _, _, _, h => by simp [asgAll] at h
  | t :: ts, d :: ds, env, env', S, h => by
    simp only [asgAll] at h
    split at h <;> try cases h
    simp [asgAll_len h]
theorem gs_tup {es : List Expr} {n : Nat} {pos : Pos} {ts : List T} (O : Ok X tb N Gd g F k) (hn : es.all notStar = true) (hl : es.length = ts.length) (h : PGs X es (gTs X.K Gd ts)) : PG X (.Tuple es n pos) (gT X.K Gd (.tup ts)) := by
  obtain ⟨h1, h2⟩ := tgt_len (env := X.env) hn
  refine PG.imp (pg_tup (n := es.length) O.calm h h1 h2) fun v σ H Q q => ?_
  obtain ⟨ι, S, d, env, env', R, r, en, e, q⟩ := q
  cases r with
  | tup ht hr =>
    simp only [asg] at e
    refine ⟨_, _, rfl, ht, by rw [← hr.length, ← asgAll_len e, hl], ι, S, _, env, env', R, hr, en, e, fun σ' en' w => q σ' en' fun vs hv => w vs fun i hi => hv i (by simpa [T.slots] using hi)⟩
  | _ => simp [asg] at e

theorem tgt_blk {s : Shared} {H : Hp} {scope : Scope} {C : Addr} {cl : List (Str × Addr)} {fp : List Addr} : Tgt (X.blk s H scope (compEnvC scope cl C X.env) fp) scope := by
  intro x h
  unfold owned at h
  have e : (X.blk s H scope (compEnvC scope cl C X.env) fp).env.scope = L2.relS scope X.env.scope := rfl
  split at h
  · rename_i q
    have q2 := L2.lookup_relS_keep (sc := X.env.scope) (by decide) q
    exact ⟨.inl q2, .inr q2⟩
  · rename_i q
    have q2 := L2.lookup_relS_keep (sc := X.env.scope) (by decide) q
    exact ⟨.inr q2, .inl (by show (scope.names.lookup x == some .cell) = true; rw [q]; rfl)⟩
  · cases h

/-! ### comprehensions -/
theorem lcLoop_ok {w : Wk} {elt : Env → Sto → Option (D × Sto)} {ifs : Env → Sto → Option (Bool × Sto)} {t : T} {env0 : Env} : ∀ {xs acc : List D} {S : Sto} {r : List D × Sto}, lcLoop elt ifs t env0 w xs acc S = some r → w.ok S = true
  | [], acc, S, r, h => by
    unfold lcLoop at h
    split at h <;> first | assumption | cases h
  | x :: xs, acc, S, r, h => by
    unfold lcLoop at h
    split at h <;> first | assumption | cases h
theorem lc_imp {it elt : E} {ifs : List E} {t : T} {own : List Nat} (ht : ∀ i ∈ t.slots, i ∈ own) {tt : TT} (htt : ∀ σ H Q, (∃ ι S env b S', Rel X.K Gd H ι S ∧ REnv X.K Gd H ι σ env ∧ evIfs g F ifs env S = some (b, S') ∧ ∀ H' ι', Rel X.K Gd H' ι' S' → Ext H ι H' ι' → Q b H') → tt σ H Q) :
    ∀ σ H Q, tE X.K Gd g F (.lc elt t it ifs own) σ H Q → tLc (tW X.K Gd g F it) (gT X.K Gd t) tt (tE X.K Gd g F elt) own σ H Q := by
  intro σ H Q ⟨ι, S, env, r, R, en, ev, q⟩
  unfold evE at ev
  split at ev <;> try cases ev
  rename_i w S1 e1
  split at ev <;> cases ev
  rename_i ds S2 e2
  refine ⟨ι, S, env, w, S1, R, en, e1, fun J H1 ι1 R1 wk x1 => ?_⟩
  have en1 := (en.keep (x1.keeps R)).wipe own
  intro D hD
  refine ⟨fun i m Hi => m = w.items.length - i ∧ i ≤ w.items.length ∧ ∃ ιi Si acc vs, Rel X.K Gd Hi ιi Si ∧ Ext H1 ι1 Hi ιi ∧ (∀ p ∈ ιi, p.1 ≠ D) ∧ Hi D = some (.lst vs) ∧ RDs X.K Gd Hi ιi acc vs ∧
    lcLoop (evE g F elt) (evIfs g F ifs) t (wipeD env own) w (w.items.drop i) acc Si = some (ds, S2), ⟨w.items.length, by simp, Nat.zero_le _, ι1, S1, [], [], R1.fresh hD, (Ext.refl (H := H1) (ι := ι1)).loose hD, R1.none_ne hD, upd_same, .nil, by simpa using e2⟩, ?_⟩
  rintro i m Hi ⟨rfl, hi, ιi, Si, acc, vs, Ri, xi, hDi, hDl, racc, el⟩
  have kpi : Kp X.K H1 ι1 Hi ιi := xi.keeps R1
  have wki := wk i Hi ιi Si Ri kpi (lcLoop_ok el)
  by_cases hlt : i < w.items.length
  · -- one more turn
    have hd : w.items.drop i = w.items[i] :: w.items.drop (i + 1) := List.drop_eq_getElem_cons hlt
    rw [hd] at el
    unfold lcLoop at el
    rw [if_pos (by split at el <;> first | assumption | cases el)] at el
    obtain ⟨hgo, hy⟩ := wki.1 w.items[i] (by simp [hlt])
    refine .inr ⟨hgo, fun H' => ∃ ι' S' acc' vs', Rel X.K Gd H' ι' S' ∧ Ext H1 ι1 H' ι' ∧ (∀ p ∈ ι', p.1 ≠ D) ∧ H' D = some (.lst vs') ∧ RDs X.K Gd H' ι' acc' vs' ∧
      lcLoop (evE g F elt) (evIfs g F ifs) t (wipeD env own) w (w.items.drop (i + 1)) acc' S' = some (ds, S2), fun H' ⟨ι', S', acc', vs', h1, h2, h3, h4, h5, h6⟩ => ⟨w.items.length - (i + 1), by omega, rfl, hlt, ι', S', acc', vs', h1, h2, h3, h4, h5, h6⟩, fun v H' y => ?_⟩
    obtain ⟨rfl, rv⟩ := hy v H' y
    split at el <;> try cases el
    rename_i env2 ea
    refine ⟨ιi, Si, w.items[i], wipeD env own, env2, Ri, rv, en1.keep kpi, ea, fun σ2 en2 wp => ⟨?_, ?_⟩⟩
    · rw [wp own ht]
      exact wipe_idem σ own
    · split at el
      · -- the element is kept
        rename_i Sb eb
        split at el <;> try cases el
        rename_i yv Sc ec
        split at el <;> try cases el
        rename_i hlen
        refine htt _ _ _ ⟨ιi, Si, env2, true, Sb, Ri, en2, eb, fun Hb ιb Rb xb => iteT ?_⟩
        refine ⟨ιb, Sb, env2, (yv, Sc), Rb, en2.keep (xb.keeps Ri), ec, fun v2 Hc ιc Rc rc xc => ?_⟩
        have xbc := xb.trans xc
        obtain ⟨o1, o2⟩ := xbc.out hDi hDl
        have racc' := racc.keep (xbc.keeps Ri)
        have hl : vs.length < sizeLine := by
          rw [← racc.length, ← cap_eq]
          exact hlen
        refine ⟨vs, o2, hl, ιc, Sc, acc ++ [yv], vs ++ [v2], ?_, ?_, o1, upd_same, ?_, el⟩
        · exact Rc.loose ⟨o1, .inr (.inl ⟨_, o2⟩)⟩
        · exact (xi.trans xbc).loose hD
        · have kp : Kp X.K Hc ιc (upd Hc D (.lst (vs ++ [v2]))) ιc := Loose.keeps ⟨o1, .inr (.inl ⟨_, o2⟩)⟩
          exact (racc'.append (.cons rc .nil)).keep kp
      · rename_i Sb eb
        refine htt _ _ _ ⟨ιi, Si, env2, false, Sb, Ri, en2, eb, fun Hb ιb Rb xb => iteF ?_⟩
        obtain ⟨o1, o2⟩ := xb.out hDi hDl
        exact ⟨ιb, Sb, acc, vs, Rb, xi.trans xb, o1, o2, racc.keep (xb.keeps Ri), el⟩
      · cases el
  · -- the end
    have e : i = w.items.length := by omega
    subst e
    simp only [List.drop_length] at el
    unfold lcLoop at el
    split at el <;> cases el
    refine .inl ⟨wki.2 (Nat.le_refl _), ?_⟩
    have xx : Ext H ι Hi ιi := x1.trans xi
    have hn : H D = none := x1.dom D hD
    have q' : Post X.K Gd H ι (.loc .lst S2.length, S2 ++ [.lst ds]) Q := q.gc R
    refine q' _ Hi (ιi ++ [(D, .lst)]) (Ri.claim (ob := .lst ds) hDi ⟨vs, hDl, racc⟩) (.loc (by rw [← Ri.len]; simp)) (xx.claim hn)
end
end CV

set_option Elab.async false
set_option linter.all false
set_option maxRecDepth 100000
set_option maxHeartbeats 4000000
/-! CvH: what cE makes of an expression is what the model's eval does. -/
namespace CV
open PySem PySem.Spec PyProof.Rows L2

section
variable {X : Cx} {tb : Tb} {N : List Str} {Gd : Str → Addr → Prop} {g : Cst} {F : FT} {k : Nat}

theorem allO_some {α β : Type} {f : α → Option β} : ∀ {xs : List α} {ys : List β}, allO (xs.map f) = some ys → xs.length = ys.length ∧ ∀ (i : Nat) (x : α), xs[i]? = some x → ∃ y, ys[i]? = some y ∧ f x = some y
  | [], ys, h => by simp [allO] at h; subst h; exact ⟨rfl, fun i x h => by simp at h⟩
  | x :: xs, ys, h => by
    simp only [List.map_cons] at h
    cases e : f x with
    | none => rw [e] at h; simp [allO] at h
    | some y =>
      rw [e] at h
      simp only [allO, Option.map_eq_some_iff] at h
      obtain ⟨zs, e2, rfl⟩ := h
      obtain ⟨h1, h2⟩ := allO_some e2
      refine ⟨by simp [h1], fun i z hz => ?_⟩
      cases i with
      | zero => simp at hz; subst hz; exact ⟨y, rfl, e⟩
      | succ i => simp only [List.getElem?_cons_succ] at hz ⊢; exact h2 i z hz
theorem allO_cons {α β : Type} {f : α → Option β} {x : α} {xs : List α} {ys : List β} (h : allO ((x :: xs).map f) = some ys) : ∃ z zs, f x = some z ∧ allO (xs.map f) = some zs ∧ ys = z :: zs := by
  simp only [List.map_cons] at h
  cases e : f x with
  | none => rw [e] at h; simp [allO] at h
  | some y =>
    rw [e] at h
    simp only [allO, Option.map_eq_some_iff] at h
    obtain ⟨zs, e2, rfl⟩ := h
    exact ⟨y, zs, rfl, e2, rfl⟩
theorem allO_nil {α β : Type} {f : α → Option β} {ys : List β} (h : allO (([] : List α).map f) = some ys) : ys = [] := by
  simp [allO] at h
  exact h

/-- an expression, as a value, as a test, as what is walked -/
structure Sound (X : Cx) (Gd : Str → Addr → Prop) (g : Cst) (F : FT) (e : Expr) (ir : E) : Prop where
  val : PE X e (tE X.K Gd g F ir)
  tst : PT X e (tT X.K Gd g F ir)
  wlk : ∀ tg, PI X tg e (tW X.K Gd g F ir)
theorem Sound.plain {e : Expr} {ir : E} (he : PE X e (tE X.K Gd g F ir)) (h1 : ∀ whole, isTrue e X.env whole = (do let v ← whole; standAt e.pos; holding [v] (truthy v)))
    (h2 : ∀ env S, evT g F ir env S = match evE g F ir env S with
      | some (d, S1) => match truth S1 d with
        | some k => some (k, S1)
        | none => none
      | none => none)
    (h3 : ∀ env S, evW g F ir env S = match evE g F ir env S with
      | some (d, S1) => match wkOf S1 d with
        | some w => some (w, S1)
        | none => none
      | none => none) : Sound X Gd g F e ir := ⟨he, st_plain he h1 h2, fun _ => sw_plain he h3⟩
theorem Sound.test {e : Expr} {ir : E} (he : PE X e (tE X.K Gd g F ir)) (ht : PT X e (tT X.K Gd g F ir))
    (h3 : ∀ env S, evW g F ir env S = match evE g F ir env S with
      | some (d, S1) => match wkOf S1 d with
        | some w => some (w, S1)
        | none => none
      | none => none) : Sound X Gd g F e ir := ⟨he, ht, fun _ => sw_plain he h3⟩

/-- a list of expressions -/
theorem soundEs {f : Expr → Option E} : ∀ {es : List Expr} {ies : List E}, (∀ e ∈ es, ∀ ie, f e = some ie → PE X e (tE X.K Gd g F ie)) → es.all notStar = true → allO (es.map f) = some ies → PA X es (tA X.K Gd g F ies)
  | [], ies, _, _, h => by
    have := allO_nil h
    subst this
    exact sa_nil
  | e :: es, ies, ih, hn, h => by
    obtain ⟨z, zs, e1, e2, rfl⟩ := allO_cons h
    simp only [List.all_cons, Bool.and_eq_true] at hn
    exact sa_cons hn.1 (ih e (List.mem_cons_self ..) z e1) (soundEs (fun e he => ih e (List.mem_cons_of_mem _ he)) hn.2 e2)

/-! ### dicts written out -/
theorem key_pe {o : Option Expr} {ky : L2.Key} (h : keyC o = some ky) : ∃ e, o = some e ∧ PE X e (tC (kV ky)) := by
  unfold keyC at h
  split at h <;> cases h
  · exact ⟨_, rfl, pe_str⟩
  · exact ⟨_, rfl, pe_int⟩
theorem sd_pps {pos : Pos} {f : Expr → Option E} : ∀ {ks : List (Option Expr)} {vs : List Expr} {kys : List L2.Key} {ies : List E}, (∀ e ∈ vs, ∀ ie, f e = some ie → PE X e (tE X.K Gd g F ie)) → allO (ks.map keyC) = some kys → allO (vs.map f) = some ies → ks.length = vs.length →
    PPs X pos ks vs ((kys.zip ies).map fun p => (tC (kV p.1), tE X.K Gd g F p.2)) ∧ kys.length = ies.length ∧ ks.all (·.isSome) = true ∧ kys.length = ks.length
  | [], [], kys, ies, _, h1, h2, _ => by
    have a := allO_nil h1
    have b := allO_nil h2
    subst a b
    exact ⟨pps_nil, rfl, rfl, rfl⟩
  | [], _ :: _, _, _, _, _, _, h => by simp at h
  | _ :: _, [], _, _, _, _, _, h => by simp at h
  | o :: ks, v :: vs, kys, ies, ih, h1, h2, hl => by
    obtain ⟨z, zs, e1, e2, rfl⟩ := allO_cons h1
    obtain ⟨y, ys, e3, e4, rfl⟩ := allO_cons h2
    obtain ⟨e, rfl, pk⟩ := key_pe (X := X) e1
    obtain ⟨p, q1, q2, q3⟩ := sd_pps (fun e he => ih e (List.mem_cons_of_mem _ he)) e2 e4 (by simpa using hl)
    exact ⟨pps_cons pk (ih v (List.mem_cons_self ..) y e3) p, by simp [q1], by simp [q2], by simp [q3]⟩
theorem tPairs_ev {ies : List E} : ∀ {kys : List L2.Key} {σ : L2.St} {H : Hp} {Q : List (V × V) → Hp → Prop}, kys.length = ies.length →
    (∃ ι S env ds S', Rel X.K Gd H ι S ∧ REnv X.K Gd H ι σ env ∧ evEs g F ies env S = some (ds, S') ∧ ∀ vs H' ι', Rel X.K Gd H' ι' S' → RDs X.K Gd H' ι' ds vs → Ext H ι H' ι' → Q ((kys.zip vs).map fun p => (kV p.1, p.2)) H') →
    tPairs ((kys.zip ies).map fun p => (tC (kV p.1), tE X.K Gd g F p.2)) σ H Q := by
  induction ies with
  | nil =>
    intro kys σ H Q hl ⟨ι, S, env, ds, S', R, en, ev, q⟩
    cases kys with
    | cons _ _ => simp at hl
    | nil =>
      simp only [evEs, Option.some.injEq, Prod.mk.injEq] at ev
      obtain ⟨rfl, rfl⟩ := ev
      exact q [] H ι R .nil Ext.refl
  | cons ie ies ih =>
    intro kys σ H Q hl ⟨ι, S, env, ds, S', R, en, ev, q⟩
    cases kys with
    | nil => simp at hl
    | cons ky kys =>
      simp only [evEs] at ev
      split at ev <;> try cases ev
      rename_i d S1 e1
      split at ev <;> cases ev
      rename_i ds' e2
      refine (show tE X.K Gd g F ie σ H _ from ⟨ι, S, env, (d, S1), R, en, e1, fun v H1 ι1 R1 r1 x1 => ?_⟩)
      refine ih (by simpa using hl) ⟨ι1, S1, env, ds', _, R1, en.keep (x1.keeps R), e2, fun vs H2 ι2 R2 r2 x2 => ?_⟩
      exact q (v :: vs) H2 ι2 R2 (.cons (r1.keep (x2.keeps R1)) r2) (x1.trans x2)
theorem merge_rd {K : PySem.W.Frag} {H : Hp} {ι : Loc} : ∀ {kys : List L2.Key} {ds : List D} {vs : List V} {acc : List (L2.Key × D)} {accv : List (L2.Key × V)}, kys.length = ds.length → RDs K Gd H ι ds vs → RKv K Gd H ι acc accv →
    RKv K Gd H ι ((kys.zip ds).foldl (fun acc kv => putD acc kv.1 kv.2) acc) ((kys.zip vs).foldl (fun acc kv => putK acc kv.1 kv.2) accv)
  | [], _, _, _, _, _, _, r => r
  | _ :: _, [], _, _, _, h, _, _ => by simp at h
  | ky :: kys, d :: ds, _, acc, accv, h, .cons rd rs, r => merge_rd (kys := kys) (ds := ds) (by simpa using h) rs (RKv.put rd r)
theorem se_dct {ks : List (Option Expr)} {vs : List Expr} {pos : Pos} {kys : List L2.Key} {ies : List E} {trs : List (TE × TE)} (hp : PPs X pos ks vs ((kys.zip ies).map fun p => (tC (kV p.1), tE X.K Gd g F p.2))) (hl : kys.length = ies.length) (hall : ks.all (·.isSome) = true) (hkl : kys.length = ks.length) (hlen : ks.length = vs.length) :
    PE X (.Dict ks vs pos) (tE X.K Gd g F (.dct kys ies)) := by
  -- what the evaluator asks
  have evs_len : ∀ (ies : List E) (env : Env) (S : Sto) (ds : List D) (S1 : Sto), evEs g F ies env S = some (ds, S1) → ds.length = ies.length := fun ies => by
    induction ies with
    | nil => intro env S ds S1 h; simp only [evEs, Option.some.injEq, Prod.mk.injEq] at h; rw [← h.1]; rfl
    | cons e es ih =>
      intro env S ds S1 h
      simp only [evEs] at h
      split at h <;> try cases h
      split at h <;> cases h
      rename_i e2
      simp [ih _ _ _ _ e2]
  by_cases h0 : ks = []
  · subst h0
    cases kys with
    | cons _ _ => simp at hkl
    | nil =>
      cases ies with
      | cons _ _ => simp at hl
      | nil =>
        cases vs with
        | cons _ _ => simp at hlen
        | nil =>
          refine PE.imp pe_dnewK fun σ H Q q => ?_
          obtain ⟨ι, S, env, r, R, en, ev, q⟩ := q
          simp [evE, evEs] at ev
          subst ev
          intro p hp
          exact q _ _ (ι ++ [(p, .dct)]) (R.alloc (ob := .dct []) hp ⟨[], upd_same, .nil⟩) (.loc (by rw [← R.len]; simp)) (Ext.alloc hp)
  · by_cases h15 : ks.length ≤ 15
    · refine PE.imp (pe_disp hp hall hlen h0 h15) fun σ H Q q => ?_
      obtain ⟨ι, S, env, r, R, en, ev, q⟩ := q
      simp only [evE] at ev
      split at ev <;> try cases ev
      rename_i ds S1 e1
      split at ev <;> cases ev
      rename_i hc
      simp only [Bool.and_eq_true, decide_eq_true_eq, beq_iff_eq] at hc
      intro p hp
      refine tPairs_ev hl ⟨ι, S, env, ds, S1, R.fresh hp, en.keep ((Ext.fresh (ι := ι) hp).keeps R), e1, fun us H2 ι2 R2 r2 x2 => ?_⟩
      obtain ⟨o1, o2⟩ := x2.out (R.none_ne hp) upd_same
      refine ⟨o2, kys.zip us, rfl, ?_, ?_⟩
      · rw [List.length_zip, hc.2, r2.length]
        have := r2.length
        omega
      · have l : Loose H2 ι2 p := ⟨o1, .inr (.inr ⟨_, o2⟩)⟩
        have R3 := R2.loose (o := .dK (mergeK [] (kys.zip us))) l
        have x3 : Ext H ι (upd H2 p (.dK (mergeK [] (kys.zip us)))) ι2 := ((Ext.fresh hp).trans x2).loose hp
        have m : RKv X.K Gd H2 ι2 _ (mergeK [] (kys.zip us)) := merge_rd hc.2 r2 .nil
        exact q _ _ (ι2 ++ [(p, .dct)]) (R3.claim (ob := .dct _) o1 ⟨_, upd_same, m.keep l.keeps⟩) (.loc (by rw [← R2.len]; simp)) (x3.claim hp)
    · refine ⟨fun pins s σ H Q I q => ?_⟩
      obtain ⟨ι, S, env, r, R, en, ev, q⟩ := q
      simp only [evE] at ev
      split at ev <;> try cases ev
      rename_i ds S1 e1
      split at ev <;> cases ev
      rename_i hc
      simp only [Bool.and_eq_true, decide_eq_true_eq, beq_iff_eq] at hc
      omega

theorem fold_ok {n : Nat} {sc : Scope} {e : Expr} {ir : E} {env : PySem.Env} (h : cE tb N n sc e = some ir) (x : Value) : foldedSetIterable e env x = pure x := by
  cases e <;> try rfl
  cases n with
  | zero => simp [cE] at h
  | succ n => simp [cE] at h

/-! ### targets -/
theorem soundT : ∀ (n : Nat) {sc : Scope} {e : Expr} {t : T}, Ok X tb N Gd g F k → Tgt X sc → cT N n sc e = some t → PG X e (gT X.K Gd t)
  | 0, _, _, _, _, _, h => by simp [cT] at h
  | n + 1, sc, e, t, O, hT, h => by
    unfold cT at h
    split at h
    · split at h <;> try cases h
      rename_i ho
      simp only [Option.map_eq_some_iff] at h
      obtain ⟨i, e1, rfl⟩ := h
      exact gs_nm O hT ho e1
    · rename_i es _ _
      split at h <;> try cases h
      rename_i hn
      simp only [Option.map_eq_some_iff] at h
      obtain ⟨ts, e1, rfl⟩ := h
      have all : ∀ (es : List Expr) (ts : List T), es.all notStar = true → allO (es.map (cT N n sc)) = some ts → PGs X es (gTs X.K Gd ts) := fun es => by
        induction es with
        | nil => intro ts _ h; have := allO_nil h; subst this; exact gs_nil
        | cons e es ih =>
          intro ts hn h
          obtain ⟨z, zs, e1, e2, rfl⟩ := allO_cons h
          simp only [List.all_cons, Bool.and_eq_true] at hn
          exact gs_cons hn.1 (soundT n O hT e1) (ih zs hn.2 e2)
      exact gs_tup O hn (allO_some e1).1 (all es ts hn e1)
    · cases h
end
end CV

set_option Elab.async false
set_option linter.all false
set_option maxRecDepth 100000
set_option maxHeartbeats 8000000
/-! CvJ: cE is sound. -/
namespace CV
open PySem PySem.Spec PyProof.Rows L2

section
variable {tb : Tb} {N : List Str} {Gd : Str → Addr → Prop} {g : Cst} {F : FT} {k : Nat}

def E.isRng : E → Bool
  | .rng _ => true
  | _ => false
def E.isTst : E → Bool
  | .and_ _ _ => true
  | .or_ _ _ => true
  | .not_ _ => true
  | .ife _ _ _ => true
  | _ => false
theorem evW_pl {ir : E} (h : ir.isRng = false) (env : Env) (S : Sto) : evW g F ir env S = match evE g F ir env S with
      | some (d, S1) => match wkOf S1 d with
        | some w => some (w, S1)
        | none => none
      | none => none := by
  cases ir <;> first | (exact absurd (show true = false from h) (by decide)) | (unfold evW; rfl) | (rw [evW]; intro es z; cases z) | (simp [evW]; done)
theorem evT_pl {ir : E} (h : ir.isTst = false) (env : Env) (S : Sto) : evT g F ir env S = match evE g F ir env S with
      | some (d, S1) => match truth S1 d with
        | some k => some (k, S1)
        | none => none
      | none => none := by
  cases ir <;> first | (exact absurd (show true = false from h) (by decide)) | (unfold evT; rfl) | (simp [evT]; done)
theorem se_rng {X : Cx} {e : Expr} {es : List E} : PE X e (tE X.K Gd g F (.rng es)) := ⟨fun pins s σ H Q I q => by
  obtain ⟨ι, S, env, r, R, en, ev, q⟩ := q
  simp [evE] at ev⟩
theorem st_rng {X : Cx} {e : Expr} {es : List E} : PT X e (tT X.K Gd g F (.rng es)) := ⟨fun pins s σ H Q I q => by
  obtain ⟨ι, S, env, b, S', R, en, ev, q⟩ := q
  simp [evT, evE] at ev⟩
theorem sw_never {X : Cx} {tg e : Expr} {es : List E} (h : es.length ≠ 1 ∧ es.length ≠ 2) : PI X tg e (tW X.K Gd g F (.rng es)) := ⟨fun pins s σ H R I q => by
  obtain ⟨ι, S, env, w, S', Rl, en, ev, q⟩ := q
  have evs_len : ∀ (ies : List E) (env : Env) (S : Sto) (ds : List D) (S1 : Sto), evEs g F ies env S = some (ds, S1) → ds.length = ies.length := fun ies => by
    induction ies with
    | nil => intro env S ds S1 h; simp only [evEs, Option.some.injEq, Prod.mk.injEq] at h; rw [← h.1]; rfl
    | cons e es ih =>
      intro env S ds S1 h
      simp only [evEs] at h
      split at h <;> try cases h
      split at h <;> cases h
      rename_i e2
      simp [ih _ _ _ _ e2]
  unfold evW at ev
  split at ev
  · rename_i e1
    have := evs_len _ _ _ _ _ e1
    exact absurd this.symm h.1
  · rename_i e1
    have := evs_len _ _ _ _ _ e1
    exact absurd this.symm h.2
  · cases ev⟩

theorem soundE : ∀ (n : Nat) {X : Cx} {sc : Scope} {e : Expr} {ir : E}, Ok X tb N Gd g F k → X.env.scope = sc → cE tb N n sc e = some ir → Sound X Gd g F e ir
  | 0, _, _, _, _, _, _, h => by simp [cE] at h
  | n + 1, X, sc, e, ir, O, hs, h => by
    have ih : ∀ {e : Expr} {ir : E}, cE tb N n sc e = some ir → Sound X Gd g F e ir := fun h => soundE n O hs h
    have ihs : ∀ {es : List Expr} {ies : List E}, es.all notStar = true → allO (es.map (cE tb N n sc)) = some ies → PA X es (tA X.K Gd g F ies) := fun hn h => soundEs (fun e _ ie he => (ih he).val) hn h
    unfold cE at h
    split at h
    · -- int
      cases h
      exact .plain (se_cst pe_int fun _ _ => .int _) (fun _ => rfl) (evT_pl rfl) (evW_pl rfl)
    · -- str
      split at h <;> cases h
      rename_i hg
      exact .plain (se_cst pe_str fun _ _ => .str hg) (fun _ => rfl) (evT_pl rfl) (evW_pl rfl)
    · cases h
      exact .plain (se_cst pe_bl fun _ _ => .bl _) (fun _ => rfl) (evT_pl rfl) (evW_pl rfl)
    · cases h
      exact .plain (se_cst pe_non fun _ _ => .non) (fun _ => rfl) (evT_pl rfl) (evW_pl rfl)
    · -- Name
      rename_i x p
      split at h <;> try cases h
      rename_i hp
      have hp : plainN x = true := by simpa using hp
      obtain ⟨p1, p2, p3⟩ := plainN_ok hp
      split at h
      · rename_i hv
        simp only [Option.map_eq_some_iff] at h
        obtain ⟨i, e1, rfl⟩ := h
        exact .plain (se_var O hs hv hp e1) (fun _ => rfl) (evT_pl rfl) (evW_pl rfl)
      · split at h <;> try cases h
        rename_i hg
        split at h
        · rename_i d e1
          cases h
          obtain ⟨u, v, hm, rv, rd⟩ := O.cst x d e1
          exact .plain (se_cst (pe_glob (glob_gl hs hg) hm rv p1) rd) (fun _ => rfl) (evT_pl rfl) (evW_pl rfl)
        · split at h <;> cases h
          rename_i hx
          obtain ⟨a, hm, ga⟩ := O.gds x hx
          exact .plain (se_cst (v := .ref a) (pe_glob (glob_gl hs hg) hm rfl p1) fun _ _ => .gd ga) (fun _ => rfl) (evT_pl rfl) (evW_pl rfl)
    · -- Tuple
      split at h <;> try cases h
      rename_i hn
      simp only [Option.map_eq_some_iff] at h
      obtain ⟨ies, e1, rfl⟩ := h
      exact .plain (se_tup (ihs hn e1)) (fun _ => rfl) (evT_pl rfl) (evW_pl rfl)
    · split at h <;> try cases h
      rename_i hn
      simp only [Option.map_eq_some_iff] at h
      obtain ⟨ies, e1, rfl⟩ := h
      exact .plain (se_lst (ihs hn e1)) (fun _ => rfl) (evT_pl rfl) (evW_pl rfl)
    · -- Dict
      split at h <;> try cases h
      rename_i ks' vs' e1 e2
      split at h <;> cases h
      rename_i hl
      obtain ⟨q1, q2, q3, q4⟩ := sd_pps (X := X) (Gd := Gd) (g := g) (F := F) (fun e _ ie he => (ih he).val) e1 e2 hl
      exact .plain (se_dct (trs := []) q1 q2 q3 q4 hl) (fun _ => rfl) (evT_pl rfl) (evW_pl rfl)
    · -- BinOp
      split at h <;> cases h
      rename_i e1 e2 e3
      exact .plain (se_bin e1 (ih e2).val (ih e3).val) (fun _ => rfl) (evT_pl rfl) (evW_pl rfl)
    · simp only [Option.map_eq_some_iff] at h
      obtain ⟨ia, e1, rfl⟩ := h
      exact .plain (se_neg (ih e1).val) (fun _ => rfl) (evT_pl rfl) (evW_pl rfl)
    · simp only [Option.map_eq_some_iff] at h
      obtain ⟨ia, e1, rfl⟩ := h
      exact .test (se_not (ih e1).val) (st_not (ih e1).tst) (evW_pl rfl)
    · -- BoolOp of one
      rename_i op a pos
      have s := ih h
      refine ⟨pe_one s.val, ?_, fun tg => ⟨fun pins s' σ H R I q => ?_⟩⟩
      · cases op with
        | And => exact (pw_and1 s.tst).pt
        | Or => exact (pw_or1 s.tst).pt
      · have := (s.wlk tg).run pins s' σ H R I q
        exact BoolOp_one this
    · -- and
      split at h <;> cases h
      rename_i e1 e2
      exact .test (se_and (ih e1).val (ih e2).val) (st_and (ih e1).tst (ih e2).tst) (evW_pl rfl)
    · split at h <;> cases h
      rename_i e1 e2
      exact .test (se_or (ih e1).val (ih e2).val) (st_or (ih e1).tst (ih e2).tst) (evW_pl rfl)
    · split at h <;> cases h
      rename_i e1 e2 e3
      exact .test (se_ife (ih e1).tst (ih e2).val (ih e3).val) (st_ife (ih e1).tst (ih e2).tst (ih e3).tst) (evW_pl rfl)
    · -- is
      split at h <;> cases h
      rename_i e1 e2
      obtain ⟨q1, q2⟩ := se_is (neg := false) O (ih e1).val (ih e2).val
      exact .test q1 q2 (evW_pl rfl)
    · split at h <;> cases h
      rename_i e1 e2
      obtain ⟨q1, q2⟩ := se_is (neg := true) O (ih e1).val (ih e2).val
      exact .test q1 q2 (evW_pl rfl)
    · -- Compare
      split at h <;> try cases h
      rename_i hm
      split at h <;> cases h
      rename_i e1 e2 e3
      obtain ⟨q1, q2⟩ := se_cmp O e1 (by simpa using hm) (ih e2).val (ih e3).val
      exact .test q1 q2 (evW_pl rfl)
    · split at h <;> try cases h
      rename_i hm
      split at h <;> cases h
      rename_i e1 e2 e3 e4 e5
      obtain ⟨q1, q2⟩ := se_chain O e1 e2 (by simpa using hm) (ih e3).val (ih e4).val (ih e5).val
      exact .test q1 q2 (evW_pl rfl)
    · -- f(..)
      rename_i f p args pos
      split at h <;> try cases h
      rename_i hc
      have hc : plainN f = true ∧ glob sc f = true ∧ args.all notStar = true := by
        simp only [Bool.not_eq_true, Bool.not_eq_false', Bool.and_eq_true, Bool.not_not] at hc
        simpa [and_assoc] using hc
      obtain ⟨hp, hg, hn⟩ := hc
      split at h
      · rename_i hf
        simp only [Option.map_eq_some_iff] at h
        obtain ⟨ies, e1, rfl⟩ := h
        cases args with
        | nil =>
          have := allO_nil e1
          subst this
          exact .plain (se_call0 O hs hg hp hf) (fun _ => rfl) (evT_pl rfl) (evW_pl rfl)
        | cons a as => exact .plain (se_call O hs hg hp hf hn (ihs hn e1)) (fun _ => rfl) (evT_pl rfl) (evW_pl rfl)
      · split at h
        · rename_i hf
          subst hf
          split at h
          · split at h <;> cases h
            rename_i e1 e2
            simp only [List.all_cons, Bool.and_eq_true] at hn
            exact .plain (se_isi1 O hs hg hn.1 (ih e1).val e2) (fun _ => rfl) (evT_pl rfl) (evW_pl rfl)
          · cases h
        · split at h
          · rename_i hf
            subst hf
            simp only [Option.map_eq_some_iff] at h
            obtain ⟨ies, e1, rfl⟩ := h
            refine ⟨se_rng, st_rng, fun tg => ?_⟩
            match args, ies, hn, e1 with
            | [], ies, hn, e1 =>
              have := allO_nil e1
              subst this
              exact sw_never (by simp)
            | [a], ies, hn, e1 =>
              have hl := (allO_some e1).1
              match ies, hl, e1 with
              | [ia], _, e1 => exact sw_rng1 O hs hg (by simpa using hn) (ihs hn e1)
            | [a, b], ies, hn, e1 =>
              have hl := (allO_some e1).1
              match ies, hl, e1 with
              | [ia, ib], _, e1 =>
                simp only [List.all_cons, Bool.and_eq_true] at hn
                exact sw_rng2 O hs hg hn.1 hn.2.1 (ihs (by simp [hn]) e1)
            | a :: b :: c :: r, ies, hn, e1 =>
              have hl := (allO_some e1).1
              exact sw_never (by simp at hl; omega)
          · split at h
            · rename_i b hb
              simp only [Option.map_eq_some_iff] at h
              obtain ⟨ies, e1, rfl⟩ := h
              cases args with
              | nil => simp [biC] at hb
              | cons a as => exact .plain (se_bi O hs hg hp hb hn (ihs hn e1)) (fun _ => rfl) (evT_pl rfl) (evW_pl rfl)
            · cases h
    · -- o.m(..)
      rename_i o m apos args cpos
      split at h <;> try cases h
      rename_i hc
      simp only [Bool.and_eq_true] at hc
      split at h <;> cases h
      rename_i me io ies e1 e2 e3
      have hl := (allO_some e3).1
      match args, ies, hl, e1, e3, hc with
      | [], [], _, e1, e3, hc => exact .plain (se_meth0 e1 hc.1.2 hc.2 (ih e2).val) (fun _ => rfl) (evT_pl rfl) (evW_pl rfl)
      | [a], [ia], _, e1, e3, hc => exact .plain (se_meth1 e1 (by simpa using hc.1.1) hc.1.2 hc.2 (ih e2).val (ihs hc.1.1 e3)) (fun _ => rfl) (evT_pl rfl) (evW_pl rfl)
      | a :: b :: r, _, _, e1, _, _ => simp [meC] at e1
    · simp only [Option.map_eq_some_iff] at h
      obtain ⟨ia, e1, rfl⟩ := h
      exact .plain (se_rev (ih e1).val) (fun _ => rfl) (evT_pl rfl) (evW_pl rfl)
    · -- slices
      split at h <;> cases h
      rename_i e1 e2 e3
      have so : ∀ {o : Option Expr} {io : Option E}, cOp (cE tb N n sc) o = some io → PO X o (tO X.K Gd g F io) := fun {o io} h => by
        cases o with
        | none => simp [cOp] at h; subst h; exact so_none
        | some e =>
          simp only [cOp, Option.map_eq_some_iff] at h
          obtain ⟨ie, e1, rfl⟩ := h
          exact so_some (ih e1).val
      exact .plain (se_sl (ih e1).val (so e2) (so e3)) (fun _ => rfl) (evT_pl rfl) (evW_pl rfl)
    · split at h <;> try cases h
      rename_i hn
      split at h <;> cases h
      rename_i e1 e2
      exact .plain (se_ix O hn (ih e1).val (ih e2).val) (fun _ => rfl) (evT_pl rfl) (evW_pl rfl)
    · -- comprehensions
      rename_i elt tg it ifs scope pos
      split at h <;> try cases h
      rename_i hb
      split at h <;> try cases h
      rename_i x t i js e1 e2 e3 e4
      split at h <;> cases h
      rename_i hc
      simp only [Bool.and_eq_true, decide_eq_true_eq, List.all_eq_true] at hc
      have hbk : BlkOk X.N X.env.scope scope (ownOf N scope.names) := by
        rw [O.names, hs]
        exact blkOk_by hb
      have hifs : ∃ tt : TT, (∀ (s : Shared) (H : Hp) (C : Addr) (cl : List (Str × Addr)) (fp : List Addr), PTs (X.blk s H scope (compEnvC scope cl C X.env) fp) ifs tt) ∧
          ∀ σ H Q, (∃ ι S env b S', Rel X.K Gd H ι S ∧ REnv X.K Gd H ι σ env ∧ evIfs g F js env S = some (b, S') ∧ ∀ H' ι', Rel X.K Gd H' ι' S' → Ext H ι H' ι' → Q b H') → tt σ H Q := by
        have hl := (allO_some e4).1
        match ifs, js, hl, e4, hc with
        | [], [], _, _, _ =>
          refine ⟨tYes, fun s H C cl fp => pts_nil, fun σ H Q ⟨ι, S, env, b, S', R, en, ev, q⟩ => ?_⟩
          simp only [evIfs, Option.some.injEq, Prod.mk.injEq] at ev
          obtain ⟨rfl, rfl⟩ := ev
          exact q H ι R Ext.refl
        | [c], [jc], _, e4, _ =>
          obtain ⟨z, zs, a1, a2, a3⟩ := allO_cons e4
          cases a3
          refine ⟨tT X.K Gd g F jc, fun s H C cl fp => pts_one (soundE n (X := X.blk s H scope (compEnvC scope cl C X.env) fp) O.blk (by show L2.relS scope X.env.scope = _; rw [hs]) a1).tst, fun σ H Q ⟨ι, S, env, b, S', R, en, ev, q⟩ => ?_⟩
          exact ⟨ι, S, env, b, S', R, en, by simpa [evIfs] using ev, q⟩
        | _ :: _ :: _, _ :: _ :: _, _, _, hc => simp at hc
      obtain ⟨tt, h1, h2⟩ := hifs
      refine .plain (PE.imp (pe_lc (own := ownOf N scope.names) O.calm O.nd ((ih e3).wlk tg) hbk (fun s H C cl fp => soundT n (X := X.blk s H scope (compEnvC scope cl C X.env) fp) O.blk tgt_blk e2) h1
        (fun s H C cl fp => (soundE n (X := X.blk s H scope (compEnvC scope cl C X.env) fp) O.blk (by show L2.relS scope X.env.scope = _; rw [hs]) e1).val) (fold_ok e3)) (lc_imp (fun i hi => hc.2 i hi) h2)) (fun _ => rfl) (evT_pl rfl) (evW_pl rfl)
    · cases h
end
end CV

set_option Elab.async false
set_option linter.all false
set_option maxRecDepth 100000
set_option maxHeartbeats 8000000
/-! CvK: statements, defs. -/
namespace CV
open PySem PySem.Spec PyProof.Rows L2

section
variable {K : PySem.W.Frag} {Gd : Str → Addr → Prop} {g : Cst} {F : FT} {fuel : Nat}
/-- what is wanted behind a statement -/
def CPost (K : PySem.W.Frag) (Gd : Str → Addr → Prop) (H : Hp) (ι : Loc) (r : Fl × Env × Sto) (D : Ends) : Prop :=
  match r.1 with
  | .nx => ∀ σ' H' ι', Rel K Gd H' ι' r.2.2 → REnv K Gd H' ι' σ' r.2.1 → Ext H ι H' ι' → D.nx σ' H'
  | .bk => ∀ σ' H' ι', Rel K Gd H' ι' r.2.2 → REnv K Gd H' ι' σ' r.2.1 → Ext H ι H' ι' → D.bk σ' H'
  | .ct => ∀ σ' H' ι', Rel K Gd H' ι' r.2.2 → REnv K Gd H' ι' σ' r.2.1 → Ext H ι H' ι' → D.ct σ' H'
  | .rt d => ∀ v H' ι', Rel K Gd H' ι' r.2.2 → RD K Gd H' ι' d v → Ext H ι H' ι' → D.rt v H'
theorem CPost.step {H H1 : Hp} {ι ι1 : Loc} {r : Fl × Env × Sto} {D : Ends} (x : Ext H ι H1 ι1) (h : CPost K Gd H ι r D) : CPost K Gd H1 ι1 r D := by
  obtain ⟨f, env, S⟩ := r
  cases f with
  | nx => exact fun σ' H' ι' a b c => h σ' H' ι' a b (x.trans c)
  | bk => exact fun σ' H' ι' a b c => h σ' H' ι' a b (x.trans c)
  | ct => exact fun σ' H' ι' a b c => h σ' H' ι' a b (x.trans c)
  | rt d => exact fun σ' H' ι' a b c => h σ' H' ι' a b (x.trans c)
def tS (K : PySem.W.Frag) (Gd : Str → Addr → Prop) (g : Cst) (F : FT) (fuel : Nat) (c : C) : TS := fun D σ H =>
  ∃ ι S env r, Rel K Gd H ι S ∧ REnv K Gd H ι σ env ∧ evC g F fuel c env S = some r ∧ CPost K Gd H ι r D
def tSs (K : PySem.W.Frag) (Gd : Str → Addr → Prop) (g : Cst) (F : FT) (fuel : Nat) (cs : List C) : TS := fun D σ H =>
  ∃ ι S env r, Rel K Gd H ι S ∧ REnv K Gd H ι σ env ∧ evCs g F fuel cs env S = some r ∧ CPost K Gd H ι r D
end

section
variable {X : Cx} {tb : Tb} {N : List Str} {Gd : Str → Addr → Prop} {g : Cst} {F : FT} {k : Nat} {fuel : Nat}

theorem swaps_no {e : Expr} {t : Option Expr} {l : Nat} {env : PySem.Env} (h : notComp e = true) : swapsWith e t l env = pure false := by
  cases e <;> first | rfl | cases h

theorem ss_exp {e : Expr} {ie : E} {pos : Pos} (hn : notComp e = true) (he : PE X e (tE X.K Gd g F ie)) : PS X (.Expr e pos) (tS X.K Gd g F fuel (.exp ie)) := by
  refine PS.imp (ps_expr he (swaps_no hn)) fun D σ H q => ?_
  obtain ⟨ι, S, env, r, R, en, ev, q⟩ := q
  simp only [evC] at ev
  split at ev <;> cases ev
  rename_i d S1 e1
  exact ⟨ι, S, env, (d, S1), R, en, e1, fun v H1 ι1 R1 r1 x1 => q σ H1 ι1 R1 (en.keep (x1.keeps R)) x1⟩
theorem ss_asg {tg e : Expr} {t : T} {ie : E} {pos : Pos} (hn : notComp e = true) (hw : swappedStores [tg] e X.env = pure none) (ht : notStar tg = true) (he : PE X e (tE X.K Gd g F ie)) (hg : PG X tg (gT X.K Gd t)) :
    PS X (.Assign [tg] e pos) (tS X.K Gd g F fuel (.asg t ie)) := by
  refine PS.imp (ps_asg he hg (swaps_no hn) hw (by rw [tgt_cons ht]; rfl)) fun D σ H q => ?_
  obtain ⟨ι, S, env, r, R, en, ev, q⟩ := q
  simp only [evC] at ev
  split at ev <;> try cases ev
  rename_i d S1 e1
  split at ev <;> cases ev
  rename_i env1 e2
  refine ⟨ι, S, env, (d, S1), R, en, e1, fun v H1 ι1 R1 r1 x1 => ?_⟩
  exact ⟨ι1, S1, d, env, env1, R1, r1, en.keep (x1.keeps R), e2, fun σ' en' _ => q σ' H1 ι1 R1 en' x1⟩
theorem ss_sto {o i e : Expr} {io ii ie : E} {p pos : Pos} (O : Ok X tb N Gd g F k) (hn : notComp e = true) (hi : notSlice i = true) (ho : PE X o (tE X.K Gd g F io)) (hii : PE X i (tE X.K Gd g F ii)) (he : PE X e (tE X.K Gd g F ie)) :
    PS X (.Assign [.Subscript o i p] e pos) (tS X.K Gd g F fuel (.sto io ii ie)) := by
  have hsub : PG X (.Subscript o i p) (gSub (tE X.K Gd g F io) (tE X.K Gd g F ii) (rP X.K Gd)) := pg_sub ho hii (setOp O.hu) (by intro v; cases i <;> first | rfl | cases hi)
  refine PS.imp (ps_asg he hsub (by unfold swapsWithSole; exact swaps_no hn) (by cases e <;> rfl) (by rfl)) fun D σ H q => ?_
  obtain ⟨ι, S, env, r, R, en, ev, q⟩ := q
  simp only [evC] at ev
  split at ev <;> try cases ev
  rename_i v S1 e1
  split at ev <;> try cases ev
  rename_i x S2 e2
  split at ev <;> try cases ev
  rename_i y S3 e3
  split at ev <;> cases ev
  rename_i S4 e4
  refine ⟨ι, S, env, (v, S1), R, en, e1, fun v1 H1 ι1 R1 r1 x1 => ?_⟩
  have en1 := en.keep (x1.keeps R)
  refine ⟨ι1, S1, env, (x, S2), R1, en1, e2, fun v2 H2 ι2 R2 r2 x2 => ?_⟩
  have en2 := en1.keep (x2.keeps R1)
  refine ⟨ι2, S2, env, (y, S3), R2, en2, e3, fun v3 H3 ι3 R3 r3 x3 => ?_⟩
  have en3 := en2.keep (x3.keeps R2)
  refine ⟨ι3, S3, x, y, v, S4, R3, r2.keep (x3.keeps R2), r3, (r1.keep (x2.keeps R1)).keep (x3.keeps R2), e4, fun H4 R4 x4 => ?_⟩
  exact q σ H4 ι3 R4 (en3.keep (x4.keeps R3)) (((x1.trans x2).trans x3).trans x4)
theorem ss_ret {e : Expr} {ie : E} {pos : Pos} (he : PE X e (tE X.K Gd g F ie)) : PS X (.Return (some e) pos) (tS X.K Gd g F fuel (.ret ie)) := by
  refine PS.imp (ps_ret he) fun D σ H q => ?_
  obtain ⟨ι, S, env, r, R, en, ev, q⟩ := q
  simp only [evC] at ev
  split at ev <;> cases ev
  rename_i d S1 e1
  exact ⟨ι, S, env, (d, S1), R, en, e1, fun v H1 ι1 R1 r1 x1 => q v H1 ι1 R1 r1 x1⟩
theorem ss_retN {pos : Pos} : PS X (.Return none pos) (tS X.K Gd g F fuel .retN) := by
  refine PS.imp ps_retN fun D σ H q => ?_
  obtain ⟨ι, S, env, r, R, en, ev, q⟩ := q
  simp only [evC] at ev
  cases ev
  exact q _ H ι R .non Ext.refl
theorem ss_pass {pos : Pos} : PS X (.Pass pos) (tS X.K Gd g F fuel .pass) := by
  refine PS.imp ps_pass fun D σ H q => ?_
  obtain ⟨ι, S, env, r, R, en, ev, q⟩ := q
  simp only [evC] at ev
  cases ev
  exact q _ H ι R en Ext.refl
theorem ss_brk {pos : Pos} : PS X (.Break pos) (tS X.K Gd g F fuel .brk) := by
  refine PS.imp ps_break fun D σ H q => ?_
  obtain ⟨ι, S, env, r, R, en, ev, q⟩ := q
  simp only [evC] at ev
  cases ev
  exact q _ H ι R en Ext.refl
theorem ss_cnt {pos : Pos} : PS X (.Continue pos) (tS X.K Gd g F fuel .cnt) := by
  refine PS.imp ps_continue fun D σ H q => ?_
  obtain ⟨ι, S, env, r, R, en, ev, q⟩ := q
  simp only [evC] at ev
  cases ev
  exact q _ H ι R en Ext.refl
theorem ss_ife {c : Expr} {a b : List Stmt} {ic : E} {ia ib : List C} {pos : Pos} (hc : PT X c (tT X.K Gd g F ic)) (ha : PSs X a (tSs X.K Gd g F fuel ia)) (hb : PSs X b (tSs X.K Gd g F fuel ib)) :
    PS X (.If c a b pos) (tS X.K Gd g F fuel (.ife ic ia ib)) := by
  refine PS.imp (ps_if hc ha hb) fun D σ H q => ?_
  obtain ⟨ι, S, env, r, R, en, ev, q⟩ := q
  simp only [evC] at ev
  split at ev <;> try cases ev
  · rename_i S1 e1
    exact ⟨ι, S, env, true, S1, R, en, e1, fun H1 ι1 R1 x1 => iteT ⟨ι1, S1, env, r, R1, en.keep (x1.keeps R), ev, q.step x1⟩⟩
  · rename_i S1 e1
    exact ⟨ι, S, env, false, S1, R, en, e1, fun H1 ι1 R1 x1 => iteF ⟨ι1, S1, env, r, R1, en.keep (x1.keeps R), ev, q.step x1⟩⟩
theorem ss_nil : PSs X [] (tSs X.K Gd g F fuel []) := by
  refine PSs.imp pss_nil fun D σ H q => ?_
  obtain ⟨ι, S, env, r, R, en, ev, q⟩ := q
  simp only [evCs] at ev
  cases ev
  exact q _ H ι R en Ext.refl
theorem ss_cons {s : Stmt} {ss : List Stmt} {c : C} {cs : List C} (h1 : PS X s (tS X.K Gd g F fuel c)) (h2 : PSs X ss (tSs X.K Gd g F fuel cs)) : PSs X (s :: ss) (tSs X.K Gd g F fuel (c :: cs)) := by
  refine PSs.imp (pss_cons h1 h2) fun D σ H q => ?_
  obtain ⟨ι, S, env, r, R, en, ev, q⟩ := q
  simp only [evCs] at ev
  split at ev
  · rename_i env1 S1 e1
    exact ⟨ι, S, env, _, R, en, e1, fun σ' H' ι' R' en' x' => ⟨ι', S1, env1, r, R', en', ev, q.step x'⟩⟩
  · rename_i r0 hne
    refine ⟨ι, S, env, r, R, en, ev, ?_⟩
    · obtain ⟨f, env1, S1⟩ := r
      cases f with
      | nx => exact absurd ev (hne env1 S1)
      | bk => exact q
      | ct => exact q
      | rt d => exact q
theorem forLoop_ok {w : Wk} {body : Env → Sto → Option (Fl × Env × Sto)} {t : T} : ∀ {xs : List D} {env : Env} {S : Sto} {r : Fl × Env × Sto}, forLoop body t w xs env S = some r → w.ok S = true
  | [], _, S, r, h => by
    unfold forLoop at h
    split at h <;> first | assumption | cases h
  | x :: xs, _, S, r, h => by
    unfold forLoop at h
    split at h <;> first | assumption | cases h
theorem ss_for {tg it : Expr} {body : List Stmt} {t : T} {ie : E} {ib : List C} {pos : Pos} (O : Ok X tb N Gd g F k) (hp : PassesOwn (model X.prog X.w) X.A X.env X.xe) (hf : ∀ x, foldedSetIterable it X.env x = pure x)
    (hi : PI X tg it (tW X.K Gd g F ie)) (hg : PG X tg (gT X.K Gd t)) (hb : PSs X body (tSs X.K Gd g F fuel ib)) : PS X (.For tg it body [] pos) (tS X.K Gd g F fuel (.for_ t ie ib)) := by
  refine PS.imp (ps_for hp O.calm hi hg hb hf) fun D σ H q => ?_
  obtain ⟨ι, S, env, r, R, en, ev, q⟩ := q
  simp only [evC] at ev
  split at ev <;> try cases ev
  rename_i w S1 e1
  refine ⟨ι, S, env, w, S1, R, en, e1, fun J H1 ι1 R1 wk x1 => ?_⟩
  have en1 := en.keep (x1.keeps R)
  refine ⟨fun i m σi Hi => m = w.items.length - i ∧ i ≤ w.items.length ∧ ∃ ιi Si envi, Rel X.K Gd Hi ιi Si ∧ REnv X.K Gd Hi ιi σi envi ∧ Ext H1 ι1 Hi ιi ∧
    forLoop (evCs g F fuel ib) t w (w.items.drop i) envi Si = some r, ⟨w.items.length, by simp, Nat.zero_le _, ι1, S1, env, R1, en1, Ext.refl, by simpa using ev⟩, ?_⟩
  rintro i m σi Hi ⟨rfl, hil, ιi, Si, envi, Ri, eni, xi, el⟩
  have kpi : Kp X.K H1 ι1 Hi ιi := xi.keeps R1
  have wki := wk i Hi ιi Si Ri kpi (forLoop_ok el)
  by_cases hlt : i < w.items.length
  · have hd : w.items.drop i = w.items[i] :: w.items.drop (i + 1) := List.drop_eq_getElem_cons hlt
    rw [hd] at el
    unfold forLoop at el
    rw [if_pos (by split at el <;> first | assumption | cases el)] at el
    obtain ⟨hgo, hy⟩ := wki.1 w.items[i] (by simp [hlt])
    refine .inr ⟨hgo, fun σ' H' => ∃ ι' S' env', Rel X.K Gd H' ι' S' ∧ REnv X.K Gd H' ι' σ' env' ∧ Ext H1 ι1 H' ι' ∧ forLoop (evCs g F fuel ib) t w (w.items.drop (i + 1)) env' S' = some r,
      fun σ' H' ⟨ι', S', env', h1, h2, h3, h4⟩ => ⟨w.items.length - (i + 1), by omega, rfl, hlt, ι', S', env', h1, h2, h3, h4⟩, fun v H' y => ?_⟩
    obtain ⟨rfl, rv⟩ := hy v H' y
    split at el <;> try cases el
    rename_i env2 ea
    refine ⟨ιi, Si, w.items[i], envi, env2, Ri, rv, eni, ea, fun σ2 en2 _ => ?_⟩
    split at el
    · rename_i env3 S3 eb
      exact ⟨ιi, Si, env2, _, Ri, en2, eb, fun σ' H' ι' R' en' x' => ⟨ι', S3, env3, R', en', xi.trans x', el⟩⟩
    · rename_i env3 S3 eb
      exact ⟨ιi, Si, env2, _, Ri, en2, eb, fun σ' H' ι' R' en' x' => ⟨ι', S3, env3, R', en', xi.trans x', el⟩⟩
    · rename_i env3 S3 eb
      cases el
      exact ⟨ιi, Si, env2, _, Ri, en2, eb, fun σ' H' ι' R' en' x' => q σ' H' ι' R' en' ((x1.trans xi).trans x')⟩
    · rename_i d env3 S3 eb
      cases el
      exact ⟨ιi, Si, env2, _, Ri, en2, eb, fun v' H' ι' R' r' x' => q v' H' ι' R' r' ((x1.trans xi).trans x')⟩
    · cases el
  · have e : i = w.items.length := by omega
    subst e
    simp only [List.drop_length] at el
    unfold forLoop at el
    split at el <;> cases el
    exact .inl ⟨wki.2 (Nat.le_refl _), q σi Hi ιi Ri eni (x1.trans xi)⟩
theorem ss_while {c : Expr} {body : List Stmt} {ic : E} {ib : List C} {pos : Pos} (hp : PassesOwn (model X.prog X.w) X.A X.env X.xe) (hc : PT X c (tT X.K Gd g F ic)) (hb : PSs X body (tSs X.K Gd g F fuel ib)) :
    PS X (.While c body [] pos) (tS X.K Gd g F fuel (.while_ ic ib)) := by
  refine PS.imp (ps_while hp hc hb) fun D σ H q => ?_
  obtain ⟨ι, S, env, r, R, en, ev, q⟩ := q
  simp only [evC] at ev
  refine ⟨fun m σi Hi => ∃ ιi Si envi, Rel X.K Gd Hi ιi Si ∧ REnv X.K Gd Hi ιi σi envi ∧ Ext H ι Hi ιi ∧ whileLoop (evT g F ic) (evCs g F fuel ib) m envi Si = some r, ⟨fuel, ι, S, env, R, en, Ext.refl, ev⟩, ?_⟩
  rintro m σi Hi ⟨ιi, Si, envi, Ri, eni, xi, el⟩
  cases m with
  | zero => simp [whileLoop] at el
  | succ m =>
    simp only [whileLoop] at el
    split at el
    · rename_i S1 e1
      refine ⟨ιi, Si, envi, true, S1, Ri, eni, e1, fun H1 ι1 R1 x1 => iteT ?_⟩
      have en1 := eni.keep (x1.keeps Ri)
      have xx := xi.trans x1
      refine ⟨fun σ' H' => ∃ ι' S' env', Rel X.K Gd H' ι' S' ∧ REnv X.K Gd H' ι' σ' env' ∧ Ext H ι H' ι' ∧ whileLoop (evT g F ic) (evCs g F fuel ib) m env' S' = some r,
        fun σ' H' ⟨ι', S', env', h1, h2, h3, h4⟩ => ⟨m, Nat.lt_succ_self m, ι', S', env', h1, h2, h3, h4⟩, ?_⟩
      split at el
      · rename_i env3 S3 eb
        exact ⟨ι1, S1, envi, _, R1, en1, eb, fun σ' H' ι' R' en' x' => ⟨ι', S3, env3, R', en', xx.trans x', el⟩⟩
      · rename_i env3 S3 eb
        exact ⟨ι1, S1, envi, _, R1, en1, eb, fun σ' H' ι' R' en' x' => ⟨ι', S3, env3, R', en', xx.trans x', el⟩⟩
      · rename_i env3 S3 eb
        cases el
        exact ⟨ι1, S1, envi, _, R1, en1, eb, fun σ' H' ι' R' en' x' => q σ' H' ι' R' en' (xx.trans x')⟩
      · rename_i d env3 S3 eb
        cases el
        exact ⟨ι1, S1, envi, _, R1, en1, eb, fun v' H' ι' R' r' x' => q v' H' ι' R' r' (xx.trans x')⟩
      · cases el
    · rename_i S1 e1
      cases el
      exact ⟨ιi, Si, envi, false, _, Ri, eni, e1, fun H1 ι1 R1 x1 => iteF (q σi H1 ι1 R1 (eni.keep (x1.keeps Ri)) (xi.trans x1))⟩
    · cases el

/-- name = [..]: the comprehension stores itself -/
theorem ss_setLc {y : Str} {py : Pos} {elt tg it : Expr} {ifs : List Expr} {scope : Scope} {pos spos : Pos} {i : Nat} {ie : E} {sc : Scope} {n : Nat} (O : Ok X tb N Gd g F k) (hs : X.env.scope = sc) (hy : sc.names.lookup y = some .local) (hl : (py.line == pos.line) = true)
    (ha : (scope.names.any fun y' => y'.1 == y && (y'.2 == .local || y'.2 == .cell)) = false) (hi : ixOf y N 0 = some i) (hk : X.env.scope.kind = .function) (h : cE tb N n sc (.ListComp elt [⟨tg, it, ifs, 0⟩] scope pos) = some ie) :
    PS X (.Assign [.Name y py] (.ListComp elt [⟨tg, it, ifs, 0⟩] scope pos) spos) (tS X.K Gd g F fuel (.asg (.nm i) ie)) := by
  cases n with
  | zero => simp [cE] at h
  | succ n =>
    unfold cE at h
    simp only at h
    split at h <;> try cases h
    rename_i hb
    split at h <;> try cases h
    rename_i x t ir js e1 e2 e3 e4
    split at h <;> cases h
    rename_i hc
    simp only [Bool.and_eq_true, decide_eq_true_eq, List.all_eq_true] at hc
    have hbk : BlkOk X.N X.env.scope scope (ownOf N scope.names) := by
      rw [O.names, hs]
      exact blkOk_by hb
    have hifs : ∃ tt : TT, (∀ (s : Shared) (H : Hp) (C : Addr) (cl : List (Str × Addr)) (fp : List Addr), PTs (X.blk s H scope (compEnvC scope cl C X.env) fp) ifs tt) ∧
        ∀ σ H Q, (∃ ι S env b S', Rel X.K Gd H ι S ∧ REnv X.K Gd H ι σ env ∧ evIfs g F js env S = some (b, S') ∧ ∀ H' ι', Rel X.K Gd H' ι' S' → Ext H ι H' ι' → Q b H') → tt σ H Q := by
      have hl := (allO_some e4).1
      match ifs, js, hl, e4, hc with
      | [], [], _, _, _ =>
        refine ⟨tYes, fun s H C cl fp => pts_nil, fun σ H Q ⟨ι, S, env, b, S', R, en, ev, q⟩ => ?_⟩
        simp only [evIfs, Option.some.injEq, Prod.mk.injEq] at ev
        obtain ⟨rfl, rfl⟩ := ev
        exact q H ι R Ext.refl
      | [c], [jc], _, e4, _ =>
        obtain ⟨z, zs, a1, a2, a3⟩ := allO_cons e4
        cases a3
        refine ⟨tT X.K Gd g F jc, fun s H C cl fp => pts_one (soundE n (X := X.blk s H scope (compEnvC scope cl C X.env) fp) O.blk (by show L2.relS scope X.env.scope = _; rw [hs]) a1).tst, fun σ H Q ⟨ι, S, env, b, S', R, en, ev, q⟩ => ?_⟩
        exact ⟨ι, S, env, b, S', R, en, by simpa [evIfs] using ev, q⟩
      | _ :: _ :: _, _ :: _ :: _, _, _, hc => simp at hc
    obtain ⟨tt, h1, h2⟩ := hifs
    have hw := lc_imp (X := X) (Gd := Gd) (g := g) (F := F) (elt := x) (it := ir) (fun i hi => hc.2 i hi) h2
    refine PS.imp (ps_setLc (i := i) (own := ownOf N scope.names) O.calm O.nd (by rw [O.names]; exact ixOf_at hi) (by rw [hs]; exact hy) (sw_true hk (by rw [hs]; exact hy) hl ha) ((soundE n O hs e3).wlk tg) hbk
      (fun s H C cl fp => show PG _ tg (gT X.K Gd t) from soundT n (X := X.blk s H scope (compEnvC scope cl C X.env) fp) O.blk tgt_blk e2) h1
      (fun s H C cl fp => show PE _ elt (tE X.K Gd g F x) from (soundE n (X := X.blk s H scope (compEnvC scope cl C X.env) fp) O.blk (by show L2.relS scope X.env.scope = _; rw [hs]) e1).val) (fold_ok e3)) fun D σ H q => ?_
    obtain ⟨ι, S, env, r, R, en, ev, q⟩ := q
    simp only [evC] at ev
    split at ev <;> try cases ev
    rename_i d S1 e5
    exact hw σ H _ ⟨ι, S, env, (d, S1), R, en, e5, fun v H1 ι1 R1 r1 x1 => q _ H1 ι1 R1 ((en.keep (x1.keeps R)).set r1) x1⟩

theorem soundS : ∀ (n : Nat) {X : Cx} {sc : Scope} {st : Stmt} {c : C}, Ok X tb N Gd g F k → X.env.scope = sc → Tgt X sc → X.env.scope.kind = .function → PassesOwn (model X.prog X.w) X.A X.env X.xe → cS tb N n sc st = some c → PS X st (tS X.K Gd g F fuel c)
  | 0, _, _, _, _, _, _, _, _, _, h => by simp [cS] at h
  | n + 1, X, sc, st, c, O, hs, hT, hk, hp, h => by
    have ihs : ∀ (ss : List Stmt) (cs : List C), allO (ss.map (cS tb N n sc)) = some cs → PSs X ss (tSs X.K Gd g F fuel cs) := fun ss => by
      induction ss with
      | nil => intro cs h; have := allO_nil h; subst this; exact ss_nil
      | cons s ss ih =>
        intro cs h
        obtain ⟨z, zs, e1, e2, rfl⟩ := allO_cons h
        exact ss_cons (soundS n O hs hT hk hp e1) (ih zs e2)
    unfold cS at h
    split at h
    · -- an expression
      split at h <;> try cases h
      rename_i hn
      simp only [Option.map_eq_some_iff] at h
      obtain ⟨ie, e1, rfl⟩ := h
      exact ss_exp hn (soundE n O hs e1).val
    · cases h
    · -- name = [..]
      rename_i x p elt tg it ifs scope pos spos
      split at h <;> try cases h
      rename_i hc
      simp only [Bool.and_eq_true, decide_eq_true_eq, Bool.not_eq_true'] at hc
      split at h <;> cases h
      rename_i i ie e1 e2
      exact ss_setLc O hs hc.1.1 hc.1.2 hc.2 e1 hk e2
    · -- name = e
      split at h <;> try cases h
      rename_i hn
      split at h <;> cases h
      rename_i e1 e2
      refine ss_asg hn ?_ rfl (soundE n O hs e2).val (soundT n O hT e1)
      rename_i e _ _ _ _ _
      cases e <;> rfl
    · -- a, b = e
      rename_i ts kk p e pos hne
      split at h <;> try cases h
      rename_i hn
      split at h <;> cases h
      rename_i e1 e2
      refine ss_asg hn ?_ rfl (soundE n O hs e2).val (soundT n O hT e1)
      cases e <;> first | rfl | exact absurd rfl (hne _ _ _)
    · split at h <;> try cases h
      rename_i hn
      simp only [Bool.and_eq_true] at hn
      split at h <;> cases h
      rename_i e1 e2 e3
      exact ss_sto O hn.1 hn.2 (soundE n O hs e1).val (soundE n O hs e2).val (soundE n O hs e3).val
    · simp only [Option.map_eq_some_iff] at h
      obtain ⟨ie, e1, rfl⟩ := h
      exact ss_ret (soundE n O hs e1).val
    · cases h
      exact ss_retN
    · split at h <;> cases h
      rename_i e1 e2 e3
      exact ss_ife (soundE n O hs e1).tst (ihs _ _ e2) (ihs _ _ e3)
    · split at h <;> cases h
      rename_i e1 e2 e3
      exact ss_for O hp (fold_ok e2) ((soundE n O hs e2).wlk _) (soundT n O hT e1) (ihs _ _ e3)
    · split at h <;> cases h
      rename_i e1 e2
      exact ss_while hp (soundE n O hs e1).tst (ihs _ _ e2)
    · cases h; exact ss_pass
    · cases h; exact ss_brk
    · cases h; exact ss_cnt
    · cases h
end
end CV

set_option Elab.async false
set_option linter.all false
set_option maxRecDepth 100000
set_option maxHeartbeats 8000000
/-! CvL: defs, modules. -/
namespace CV
open PySem PySem.Spec PyProof.Rows L2

section
variable {K : PySem.W.Frag} {Gd : Str → Addr → Prop} {H : Hp} {ι : Loc}
theorem REnv.start {N : List Str} {ds : List D} {vs : List V} (r : RDs K Gd H ι ds vs) : REnv K Gd H ι (L2.start N vs) (ds.map some ++ List.replicate (N.length - ds.length) none) := by
  have hl := r.length
  refine ⟨by simp [L2.start, hl], fun i d h => ?_⟩
  by_cases c : i < ds.length
  · rw [List.getElem?_append_left (by simpa using c), List.getElem?_map] at h
    cases e : ds[i]? with
    | none => rw [e] at h; cases h
    | some d1 =>
      rw [e] at h
      cases h
      obtain ⟨v, hv, rv⟩ := r.get e
      refine ⟨v, ?_, rv⟩
      unfold L2.start
      rw [List.getElem?_append_left (by simp; omega), List.getElem?_map, hv]
      rfl
  · rw [List.getElem?_append_right (by simpa using Nat.le_of_not_lt c)] at h
    simp [List.getElem?_replicate] at h
end

/-- a def of the module, compiled -/
structure DefAt (K : PySem.W.Frag) (mg : Str → Option Value) (tb : Tb) (f : Fn) : Prop where
  ex : ∃ (st : Stmt) (fa : Addr) (fd : FuncData), FunD K f.nm f.nm (L2.defArgs st) (L2.defBody st) (L2.defScope st) [] [] fa fd ∧ mg f.nm = some (.ref fa) ∧ FnScope f.N f.ps (L2.defScope st) ∧ Binds K fd f.ps [] ∧ cF tb f.nm f.ps f.N st = some f
/-- the module -/
structure Mod (w : World) (K : PySem.W.Frag) (mg : Str → Option Value) (Gd : Str → Addr → Prop) (tb : Tb) (g : Cst) (fs : List Fn) : Prop where
  G : GdOk K w Gd g
  cst : ∀ x d, tb.cst.lookup x = some d → ∃ u v, mg x = some u ∧ RelV v u ∧ ∀ H ι, RD K Gd H ι d v
  gds : ∀ x ∈ tb.gds, ∃ a, mg x = some (.ref a) ∧ Gd x a
  blt : ∀ x ∈ bltNames, mg x = none
  dfs : ∀ f ∈ fs, DefAt K mg tb f
  fnd : ∀ f ∈ fs, fs.find? (fun h => decide (h.nm = f.nm)) = some f
  fns : ∀ x ∈ tb.fns, ∃ f ∈ fs, f.nm = x

theorem callN_len {g : Cst} {fs : List Fn} {fuel k : Nat} {x : Str} {f : Fn} {ds : List D} {S : Sto} {r : D × Sto} (hf : fs.find? (fun h => decide (h.nm = x)) = some f) (h : callN g fs fuel k x ds S = some r) : ds.length = f.ps.length := by
  cases k with
  | zero => simp [callN] at h
  | succ k =>
    unfold callN at h
    rw [hf] at h
    simp only [callFn] at h
    split at h
    · assumption
    · cases h

section
variable {P : Program} {w : World} {K : PySem.W.Frag} {mg : Str → Option Value} {base : Heap} {Gd : Str → Addr → Prop} {tb : Tb} {g : Cst} {fs : List Fn} {fuel : Nat}
theorem soundCs {X : Cx} {tb : Tb} {N : List Str} {F : FT} {k n : Nat} {sc : Scope} (O : Ok X tb N Gd g F k) (hs : X.env.scope = sc) (hT : Tgt X sc) (hk : X.env.scope.kind = .function) (hp : PassesOwn (model X.prog X.w) X.A X.env X.xe) :
    ∀ {ss : List Stmt} {cs : List C}, allO (ss.map (cS tb N n sc)) = some cs → PSs X ss (tSs X.K Gd g F fuel cs) := by
  intro ss
  induction ss with
  | nil => intro cs h; have := allO_nil h; subst this; exact ss_nil
  | cons s ss ih =>
    intro cs h
    obtain ⟨z, zs, e1, e2, rfl⟩ := allO_cons h
    exact ss_cons (soundS n O hs hT hk hp e1) (ih e2)

theorem fun_at {K : PySem.W.Frag} {x qual : Str} {params : Arguments} {body : List Stmt} {scope : Scope} {dvs : List V} {kws : List (Str × V)} {f : Addr} {fd : FuncData} (F : FunD K x qual params body scope dvs kws f fd) : ∃ oc od osl, K.lookup f = some ⟨oc, od, .func fd, osl⟩ := by
  obtain ⟨oc, od, dV, kV, doc, pm, an, cdv, ct, osl, rfl, lk, _⟩ := F.ex
  exact ⟨oc, od, osl, lk⟩
theorem Mod.ok (M : Mod w K mg Gd tb g fs) : ∀ (k : Nat) (f : Fn), f ∈ fs → ∃ (fa : Addr) (fd : FuncData), CVN.FnG P w K mg base CX0 k fa fd f.ps (spF K Gd (callN g fs fuel k) f.nm f.ps.length) ∧ mg f.nm = some (.ref fa) ∧ PySem.W.keepIn K (.ref fa) = true ∧ Binds K fd f.ps [] ∧ ∃ oc od osl, K.lookup fa = some ⟨oc, od, .func fd, osl⟩
  | 0, f, hf => by
    obtain ⟨st, fa, fd, hF, hm, hS, hB, hc⟩ := (M.dfs f hf).ex
    refine ⟨fa, fd, ⟨fun vs H Q E h => ?_, fun A _ outer s H args us vs Q E _ _ _ _ h => ?_⟩, hm, hF.kp, hB, fun_at hF⟩
    · obtain ⟨ι, S, ds, r, _, _, _, e, _⟩ := h
      simp [callN] at e
    · obtain ⟨ι, S, ds, r, _, _, _, e, _⟩ := h
      simp [callN] at e
  | k + 1, f, hf => by
    obtain ⟨st, fa, fd, hF, hm, hS, hB, hc⟩ := (M.dfs f hf).ex
    refine ⟨fa, fd, ?_, hm, hF.kp, hB, fun_at hF⟩
    refine CVN.fnG_of hF hS (fun vs H Q E h => ?_) (fun cdv A outer s H vs Q E hgu hr h => ?_)
    · obtain ⟨ι, S, ds, r, _, hr, hl, _, _⟩ := h
      rw [← hr.length, hl]
    · simp only [cF, Option.map_eq_some_iff] at hc
      obtain ⟨b, hb, eb⟩ := hc
      have eb' : f.body = b := by rw [← eb]
      subst eb'
      have O : Ok (cxOf CX0 P w K mg base f.N f.nm (L2.defScope st) fa cdv A outer s H E).nox tb f.N Gd g (callN g fs fuel k) k :=
        { names := rfl, nd := hS.nd, calm := rfl, room := hr, gu := CVN.guards_deeper hgu, G := M.G, cst := M.cst, gds := M.gds, blt := M.blt
          fns := fun x hx => by
            obtain ⟨f', hf', rfl⟩ := M.fns x hx
            obtain ⟨fa', fd', h1, h2, h3, h4, _⟩ := Mod.ok M k f' hf'
            exact ⟨fa', fd', f'.ps, h1, h2, h3, h4, fun ds S r e => callN_len (M.fnd f' hf') e⟩ }
      have hT : Tgt (cxOf CX0 P w K mg base f.N f.nm (L2.defScope st) fa cdv A outer s H E).nox (L2.defScope st) := fun x hx => by
        unfold owned at hx
        refine ⟨?_, .inl rfl⟩
        show (L2.defScope st).names.lookup x = some .local ∨ (L2.defScope st).names.lookup x = some .cell
        split at hx
        · exact .inl ‹_›
        · exact .inr ‹_›
        · cases hx
      refine ⟨_, PSs.nox (soundCs (fuel := fuel) O rfl hT hS.kind PassesOwn.never hb), ?_⟩
      obtain ⟨ι, S, ds, r, R, hr, hl, ev, hQ⟩ := h
      unfold callN at ev
      rw [M.fnd f hf] at ev
      simp only [callFn] at ev
      rw [if_pos hl] at ev
      split at ev <;> cases ev
      · rename_i d env S1 ev
        refine ⟨ι, S, _, _, R, REnv.start hr, ev, fun v H' ι' R' r' x' => ?_⟩
        exact (Post.gc (r := (d, S1)) R hQ) v H' ι' R' r' x'
      · rename_i env S1 ev
        refine ⟨ι, S, _, _, R, REnv.start hr, ev, fun σ' H' ι' R' en' x' => ?_⟩
        exact (Post.gc (r := (.non, S1)) R hQ) .non H' ι' R' .non x'
end
end CV

set_option Elab.async false
set_option linter.all false
set_option maxRecDepth 100000
set_option maxHeartbeats 8000000
/-! CvM: the module behind its top, the law's end. -/
namespace CV
open PySem PySem.Spec PyProof.Rows L2

/-! ### constants -/
def dvOf : D → He.Dv
  | .bl b => .bl b
  | .int i => .int i
  | .str s => .str s
  | _ => .non
def scOk : D → Bool
  | .non => true
  | .bl _ => true
  | .int _ => true
  | .str s => strGood s
  | _ => false
theorem rd_dv {K : PySem.W.Frag} {Gd : Str → Addr → Prop} {H : Hp} {ι : Loc} {d : D} (h : scOk d = true) : RD K Gd H ι d ((dvOf d).v K) := by
  cases d with
  | non => exact .non
  | bl b => exact .bl b
  | int i => exact .int i
  | str s => exact .str h
  | _ => cases h
theorem rds_dv {K : PySem.W.Frag} {Gd : Str → Addr → Prop} {H : Hp} {ι : Loc} : ∀ {ds : List D}, ds.all scOk = true → RDs K Gd H ι ds (ds.map fun d => (dvOf d).v K)
  | [], _ => .nil
  | d :: ds, h => by
    simp only [List.all_cons, Bool.and_eq_true] at h
    exact .cons (rd_dv h.1) (rds_dv h.2)
def cstB (K : PySem.W.Frag) (q : Str × D) : Bool := match q.2 with
  | .tup ds => ds.all scOk && (He.Fa.ok K (.glo q.1) && He.tupB K q.1 (ds.map dvOf))
  | d => scOk d && (match PySem.W.nsIn K mainGlobals q.1 with
    | some (some u) => He.relB ((dvOf d).v K) u
    | _ => false)
theorem cst_ok {K : PySem.W.Frag} {Gd : Str → Addr → Prop} {h : Heap} {mg : Str → Option Value} (X : K.In h) (G : h.Ns mainGlobals mg) {q : Str × D} (c : cstB K q = true) : ∃ u v, mg q.1 = some u ∧ RelV v u ∧ ∀ H ι, RD K Gd H ι q.2 v := by
  obtain ⟨x, d⟩ := q
  have sc : ∀ d : D, (scOk d && (match PySem.W.nsIn K mainGlobals x with
      | some (some u) => He.relB ((dvOf d).v K) u
      | _ => false)) = true → ∃ u v, mg x = some u ∧ RelV v u ∧ ∀ H ι, RD K Gd H ι d v := fun d c => by
    obtain ⟨c1, c2⟩ := He.ba c
    cases e : PySem.W.nsIn K mainGlobals x with
    | none => rw [e] at c2; cases c2
    | some r =>
      rw [e] at c2
      cases r with
      | none => cases c2
      | some u => exact ⟨u, _, PySem.W.mg_of X G e, He.relB_ok c2, fun H ι => rd_dv c1⟩
  cases d with
  | tup ds =>
    obtain ⟨c1, c2⟩ := He.ba (show (ds.all scOk && (He.Fa.ok K (.glo x) && He.tupB K x (ds.map dvOf))) = true from c)
    obtain ⟨c3, c4⟩ := He.ba c2
    refine ⟨_, .ref (He.ga K x), He.glo_ok X G c3, rfl, fun H ι => ?_⟩
    have h1 := He.tupB_ok c4 H
    rw [List.map_map] at h1
    exact .tup h1 (rds_dv c1)
  | non => exact sc _ c
  | bl b => exact sc _ c
  | int i => exact sc _ c
  | str s => exact sc _ c
  | loc k n => cases c
  | scr ns => cases c
  | gd y => cases c

/-! ### constant dicts -/
def GdD (K : PySem.W.Frag) (xs : List Str) (x : Str) (a : Addr) : Prop := x ∈ xs ∧ a = He.ga K x
def keyS (kvs : List (L2.Key × D)) : List Str := kvs.map fun kv => match kv.1 with
  | .inr z => z
  | .inl _ => Str.empty
def kvD (kvs : List (L2.Key × D)) : List (Str × He.Dv) := kvs.map fun kv => (match kv.1 with
  | .inr z => z
  | .inl _ => Str.empty, dvOf kv.2)
def gdB (K : PySem.W.Frag) (q : Str × List (L2.Key × D)) : Bool := He.Fa.ok K (.glo q.1) && ((q.2.all fun kv => scOk kv.2 && (match kv.1 with
  | .inr _ => true
  | .inl _ => false)) && He.valsB K (He.ga K q.1) (kvD q.2))
theorem find_none {P : Params} {z : Str} : ∀ {es : List DictEntry} {ks : List Str}, es.map He.keyOf = He.keysIn P ks → z ∉ ks → es.find? (·.key.isStr z) = none ∧ es.any (·.refKey) = false
  | [], _, _, _ => ⟨rfl, rfl⟩
  | e :: es, [], h, _ => by cases h
  | e :: es, k :: ks, h, hz => by
    have h1 : He.keyOf e :: es.map He.keyOf = some (k, PyData.keyHash P k) :: He.keysIn P ks := h
    injection h1 with h2 h3
    obtain ⟨i1, i2⟩ := find_none h3 (fun q => hz (List.mem_cons_of_mem _ q))
    unfold He.keyOf at h2
    split at h2
    · rename_i x t q
      have h4 := Option.some.inj h2
      obtain ⟨h5, h6⟩ := Prod.mk.inj h4
      have hx : x ≠ z := fun e => hz (by rw [← e, h5]; exact List.mem_cons_self)
      refine ⟨?_, ?_⟩
      · rw [List.find?_cons]
        have : e.key.isStr z = false := by
          rw [q]
          show (decide (x = z)) = false
          exact decide_eq_false hx
        rw [this]
        exact i1
      · rw [List.any_cons, i2]
        have : e.refKey = false := by
          unfold DictEntry.refKey
          rw [q]
        rw [this]
        rfl
    · cases h2
theorem dic_miss {K : PySem.W.Frag} {P : Params} {a : Addr} {ks : List Str} {z : Str} (h : He.dicW K a = some (He.keysIn P ks)) (hz : z ∉ ks) : PySem.W.nsIn K a z = some none := by
  unfold He.dicW at h
  cases q : K.lookup a with
  | none => rw [q] at h; cases h
  | some o =>
    obtain ⟨oc, od, dt, osl⟩ := o
    rw [q] at h
    cases oc with
    | type c =>
      cases od with
      | none =>
        cases dt with
        | dict es n =>
          have h1 : (match decide (c = "dict") && (osl.isEmpty && !(a == sysModules)) with
            | true => some (es.toList.map He.keyOf)
            | false => none) = some (He.keysIn P ks) := h
          cases z2 : decide (c = "dict") && (osl.isEmpty && !(a == sysModules)) with
          | false => rw [z2] at h1; cases h1
          | true =>
            rw [z2] at h1
            obtain ⟨f1, f2⟩ := find_none (Option.some.inj h1) hz
            unfold PySem.W.nsIn
            rw [q]
            simp only [f1, f2]
            rfl
        | _ => cases h
      | some b => cases dt <;> cases h
    | _ => cases od <;> cases dt <;> cases h
theorem valD_mem {kvs : List (L2.Key × D)} {k : L2.Key} {d : D} (h : valD kvs k = some d) : (k, d) ∈ kvs := by
  unfold valD at h
  obtain ⟨p, h1, h2⟩ := Option.map_eq_some_iff.mp h
  have h3 := List.find?_some h1
  have h4 := List.mem_of_find?_eq_some h1
  obtain ⟨l, e⟩ := p
  have : l = k := of_decide_eq_true h3
  subst this
  cases h2
  exact h4
theorem valD_none {kvs : List (L2.Key × D)} {z : Str} (h : valD kvs (.inr z) = none) (hk : ∀ kv ∈ kvs, ∃ y, kv.1 = .inr y) : z ∉ keyS kvs := by
  intro hz
  unfold keyS at hz
  obtain ⟨kv, h1, h2⟩ := List.mem_map.mp hz
  obtain ⟨y, hy⟩ := hk kv h1
  rw [hy] at h2
  have h2' : y = z := h2
  subst h2'
  unfold valD at h
  rw [Option.map_eq_none_iff, List.find?_eq_none] at h
  exact h kv h1 (decide_eq_true hy)
theorem gd_ok {K : PySem.W.Frag} {w : World} {fa : List He.Fa} {fn : List He.DefD} {g : Cst} {ts : List He.Tab} (c : He.SaysT fa fn ts w K) (hts : ts = g.gds.map fun q => ((fun K => He.ga K q.1), keyS q.2)) (hB : g.gds.all (gdB K) = true) (hN : (g.gds.map (·.1)).Nodup) :
    GdOk K w (GdD K (g.gds.map (·.1))) g := by
  refine ⟨fun x a ⟨hx, ha⟩ => ?_⟩
  subst ha
  obtain ⟨q, hq, rfl⟩ := List.mem_map.mp hx
  obtain ⟨i, hi, hiq⟩ := List.mem_iff_getElem.mp hq
  have ht : ts[i]? = some ((fun K => He.ga K q.1), keyS q.2) := by
    rw [hts, List.getElem?_map, List.getElem?_eq_getElem hi, hiq]
    rfl
  obtain ⟨es, n, hk⟩ := c.tab i ht
  have hd : He.dicW K (He.ga K q.1) = some (He.keysIn w.params (keyS q.2)) := by
    have e : ts.map (fun t => He.dicW K (t.1 K)) = ts.map fun t => some (He.keysIn w.params t.2) := congrArg (fun z : He.AlT => z.2) c
    have e2 : (ts.map fun t => He.dicW K (t.1 K))[i]? = (ts.map fun t => some (He.keysIn w.params t.2))[i]? := by rw [e]
    rw [List.getElem?_map, List.getElem?_map, ht] at e2
    exact Option.some.inj e2
  have hb := List.all_eq_true.mp hB q hq
  obtain ⟨b1, b2⟩ := He.ba hb
  obtain ⟨b3, b4⟩ := He.ba b2
  refine ⟨es, n, hk, fun kvs hl z => ?_⟩
  have hkv : kvs = q.2 := by
    have aux : ∀ {l : List (Str × List (L2.Key × D))}, (l.map (·.1)).Nodup → q ∈ l → l.lookup q.1 = some q.2 := fun {l} => by
      induction l with
      | nil => intro _ h; cases h
      | cons p l ih =>
        intro hn hm
        rw [List.map_cons, List.nodup_cons] at hn
        rcases List.mem_cons.mp hm with e | e
        · subst e
          simp [List.lookup]
        · have : ¬ q.1 = p.1 := fun z => hn.1 (by rw [← z]; exact List.mem_map.mpr ⟨q, e, rfl⟩)
          have h2 : (q.1 == p.1) = false := by simp [this]
          simp only [List.lookup, h2]
          exact ih hn.2 e
    have := aux hN hq
    rw [this] at hl
    exact (Option.some.inj hl).symm
  subst hkv
  have hks : ∀ kv ∈ q.2, scOk kv.2 = true ∧ ∃ y, kv.1 = .inr y := fun kv hm => by
    have := List.all_eq_true.mp b3 kv hm
    obtain ⟨a1, a2⟩ := He.ba this
    refine ⟨a1, ?_⟩
    cases e : kv.1 with
    | inl i => rw [e] at a2; cases a2
    | inr y => exact ⟨y, rfl⟩
  cases e : valD q.2 (.inr z) with
  | none => exact ⟨none, dic_miss hd (valD_none e fun kv hm => (hks kv hm).2), .inl ⟨rfl, rfl⟩⟩
  | some d =>
    have hm := valD_mem e
    have hm2 : (z, dvOf d) ∈ kvD q.2 := List.mem_map.mpr ⟨(.inr z, d), hm, rfl⟩
    obtain ⟨u, h1, h2⟩ := He.valsB_ok b4 hm2
    exact ⟨some u, h1, .inr ⟨d, _, u, rfl, rfl, h2, fun H ι => rd_dv (hks _ hm).1⟩⟩

/-! ### defs -/
def scopeB (N ps : List Str) (sc : Scope) : Bool :=
  decide (sc.kind = .function) && (!sc.isCoroutine && (!sc.isGenerator && (decide N.Nodup && (decide (N.take ps.length = ps) && ((ps.all fun x => decide (sc.names.lookup x = some .local) || decide (sc.names.lookup x = some .cell)) && sc.names.all fun y => !decide (y.2 = .free))))))
theorem scope_ok {N ps : List Str} {sc : Scope} (h : scopeB N ps sc = true) : FnScope N ps sc := by
  unfold scopeB at h
  simp only [Bool.and_eq_true, decide_eq_true_eq, Bool.not_eq_true', Bool.or_eq_true, List.all_eq_true, decide_eq_false_iff_not] at h
  obtain ⟨h1, h2, h3, h4, h5, h6, h7⟩ := h
  exact ⟨h1, h2, h3, h4, h5, h6, h7⟩
/-- a def as it stands in the text -/
structure Dd where
  st : Stmt
  f : Fn
def Dd.d (x : Dd) : He.DefD := ⟨(x.f.nm, none), x.f.nm, x.f.nm, L2.defArgs x.st, L2.defBody x.st, L2.defScope x.st, [], []⟩
def Dd.bnd (x : Dd) : Prop := ∀ (kV doc pm : Value) (an : Option Addr) (cdv ct : Value) (us : List Value), us.length = x.f.ps.length →
  bindArgs (PySem.W.fnOf x.f.nm x.f.nm (L2.defArgs x.st) (L2.defBody x.st) (L2.defScope x.st) .none kV doc pm an cdv ct) ⟨us, []⟩ = pure (x.f.ps.zip us)
structure Dd.Ok (tb : Tb) (x : Dd) : Prop where
  c : cF tb x.f.nm x.f.ps x.f.N x.st = some x.f
  sc : scopeB x.f.N x.f.ps (L2.defScope x.st) = true
  b : x.bnd
def fas (dds : List Dd) : List He.Fa := (dds.map fun d => He.Fa.glo d.f.nm) ++ bltNames.map He.Fa.free
def tabs (g : Cst) : List He.Tab := g.gds.map fun q => ((fun K => He.ga K q.1), keyS q.2)
def modB (tb : Tb) (g : Cst) (K : PySem.W.Frag) : Bool := tb.cst.all (cstB K) && g.gds.all (gdB K)
def staB (tb : Tb) (g : Cst) (fs : List Fn) : Bool := decide ((g.gds.map (·.1)).Nodup) && (decide (tb.gds = g.gds.map (·.1)) && ((fs.all fun f => match fs.find? (fun h => decide (h.nm = f.nm)) with
  | some f' => decide (f'.body.length = f.body.length) | none => false) && true))
theorem lookup_mem {x : Str} {d : D} : ∀ {l : List (Str × D)}, l.lookup x = some d → (x, d) ∈ l
  | [], h => by cases h
  | (y, e) :: r, h => by
    have h2 : (match x == y with | true => some e | false => r.lookup x) = some d := h
    cases q : (x == y) with
    | true =>
      rw [q] at h2
      have : x = y := beq_iff_eq.mp q
      subst this
      cases h2
      exact List.mem_cons_self
    | false =>
      rw [q] at h2
      exact List.mem_cons_of_mem _ (lookup_mem h2)
theorem find_self : ∀ {fs : List Fn}, (fs.map (·.nm)).Nodup → ∀ f ∈ fs, fs.find? (fun h => decide (h.nm = f.nm)) = some f
  | [], _, _, h => by cases h
  | f0 :: fs, hn, f, h => by
    rw [List.map_cons, List.nodup_cons] at hn
    rcases List.mem_cons.mp h with e | e
    · subst e
      rw [List.find?_cons]
      simp
    · have : ¬ f0.nm = f.nm := fun z => hn.1 (by rw [z]; exact List.mem_map.mpr ⟨f, e, rfl⟩)
      rw [List.find?_cons, decide_eq_false this]
      exact find_self hn.2 f e

section
variable {w : World} {K : PySem.W.Frag} {h : Heap} {mg : Str → Option Value} {tb : Tb} {g : Cst} {dds : List Dd}
theorem mod_of (X : K.In h) (G : h.Ns mainGlobals mg) {h' : Heap} (c : He.SaysX (fas dds) (dds.map Dd.d) (tabs g) [] (modB tb g) w h' K) (hd : ∀ x ∈ dds, x.Ok tb) (hn : ((dds.map (·.f)).map (·.nm)).Nodup) (hf : tb.fns = (dds.map (·.f)).map (·.nm))
    (hg : (g.gds.map (·.1)).Nodup) (hg2 : tb.gds = g.gds.map (·.1)) : Mod w K mg (GdD K (g.gds.map (·.1))) tb g (dds.map (·.f)) := by
  obtain ⟨m1, m2⟩ := He.ba (show (tb.cst.all (cstB K) && g.gds.all (gdB K)) = true from c.more)
  refine { G := gd_ok c.t rfl m2 hg, cst := fun x d e => ?_, gds := fun x hx => ?_, blt := fun x hx => ?_, dfs := fun f hf => ?_, fnd := find_self hn, fns := fun x hx => ?_ }
  · exact cst_ok X G (List.all_eq_true.mp m1 _ (lookup_mem e))
  · rw [hg2] at hx
    obtain ⟨q, hq, rfl⟩ := List.mem_map.mp hx
    obtain ⟨b1, _⟩ := He.ba (show gdB K q = true from List.all_eq_true.mp m2 q hq)
    exact ⟨_, He.glo_ok X G b1, List.mem_map.mpr ⟨q, hq, rfl⟩, rfl⟩
  · exact He.free_ok X G (c.t.d.facts (f := .free x) (List.mem_append_right _ (List.mem_map.mpr ⟨x, hx, rfl⟩)))
  · obtain ⟨dd, h1, rfl⟩ := List.mem_map.mp hf
    obtain ⟨fd, F⟩ := c.t.d.defs (d := dd.d) (List.mem_map.mpr ⟨dd, h1, rfl⟩)
    have F' : FunD K dd.f.nm dd.f.nm (L2.defArgs dd.st) (L2.defBody dd.st) (L2.defScope dd.st) [] [] (He.fAd K (dd.f.nm, none)) fd := F
    have gl := He.glo_ok X G (c.t.d.facts (f := .glo dd.f.nm) (List.mem_append_left _ (List.mem_map.mpr ⟨dd, h1, rfl⟩)))
    exact ⟨dd.st, _, fd, F', gl, scope_ok (hd dd h1).sc, F'.bindsN (hd dd h1).b, (hd dd h1).c⟩
  · rw [hf] at hx
    obtain ⟨f, h1, h2⟩ := List.mem_map.mp hx
    exact ⟨f, h1, h2⟩
end

theorem sqF_of {K : PySem.W.Frag} {H : Hp} {a : Addr} {vs : List V} (hO : Only H) (hS : SqL K H a vs) : SqF K H a vs := by
  rcases hS with h | h
  · left
    rcases h with h | ⟨o, h⟩
    · rcases hO a with q | ⟨o, xs, q⟩
      · rw [q] at h; cases h
      · rw [q] at h; cases h
    · exact ⟨o, h⟩
  · exact .inr h
/-- the law's end: what the evaluator tells of every script is told of the law -/
theorem law_of {l : PySem.W.OpenLaw} {q : Program} {loose : List Str} {XP : (Str → Option Value) → Heap → Prop} {d : DefRec} {tb : Tb} {g : Cst} {dds : List Dd} {dl : Dd} {k fuel n : Nat}
    (hn1 : l.most = some 63) (hr : Room n callerA) (hdf : d.params.defaults = []) (hname : d.name = dl.f.nm) (hps : dl.f.ps = [("script" : Str)]) (hmem : dl ∈ dds) (hd : ∀ x ∈ dds, x.Ok tb) (hn : ((dds.map (·.f)).map (·.nm)).Nodup) (hf : tb.fns = (dds.map (·.f)).map (·.nm))
    (hg : (g.gds.map (·.1)).Nodup) (hg2 : tb.gds = g.gds.map (·.1))
    (hlaw : ∀ ns : List Int, ns.length ≤ 63 → ∃ S, callN g (dds.map (·.f)) fuel n dl.f.nm [.scr ns] [] = some (.bl true, S)) :
    PySem.W.WalkO q loose XP (He.hookX k (fas dds) (dds.map Dd.d) (tabs g) [] (modB tb g)).says l.row.toRowW d [] (fun f vs => PySem.call f vs) := by
  refine CVN.walk_ofG (n := 63) (k := n) (x := "script") (CX := L2.CX0) hn1 (by decide) hdf hr ?_ (fun _ _ _ _ z => z)
  intro w mg fa h Y G hmg0
  obtain ⟨K, KX, c⟩ := Y
  have M := mod_of KX G c hd hn hf hg hg2
  have hmg : mg dl.f.nm = some (.ref fa) := by rw [← hname]; exact hmg0
  have hl : dl.f ∈ dds.map (·.f) := List.mem_map.mpr ⟨dl, hmem, rfl⟩
  obtain ⟨fd0, F0⟩ := c.t.d.defs (d := dl.d) (List.mem_map.mpr ⟨dl, hmem, rfl⟩)
  have F' : FunD K dl.f.nm dl.f.nm (L2.defArgs dl.st) (L2.defBody dl.st) (L2.defScope dl.st) [] [] (He.fAd K (dl.f.nm, none)) fd0 := F0
  have b := FunD.bindsA (ps := dl.f.ps) F' (hd dl hmem).b
  have gl := He.glo_ok KX G (c.t.d.facts (f := .glo dl.f.nm) (List.mem_append_left _ (List.mem_map.mpr ⟨dl, hmem, rfl⟩)))
  have ea : fa = He.fAd K (dl.f.nm, none) := by
    rw [hmg] at gl
    cases gl
    rfl
  have F0' : FunD K dl.f.nm dl.f.nm (L2.defArgs dl.st) (L2.defBody dl.st) (L2.defScope dl.st) [] [] fa fd0 := by rw [ea]; exact F0
  refine ⟨K, fd0, spF K (GdD K (g.gds.map (·.1))) (callN g (dds.map (·.f)) fuel n) dl.f.nm dl.f.ps.length, KX, ?_, ?_, ?_⟩
  · intro s u
    have := b s [u] (by rw [hps]; rfl)
    rw [hps] at this
    exact this
  · intro H a ns hlen hO hS
    obtain ⟨S, hev⟩ := hlaw ns hlen
    refine ⟨[], [], [.scr ns], (.bl true, S), ⟨rfl, List.nodup_nil, fun i o e => by simp at e⟩, .cons (.scr ?_) .nil, by rw [hps]; rfl, hev, fun v H' ι' R r x => ?_⟩
    · exact sqF_of hO hS
    · cases r
      rfl
  · intro base KB GB
    have M' := mod_of KB GB c hd hn hf hg hg2
    obtain ⟨fa2, fd2, hF2, hmg2, _, _, oc, od, osl, lk⟩ := Mod.ok (P := l.prog) (base := base) (fuel := fuel) M' n dl.f hl
    rw [hmg] at hmg2
    cases hmg2
    obtain ⟨oc0, od0, osl0, lk0⟩ := fun_at F0'
    rw [lk] at lk0
    cases lk0
    rw [hps] at hF2 ⊢
    exact hF2
end CV

set_option Elab.async false
set_option linter.all false
set_option maxRecDepth 100000
set_option maxHeartbeats 8000000
/-! CvP: what the evaluator answers, rule by rule (plain Lean). -/
namespace CV
open PySem

def Op {α : Type} (o : Option (α × Sto)) (Q : α → Sto → Prop) : Prop := match o with
  | some (d, S) => Q d S
  | none => False
def Op3 (o : Option (Fl × Env × Sto)) (P : Fl → Env → Sto → Prop) : Prop := match o with
  | some (f, env, S) => P f env S
  | none => False
section
variable {α β : Type}
@[simp] theorem Op_some {d : α} {S : Sto} {Q : α → Sto → Prop} : Op (some (d, S)) Q = Q d S := rfl
@[simp] theorem Op_none {Q : α → Sto → Prop} : Op (none : Option (α × Sto)) Q = False := rfl
theorem Op_ite {c : Prop} [Decidable c] {a b : Option (α × Sto)} {Q : α → Sto → Prop} : Op (if c then a else b) Q = if c then Op a Q else Op b Q := by split <;> rfl
theorem Op_guard {c : Prop} [Decidable c] {d : α} {S : Sto} {Q : α → Sto → Prop} : Op (if c then some (d, S) else none) Q = (c ∧ Q d S) := by
  split <;> rename_i h
  · simp [h]
  · simp [h]
theorem Op_map {o : Option (α × Sto)} {f : α × Sto → β × Sto} {Q : β → Sto → Prop} : Op (o.map f) Q = Op o fun d S => Q (f (d, S)).1 (f (d, S)).2 := by
  cases o with
  | none => rfl
  | some r => rfl
theorem Op_mapb {o : Option β} {f : β → α × Sto} {Q : α → Sto → Prop} : Op (o.map f) Q = match o with | some k => Q (f k).1 (f k).2 | none => False := by
  cases o <;> rfl
theorem Op.imp {o : Option (α × Sto)} {P Q : α → Sto → Prop} (h : Op o P) (i : ∀ d S, P d S → Q d S) : Op o Q := by
  cases o with
  | none => exact h
  | some r => exact i _ _ h
theorem Op.of {o : Option (α × Sto)} {d : α} {S : Sto} {Q : α → Sto → Prop} (h : o = some (d, S)) (q : Q d S) : Op o Q := by rw [h]; exact q
theorem Op.ex {o : Option (α × Sto)} {Q : α → Sto → Prop} (h : Op o Q) : ∃ d S, o = some (d, S) ∧ Q d S := by
  cases o with
  | none => exact h.elim
  | some r => exact ⟨_, _, rfl, h⟩
theorem Op3.imp {o : Option (Fl × Env × Sto)} {P Q : Fl → Env → Sto → Prop} (h : Op3 o P) (i : ∀ f e S, P f e S → Q f e S) : Op3 o Q := by
  cases o with
  | none => exact h
  | some r => exact i _ _ _ h
end

theorem noNew_self : ∀ S : Sto, noNew S S = true
  | [] => rfl
  | _ :: S => noNew_self S
theorem noNew_iff : ∀ {S S1 : Sto}, noNew S S1 = true ↔ S1.length ≤ S.length
  | _, [] => by simp [noNew]
  | [], _ :: _ => by simp [noNew]
  | _ :: S, _ :: S1 => by simp only [noNew, noNew_iff (S := S) (S1 := S1), List.length_cons]; omega
@[simp] theorem gc_self (S : Sto) (d : D) : gc S (d, S) = (d, S) := by simp [gc, noNew_self]
theorem gc_le {S S1 : Sto} {d : D} (h : S1.length ≤ S.length) : gc S (d, S1) = (d, S1) := by
  unfold gc
  rw [if_pos (noNew_iff.mpr h)]

/-- what is wanted behind gc -/
def Opg (S : Sto) (o : Option (D × Sto)) (Q : D → Sto → Prop) : Prop := Op o fun d S3 => Q (gc S (d, S3)).1 (gc S (d, S3)).2
theorem Opg_some {S S3 : Sto} {d : D} {Q : D → Sto → Prop} : Opg S (some (d, S3)) Q = Q (gc S (d, S3)).1 (gc S (d, S3)).2 := rfl
section
variable (g : Cst) (F : FT) (fuel : Nat)
def WE (e : E) (env : Env) (S : Sto) (Q : D → Sto → Prop) : Prop := Op (evE g F e env S) Q
def WEs (es : List E) (env : Env) (S : Sto) (Q : List D → Sto → Prop) : Prop := Op (evEs g F es env S) Q
def WT (e : E) (env : Env) (S : Sto) (Q : Bool → Sto → Prop) : Prop := Op (evT g F e env S) Q
def WW (e : E) (env : Env) (S : Sto) (Q : Wk → Sto → Prop) : Prop := Op (evW g F e env S) Q
def WO (o : Option E) (env : Env) (S : Sto) (Q : Option Int → Sto → Prop) : Prop := Op (evO g F o env S) Q
def WC (c : C) (env : Env) (S : Sto) (P : Fl → Env → Sto → Prop) : Prop := Op3 (evC g F fuel c env S) P
def WCs (cs : List C) (env : Env) (S : Sto) (P : Fl → Env → Sto → Prop) : Prop := Op3 (evCs g F fuel cs env S) P
end
section
variable {g : Cst} {F : FT} {fuel : Nat} {env : Env} {S : Sto}
theorem WE.imp {e : E} {P Q : D → Sto → Prop} (h : WE g F e env S P) (i : ∀ d S, P d S → Q d S) : WE g F e env S Q := Op.imp h i
theorem WEs_nil {Q : List D → Sto → Prop} : WEs g F [] env S Q = Q [] S := by unfold WEs; rw [evEs]; rfl
theorem WEs_cons {e : E} {es : List E} {Q : List D → Sto → Prop} : WEs g F (e :: es) env S Q = WE g F e env S fun d S1 => WEs g F es env S1 fun ds S2 => Q (d :: ds) S2 := by
  unfold WEs WE
  rw [evEs]
  cases evE g F e env S with
  | none => rfl
  | some r =>
    obtain ⟨d, S1⟩ := r
    simp only [Op_some]
    cases evEs g F es env S1 with
    | none => rfl
    | some r => rfl
theorem WE_var {i : Nat} {Q : D → Sto → Prop} : WE g F (.var i) env S Q = match env[i]? with | some (some d) => Q d S | _ => False := by
  unfold WE
  rw [evE]
  cases env[i]? with
  | none => rfl
  | some o => cases o <;> rfl
theorem WE_cst {d : D} {Q : D → Sto → Prop} : WE g F (.cst d) env S Q = Q d S := by unfold WE; rw [evE]; rfl
theorem WE_tup {es : List E} {Q : D → Sto → Prop} : WE g F (.tup es) env S Q = WEs g F es env S fun ds S1 => ds.length ≤ cap ∧ Q (.tup ds) S1 := by
  unfold WE WEs
  rw [evE]
  cases evEs g F es env S with
  | none => rfl
  | some r => exact Op_guard
theorem WE_lst {es : List E} {Q : D → Sto → Prop} : WE g F (.lst es) env S Q = WEs g F es env S fun ds S1 => ds.length ≤ cap ∧ Q (.loc .lst S1.length) (S1 ++ [.lst ds]) := by
  unfold WE WEs
  rw [evE]
  cases evEs g F es env S with
  | none => rfl
  | some r => exact Op_guard
theorem WE_bin {op : Bop} {a b : E} {Q : D → Sto → Prop} : WE g F (.bin op a b) env S Q = WE g F a env S fun x S1 => WE g F b env S1 fun y S2 => Opg S (binD op x y S2) Q := by
  unfold WE
  rw [evE]
  cases evE g F a env S with
  | none => rfl
  | some r =>
    obtain ⟨x, S1⟩ := r
    simp only [Op_some]
    cases evE g F b env S1 with
    | none => rfl
    | some r => exact Op_map
theorem WE_neg {a : E} {Q : D → Sto → Prop} : WE g F (.neg a) env S Q = WE g F a env S fun x S1 => match x with | .int i => Q (.int (-i)) S1 | _ => False := by
  unfold WE
  rw [evE]
  cases evE g F a env S with
  | none => rfl
  | some r =>
    obtain ⟨x, S1⟩ := r
    cases x <;> rfl
theorem WE_cmp {op : Cop} {a b : E} {Q : D → Sto → Prop} : WE g F (.cmp op a b) env S Q = WE g F a env S fun x S1 => WE g F b env S1 fun y S2 => match cmpD g op x y S2 with | some k => Q (gc S (.bl k, S2)).1 (gc S (.bl k, S2)).2 | none => False := by
  unfold WE
  rw [evE]
  cases evE g F a env S with
  | none => rfl
  | some r =>
    obtain ⟨x, S1⟩ := r
    simp only [Op_some]
    cases evE g F b env S1 with
    | none => rfl
    | some r =>
      obtain ⟨y, S2⟩ := r
      simp only [Op_some]
      cases cmpD g op x y S2 <;> rfl
theorem WE_chain {op op' : Cop} {a b c : E} {Q : D → Sto → Prop} : WE g F (.chain op op' a b c) env S Q = WE g F a env S fun x S1 => WE g F b env S1 fun y S2 => match cmpD g op x y S2 with
    | some true => WE g F c env S2 fun z S3 => match cmpD g op' y z S3 with | some k => Q (.bl k) S3 | none => False
    | some false => Q (.bl false) S2
    | none => False := by
  unfold WE
  rw [evE]
  cases evE g F a env S with
  | none => rfl
  | some r =>
    obtain ⟨x, S1⟩ := r
    simp only [Op_some]
    cases evE g F b env S1 with
    | none => rfl
    | some r =>
      obtain ⟨y, S2⟩ := r
      simp only [Op_some]
      cases cmpD g op x y S2 with
      | none => rfl
      | some k =>
        cases k with
        | false => rfl
        | true =>
          simp only
          cases evE g F c env S2 with
          | none => rfl
          | some r =>
            obtain ⟨z, S3⟩ := r
            simp only [Op_some]
            cases cmpD g op' y z S3 <;> rfl
theorem WE_is {neg : Bool} {a b : E} {Q : D → Sto → Prop} : WE g F (.is_ neg a b) env S Q = WE g F a env S fun x S1 => WE g F b env S1 fun y S2 => match isD x y with | some k => Q (.bl (if neg then !k else k)) S2 | none => False := by
  unfold WE
  rw [evE]
  cases evE g F a env S with
  | none => rfl
  | some r =>
    obtain ⟨x, S1⟩ := r
    simp only [Op_some]
    cases evE g F b env S1 with
    | none => rfl
    | some r =>
      obtain ⟨y, S2⟩ := r
      simp only [Op_some]
      cases isD x y <;> rfl
theorem WE_and {a b : E} {Q : D → Sto → Prop} : WE g F (.and_ a b) env S Q = WE g F a env S fun x S1 => match x with | .bl true => WE g F b env S1 Q | .bl false => Q (.bl false) S1 | _ => False := by
  unfold WE
  rw [evE]
  cases evE g F a env S with
  | none => rfl
  | some r =>
    obtain ⟨x, S1⟩ := r
    cases x <;> try rfl
    rename_i k
    cases k <;> rfl
theorem WE_or {a b : E} {Q : D → Sto → Prop} : WE g F (.or_ a b) env S Q = WE g F a env S fun x S1 => match x with | .bl false => WE g F b env S1 Q | .bl true => Q (.bl true) S1 | _ => False := by
  unfold WE
  rw [evE]
  cases evE g F a env S with
  | none => rfl
  | some r =>
    obtain ⟨x, S1⟩ := r
    cases x <;> try rfl
    rename_i k
    cases k <;> rfl
theorem WE_not {a : E} {Q : D → Sto → Prop} : WE g F (.not_ a) env S Q = WE g F a env S fun x S1 => match x with | .bl k => Q (.bl (!k)) S1 | _ => False := by
  unfold WE
  rw [evE]
  cases evE g F a env S with
  | none => rfl
  | some r =>
    obtain ⟨x, S1⟩ := r
    cases x <;> rfl
theorem WE_ife {c a b : E} {Q : D → Sto → Prop} : WE g F (.ife c a b) env S Q = WT g F c env S fun k S1 => match k with | true => WE g F a env S1 Q | false => WE g F b env S1 Q := by
  unfold WE WT
  rw [evE]
  cases evT g F c env S with
  | none => rfl
  | some r =>
    obtain ⟨k, S1⟩ := r
    cases k <;> rfl
theorem WE_call {f : Str} {es : List E} {Q : D → Sto → Prop} : WE g F (.call f es) env S Q = WEs g F es env S fun ds S1 => Op (F f ds S1) fun d S3 => Q (gc S (d, S3)).1 (gc S (d, S3)).2 := by
  unfold WE WEs
  rw [evE]
  cases evEs g F es env S with
  | none => rfl
  | some r => exact Op_map
theorem WE_bi {b : Bi} {es : List E} {Q : D → Sto → Prop} : WE g F (.bi b es) env S Q = WEs g F es env S fun ds S1 => Op (biD b ds S1) fun d S3 => Q (gc S (d, S3)).1 (gc S (d, S3)).2 := by
  unfold WE WEs
  rw [evE]
  cases evEs g F es env S with
  | none => rfl
  | some r => exact Op_map
theorem WE_isi {a : E} {c : String} {Q : D → Sto → Prop} : WE g F (.isi a [c]) env S Q = WE g F a env S fun x S1 => match tyOf x with
    | some t => match L2.kitB t c with | some k => Q (.bl k) S1 | none => False
    | none => False := by
  unfold WE
  rw [evE]
  cases evE g F a env S with
  | none => rfl
  | some r =>
    obtain ⟨x, S1⟩ := r
    simp only [Op_some]
    cases tyOf x with
    | none => rfl
    | some t =>
      simp only [List.foldr]
      cases L2.kitB t c with
      | none => rfl
      | some k => simp
theorem WE_meth {m : Me} {o : E} {es : List E} {Q : D → Sto → Prop} : WE g F (.meth m o es) env S Q = WE g F o env S fun x S1 => WEs g F es env S1 fun ds S2 => Op (meD m x ds S2) fun d S3 => Q (gc S (d, S3)).1 (gc S (d, S3)).2 := by
  unfold WE WEs
  rw [evE]
  cases evE g F o env S with
  | none => rfl
  | some r =>
    obtain ⟨x, S1⟩ := r
    simp only [Op_some]
    cases evEs g F es env S1 with
    | none => rfl
    | some r => exact Op_map
theorem WE_ix {a i : E} {Q : D → Sto → Prop} : WE g F (.ix a i) env S Q = WE g F a env S fun x S1 => WE g F i env S1 fun y S2 => match ixD g x y S2 with | some d => Q (gc S (d, S2)).1 (gc S (d, S2)).2 | none => False := by
  unfold WE
  rw [evE]
  cases evE g F a env S with
  | none => rfl
  | some r =>
    obtain ⟨x, S1⟩ := r
    simp only [Op_some]
    cases evE g F i env S1 with
    | none => rfl
    | some r =>
      obtain ⟨y, S2⟩ := r
      simp only [Op_some]
      cases ixD g x y S2 <;> rfl
theorem WE_sl {a : E} {lo hi : Option E} {Q : D → Sto → Prop} : WE g F (.sl a lo hi) env S Q = WE g F a env S fun x S1 => WO g F lo env S1 fun l S2 => WO g F hi env S2 fun h S3 => Op (slD x l h S3) fun d S4 => Q (gc S (d, S4)).1 (gc S (d, S4)).2 := by
  unfold WE WO
  rw [evE]
  cases evE g F a env S with
  | none => rfl
  | some r =>
    obtain ⟨x, S1⟩ := r
    simp only [Op_some]
    cases evO g F lo env S1 with
    | none => rfl
    | some r =>
      obtain ⟨l, S2⟩ := r
      simp only [Op_some]
      cases evO g F hi env S2 with
      | none => rfl
      | some r => exact Op_map
theorem WE_rev {a : E} {Q : D → Sto → Prop} : WE g F (.rev a) env S Q = WE g F a env S fun x S1 => Op (revD x S1) fun d S4 => Q (gc S (d, S4)).1 (gc S (d, S4)).2 := by
  unfold WE
  rw [evE]
  cases evE g F a env S with
  | none => rfl
  | some r => exact Op_map
theorem WO_none {Q : Option Int → Sto → Prop} : WO g F none env S Q = Q none S := by unfold WO; rw [evO]; rfl
theorem WO_some {e : E} {Q : Option Int → Sto → Prop} : WO g F (some e) env S Q = WE g F e env S fun x S1 => match x with | .int i => Q (some i) S1 | _ => False := by
  unfold WO WE
  rw [evO]
  cases evE g F e env S with
  | none => rfl
  | some r =>
    obtain ⟨x, S1⟩ := r
    cases x <;> rfl
theorem WT_and {a b : E} {Q : Bool → Sto → Prop} : WT g F (.and_ a b) env S Q = WT g F a env S fun k S1 => match k with | true => WT g F b env S1 Q | false => Q false S1 := by
  unfold WT
  rw [evT]
  cases evT g F a env S with
  | none => rfl
  | some r =>
    obtain ⟨k, S1⟩ := r
    cases k <;> rfl
theorem WT_or {a b : E} {Q : Bool → Sto → Prop} : WT g F (.or_ a b) env S Q = WT g F a env S fun k S1 => match k with | false => WT g F b env S1 Q | true => Q true S1 := by
  unfold WT
  rw [evT]
  cases evT g F a env S with
  | none => rfl
  | some r =>
    obtain ⟨k, S1⟩ := r
    cases k <;> rfl
theorem WT_not {a : E} {Q : Bool → Sto → Prop} : WT g F (.not_ a) env S Q = WT g F a env S fun k S1 => Q (!k) S1 := by
  unfold WT
  rw [evT]
  cases evT g F a env S with
  | none => rfl
  | some r => rfl
theorem WT_ife {c a b : E} {Q : Bool → Sto → Prop} : WT g F (.ife c a b) env S Q = WT g F c env S fun k S1 => match k with | true => WT g F a env S1 Q | false => WT g F b env S1 Q := by
  unfold WT
  rw [evT]
  cases evT g F c env S with
  | none => rfl
  | some r =>
    obtain ⟨k, S1⟩ := r
    cases k <;> rfl
/-- a test that is no and, or, not, if -/
def pl : E → Bool
  | .and_ _ _ => false
  | .or_ _ _ => false
  | .not_ _ => false
  | .ife _ _ _ => false
  | .rng _ => false
  | _ => true
theorem WT_pl {e : E} (h : pl e = true) {Q : Bool → Sto → Prop} : WT g F e env S Q = WE g F e env S fun d S1 => match truth S1 d with | some k => Q k S1 | none => False := by
  unfold WT WE
  have : evT g F e env S = match evE g F e env S with
    | some (d, S1) => match truth S1 d with
      | some k => some (k, S1)
      | none => none
    | none => none := by cases e <;> first | (unfold evT; rfl) | cases h
  rw [this]
  cases evE g F e env S with
  | none => rfl
  | some r =>
    obtain ⟨d, S1⟩ := r
    simp only [Op_some]
    cases truth S1 d <;> rfl
theorem WW_pl {e : E} (h : pl e = true) {Q : Wk → Sto → Prop} : WW g F e env S Q = WE g F e env S fun d S1 => match wkOf S1 d with | some w => Q w S1 | none => False := by
  unfold WW WE
  have : evW g F e env S = match evE g F e env S with
    | some (d, S1) => match wkOf S1 d with
      | some w => some (w, S1)
      | none => none
    | none => none := by cases e <;> first | (unfold evW; rfl) | cases h
  rw [this]
  cases evE g F e env S with
  | none => rfl
  | some r =>
    obtain ⟨d, S1⟩ := r
    simp only [Op_some]
    cases wkOf S1 d <;> rfl
theorem WW_rng1 {e : E} {Q : Wk → Sto → Prop} : WW g F (.rng [e]) env S Q = WE g F e env S fun d S1 => match d with | .int j => (-4611686018427387904 ≤ j ∧ j < 4611686018427387904) ∧ Q (.fix (rngItems 0 j)) S1 | _ => False := by
  unfold WW WE
  rw [evW, evEs]
  cases evE g F e env S with
  | none => rfl
  | some r =>
    obtain ⟨d, S1⟩ := r
    simp only [Op_some, evEs]
    cases d <;> try rfl
    rename_i j
    simp only [Bool.and_eq_true, decide_eq_true_eq]
    exact Op_guard
theorem WCs_nil {P : Fl → Env → Sto → Prop} : WCs g F fuel [] env S P = P .nx env S := by unfold WCs; simp only [evCs]; rfl
theorem WCs_cons {c : C} {cs : List C} {P : Fl → Env → Sto → Prop} : WCs g F fuel (c :: cs) env S P = WC g F fuel c env S fun f env1 S1 => match f with | .nx => WCs g F fuel cs env1 S1 P | f => P f env1 S1 := by
  unfold WCs WC
  simp only [evCs]
  cases evC g F fuel c env S with
  | none => rfl
  | some r =>
    obtain ⟨f, env1, S1⟩ := r
    cases f <;> rfl
theorem WC_exp {e : E} {P : Fl → Env → Sto → Prop} : WC g F fuel (.exp e) env S P = WE g F e env S fun _ S1 => P .nx env S1 := by
  unfold WC WE
  simp only [evC]
  cases evE g F e env S with
  | none => rfl
  | some r => rfl
theorem WC_asg {t : T} {e : E} {P : Fl → Env → Sto → Prop} : WC g F fuel (.asg t e) env S P = WE g F e env S fun d S1 => match asg t d env S1 with | some env1 => P .nx env1 S1 | none => False := by
  unfold WC WE
  simp only [evC]
  cases evE g F e env S with
  | none => rfl
  | some r =>
    obtain ⟨d, S1⟩ := r
    simp only [Op_some]
    cases asg t d env S1 <;> rfl
theorem WC_sto {o i e : E} {P : Fl → Env → Sto → Prop} : WC g F fuel (.sto o i e) env S P = WE g F e env S fun v S1 => WE g F o env S1 fun x S2 => WE g F i env S2 fun y S3 => match setD x y v S3 with | some S4 => P .nx env S4 | none => False := by
  unfold WC WE
  simp only [evC]
  cases evE g F e env S with
  | none => rfl
  | some r =>
    obtain ⟨v, S1⟩ := r
    simp only [Op_some]
    cases evE g F o env S1 with
    | none => rfl
    | some r =>
      obtain ⟨x, S2⟩ := r
      simp only [Op_some]
      cases evE g F i env S2 with
      | none => rfl
      | some r =>
        obtain ⟨y, S3⟩ := r
        simp only [Op_some]
        cases setD x y v S3 <;> rfl
theorem WC_ret {e : E} {P : Fl → Env → Sto → Prop} : WC g F fuel (.ret e) env S P = WE g F e env S fun d S1 => P (.rt d) env S1 := by
  unfold WC WE
  simp only [evC]
  cases evE g F e env S with
  | none => rfl
  | some r => rfl
theorem WC_ife {c : E} {a b : List C} {P : Fl → Env → Sto → Prop} : WC g F fuel (.ife c a b) env S P = WT g F c env S fun k S1 => match k with | true => WCs g F fuel a env S1 P | false => WCs g F fuel b env S1 P := by
  unfold WC WT WCs
  simp only [evC]
  cases evT g F c env S with
  | none => rfl
  | some r =>
    obtain ⟨k, S1⟩ := r
    cases k <;> rfl
theorem WC_retN {P : Fl → Env → Sto → Prop} : WC g F fuel .retN env S P = P (.rt .non) env S := by unfold WC; simp only [evC]; rfl
theorem WC_pass {P : Fl → Env → Sto → Prop} : WC g F fuel .pass env S P = P .nx env S := by unfold WC; simp only [evC]; rfl
theorem WC_brk {P : Fl → Env → Sto → Prop} : WC g F fuel .brk env S P = P .bk env S := by unfold WC; simp only [evC]; rfl
theorem WC_cnt {P : Fl → Env → Sto → Prop} : WC g F fuel .cnt env S P = P .ct env S := by unfold WC; simp only [evC]; rfl

/-- a for loop by an invariant -/
theorem forLoop_inv {body : Env → Sto → Option (Fl × Env × Sto)} {t : T} {w : Wk} {I : Nat → Env → Sto → Prop} {P : Fl → Env → Sto → Prop}
    (hok : ∀ i env S, I i env S → w.ok S = true) (hstep : ∀ i x env S, w.items[i]? = some x → I i env S → ∃ env1, asg t x env S = some env1 ∧ Op3 (body env1 S) fun f env2 S2 => match f with
      | .nx => I (i + 1) env2 S2
      | .ct => I (i + 1) env2 S2
      | .bk => P .nx env2 S2
      | .rt d => P (.rt d) env2 S2) (hend : ∀ env S, I w.items.length env S → P .nx env S) :
    ∀ (m i : Nat) (env : Env) (S : Sto), i + m = w.items.length → I i env S → Op3 (forLoop body t w (w.items.drop i) env S) P := by
  intro m
  induction m with
  | zero =>
    intro i env S e h
    have : w.items.drop i = [] := List.drop_eq_nil_of_le (by omega)
    rw [this]
    simp only [forLoop, hok i env S h, if_true]
    have e2 : i = w.items.length := by omega
    rw [e2] at h
    exact hend env S h
  | succ m ih =>
    intro i env S e h
    have hlt : i < w.items.length := by omega
    rw [List.drop_eq_getElem_cons hlt]
    simp only [forLoop, hok i env S h, if_true]
    obtain ⟨env1, h1, h2⟩ := hstep i w.items[i] env S (by simp [hlt]) h
    rw [h1]
    simp only
    cases hb : body env1 S with
    | none => rw [hb] at h2; exact h2.elim
    | some r =>
      obtain ⟨f, env2, S2⟩ := r
      rw [hb] at h2
      cases f with
      | nx => exact ih (i + 1) env2 S2 (by omega) h2
      | ct => exact ih (i + 1) env2 S2 (by omega) h2
      | bk => exact h2
      | rt d => exact h2
theorem WC_for {t : T} {it : E} {body : List C} {P : Fl → Env → Sto → Prop}
    (h : WW g F it env S fun w S1 => ∃ I : Nat → Env → Sto → Prop, I 0 env S1 ∧ (∀ i env S, I i env S → w.ok S = true) ∧ (∀ i x env S, w.items[i]? = some x → I i env S → ∃ env1, asg t x env S = some env1 ∧ WCs g F fuel body env1 S fun f env2 S2 => match f with
      | .nx => I (i + 1) env2 S2
      | .ct => I (i + 1) env2 S2
      | .bk => P .nx env2 S2
      | .rt d => P (.rt d) env2 S2) ∧ ∀ env S, I w.items.length env S → P .nx env S) : WC g F fuel (.for_ t it body) env S P := by
  unfold WC
  simp only [evC]
  obtain ⟨w, S1, e, I, h0, hok, hstep, hend⟩ := Op.ex h
  rw [e]
  simp only
  have := forLoop_inv (body := evCs g F fuel body) hok hstep hend w.items.length 0 env S1 (by omega) h0
  simpa using this
/-- a comprehension whose parts leave the store -/
theorem lcLoop_pure {elt : Env → Sto → Option (D × Sto)} {ifs : Env → Sto → Option (Bool × Sto)} {t : T} {w : Wk} {p : D → Bool} {f : D → D} (hok : w.ok S = true) :
    ∀ (xs acc : List D), (∀ x ∈ xs, ∃ env1, asg t x env S = some env1 ∧ ifs env1 S = some (p x, S) ∧ (p x = true → elt env1 S = some (f x, S))) → acc.length + xs.length ≤ cap →
      lcLoop elt ifs t env w xs acc S = some (acc ++ (xs.filter p).map f, S)
  | [], acc, _, _ => by simp [lcLoop, hok]
  | x :: xs, acc, h, hl => by
    obtain ⟨env1, h1, h2, h3⟩ := h x List.mem_cons_self
    simp only [lcLoop, hok, if_true, h1, h2]
    cases hp : p x with
    | false =>
      simp only [hp, List.filter_cons]
      exact lcLoop_pure hok xs acc (fun y hy => h y (List.mem_cons_of_mem _ hy)) (by simp at hl; omega)
    | true =>
      simp only [hp, h3 hp, List.filter_cons, if_true, List.map_cons]
      rw [if_pos (by simp at hl; omega)]
      rw [lcLoop_pure hok xs (acc ++ [f x]) (fun y hy => h y (List.mem_cons_of_mem _ hy)) (by simp at hl ⊢; omega)]
      simp
end

/-- a list laid last stays where it is -/
theorem gc_last {S : Sto} {xs : List D} : gc S (.loc .lst S.length, S ++ [.lst xs]) = (.loc .lst S.length, S ++ [.lst xs]) := by
  unfold gc
  split
  · rfl
  · unfold gc0
    split
    · have hu : D.under S.length (.loc .lst S.length) = false := by simp [D.under]
      rw [if_neg (by rw [hu]; simp)]
      simp only [List.getElem?_append_right (Nat.le_refl _), Nat.sub_self, List.getElem?_cons_zero]
      split
      · simp
      · rfl
    · rfl
end CV

set_option Elab.async false
set_option linter.all false
set_option maxRecDepth 100000
set_option maxHeartbeats 4000000
/-! CvD: the draws. -/
namespace CV
open PySem

def evl (body : Fl → Env → Sto → Prop) : Prop := True
section
variable {g : Cst} {fs : List Fn} {fuel k : Nat} {x : Str} {f : Fn} {ds : List D} {S : Sto} {Q : D → Sto → Prop}
def Fin (S : Sto) (Q : D → Sto → Prop) : Fl → Env → Sto → Prop := fun fl _ S1 => match fl with
  | .rt d => Q (gc S (d, S1)).1 (gc S (d, S1)).2
  | .nx => Q (gc S (.non, S1)).1 (gc S (.non, S1)).2
  | _ => False
theorem callN_at (h : fs.find? (fun f => decide (f.nm = x)) = some f) (hl : ds.length = f.ps.length)
    (hb : WCs g (callN g fs fuel k) fuel f.body (ds.map some ++ List.replicate (f.N.length - ds.length) none) S (Fin S Q)) : Op (callN g fs fuel (k + 1) x ds S) Q := by
  unfold callN
  rw [h]
  simp only [callFn, if_pos hl]
  unfold WCs at hb
  cases e : evCs g (callN g fs fuel k) fuel f.body (ds.map some ++ List.replicate (f.N.length - ds.length) none) S with
  | none => rw [e] at hb; exact hb.elim
  | some r =>
    obtain ⟨fl, env, S1⟩ := r
    rw [e] at hb
    cases fl with
    | nx => exact hb
    | bk => exact hb.elim
    | ct => exact hb.elim
    | rt d => exact hb
end
theorem Fin_rt {S S1 : Sto} {Q : D → Sto → Prop} {d : D} {env : Env} : Fin S Q (.rt d) env S1 = Q (gc S (d, S1)).1 (gc S (d, S1)).2 := rfl
theorem Fin_nx {S S1 : Sto} {Q : D → Sto → Prop} {env : Env} : Fin S Q .nx env S1 = Q (gc S (.non, S1)).1 (gc S (.non, S1)).2 := rfl

theorem gc_set {S : Sto} {n : Nat} {o : Ob} {d : D} : gc S (d, S.set n o) = (d, S.set n o) := gc_le (by simp)
theorem ix_lst {S : Sto} {n : Nat} {xs : List D} {j : Int} {g : Cst} (h : S[n]? = some (.lst xs)) : ixD g (.loc .lst n) (.int j) S = L2.atI xs j := by
  simp only [ixD, seqOf, h]
theorem set_lst {S : Sto} {n : Nat} {xs : List D} {j : Int} {v : D} (h : S[n]? = some (.lst xs)) : setD (.loc .lst n) (.int j) v S = match L2.ixN xs.length j with
      | some k => some (S.set n (.lst (xs.set k v)))
      | none => none := by
  simp only [setD, h]
  all_goals (cases L2.ixN xs.length j <;> rfl)
theorem pow_18 {S : Sto} : binD .pow (.int 10) (.int 18) S = some (.int 1000000000000000000, S) := rfl
theorem pow_9 {S : Sto} : binD .pow (.int 10) (.int 9) S = some (.int 1000000000, S) := rfl
theorem pow_8 {S : Sto} : binD .pow (.int 10) (.int 8) S = some (.int 100000000, S) := rfl
theorem Op_addtup {S : Sto} {a b : List D} {S0 : Sto} {Q : D → Sto → Prop} : Opg S0 (binD .add (.tup a) (.tup b) S) Q = (a.length + b.length ≤ cap ∧ Q (gc S0 (.tup (a ++ b), S)).1 (gc S0 (.tup (a ++ b), S)).2) := Op_guard
theorem sl_tup {S : Sto} {xs : List D} {l h : Option Int} : slD (.tup xs) l h S = some (.tup (cutD xs l h), S) := rfl
theorem at20 {α : Type} {x y : α} : L2.atI [x, y] 0 = some x := rfl
theorem at21 {α : Type} {x y : α} : L2.atI [x, y] 1 = some y := rfl
theorem ixn20 : L2.ixN 2 0 = some 0 := rfl
theorem ixn21 : L2.ixN 2 1 = some 1 := rfl
theorem ix_set {S : Sto} {n : Nat} {xs : List D} {j : Int} {g : Cst} (h : n < S.length) : ixD g (.loc .lst n) (.int j) (S.set n (.lst xs)) = L2.atI xs j := ix_lst (by simp [h])
section
variable {g : Cst} {S : Sto} {i j : Int}
theorem bd_add : binD .add (.int i) (.int j) S = some (.int (i + j), S) := rfl
theorem bd_sub : binD .sub (.int i) (.int j) S = some (.int (i - j), S) := rfl
theorem bd_mulr (h1 : -18446744073709551616 < j) (h2 : j < 18446744073709551616) : binD .mul (.int i) (.int j) S = some (.int (i * j), S) := by simp [binD, h1, h2]
theorem bd_mull (h1 : -18446744073709551616 < i) (h2 : i < 18446744073709551616) : binD .mul (.int i) (.int j) S = some (.int (i * j), S) := by simp [binD, h1, h2]
theorem bd_fdiv (h1 : 0 < j) (h2 : j < 1073741824) : binD .fdiv (.int i) (.int j) S = some (.int (i / j), S) := by simp [binD, h1, h2]
theorem bd_mod (h1 : 0 < j) : binD .mod (.int i) (.int j) S = some (.int (i % j), S) := by simp [binD, h1]
theorem bd_pow (h1 : 0 ≤ j) (h2 : j ≤ 1000000) (h3 : i.natAbs < 18446744073709551616) : binD .pow (.int i) (.int j) S = some (.int (i ^ j.toNat), S) := by simp [binD, h1, h2, h3]
theorem cd_lt : cmpD g .lt (.int i) (.int j) S = some (decide (i < j)) := rfl
theorem cd_le : cmpD g .le (.int i) (.int j) S = some (decide (i ≤ j)) := rfl
theorem cd_gt : cmpD g .gt (.int i) (.int j) S = some (decide (j < i)) := rfl
theorem cd_ge : cmpD g .ge (.int i) (.int j) S = some (decide (j ≤ i)) := rfl
theorem bi_abs : biD .abs [.int i] S = some (.int (if i < 0 then -i else i), S) := rfl
theorem bi_max : biD .max [.int i, .int j] S = some (.int (if j > i then j else i), S) := rfl
theorem bi_min : biD .min [.int i, .int j] S = some (.int (if j < i then j else i), S) := rfl
theorem bi_lenS {x : Str} : biD .len [.str x] S = some (.int x.length, S) := rfl
theorem bi_lenT {xs : List D} : biD .len [.tup xs] S = some (.int xs.length, S) := rfl
theorem bi_lenR {ns : List Int} : biD .len [.scr ns] S = some (.int ns.length, S) := by simp [biD, seqOf]
theorem bi_lenL {n : Nat} {xs : List D} (h : S[n]? = some (.lst xs)) : biD .len [.loc .lst n] S = some (.int xs.length, S) := by simp [biD, seqOf, h]
theorem bi_tupT {xs : List D} : biD .tuple [.tup xs] S = some (.tup xs, S) := rfl
theorem bi_tupL {n : Nat} {xs : List D} (h : S[n]? = some (.lst xs)) : biD .tuple [.loc .lst n] S = some (.tup xs, S) := by simp [biD, seqOf, h]
theorem bi_listT {xs : List D} : biD .list [.tup xs] S = some (.loc .lst S.length, S ++ [.lst xs]) := rfl
end
/-! ### what a draw leaves -/
def FeedAt (n : Nat) (S : Sto) : Prop := ∃ a b : Int, S[n]? = some (.lst [.int a, .int b]) ∧ 0 ≤ a
structure Ex (n : Nat) (S S' : Sto) : Prop where
  len : S.length ≤ S'.length
  frm : ∀ i, i < S.length → i ≠ n → S'[i]? = S[i]?
  fd : FeedAt n S'
theorem Ex.refl {n : Nat} {S : Sto} (h : FeedAt n S) : Ex n S S := ⟨Nat.le_refl _, fun _ _ _ => rfl, h⟩
theorem Ex.trans {n : Nat} {S S1 S2 : Sto} (a : Ex n S S1) (b : Ex n S1 S2) : Ex n S S2 :=
  ⟨Nat.le_trans a.len b.len, fun i h1 h2 => by rw [b.frm i (Nat.lt_of_lt_of_le h1 a.len) h2, a.frm i h1 h2], b.fd⟩
theorem FeedAt.lt {n : Nat} {S : Sto} (h : FeedAt n S) : n < S.length := by
  obtain ⟨a, b, e, _⟩ := h
  exact (List.getElem?_eq_some_iff.mp e).1
theorem FeedAt.app {n : Nat} {S t : Sto} (h : FeedAt n S) : FeedAt n (S ++ t) := by
  obtain ⟨a, b, e, ha⟩ := h
  exact ⟨a, b, by rw [List.getElem?_append_left (List.getElem?_eq_some_iff.mp e).1]; exact e, ha⟩
theorem Ex.app {n : Nat} {S S1 t : Sto} (h : Ex n S S1) : Ex n S (S1 ++ t) :=
  ⟨by rw [List.length_append]; have := h.len; omega, fun i h1 h2 => by rw [List.getElem?_append_left (Nat.lt_of_lt_of_le h1 h.len)]; exact h.frm i h1 h2, h.fd.app⟩
theorem Ex.lst {n m : Nat} {S S1 : Sto} {o : Ob} (h : Ex n S S1) (hm : m ≠ n) (e : S[m]? = some o) : S1[m]? = some o := by
  rw [h.frm m (List.getElem?_eq_some_iff.mp e).1 hm, e]
/-- gc: what it may make of a value and a store -/
theorem gc_cases (S : Sto) (d : D) (S1 : Sto) : gc S (d, S1) = (d, S1) ∨ (gc S (d, S1) = (d, S1.take S.length) ∧ D.under S.length d = true ∧ S.length ≤ S1.length) ∨
    ∃ k m o, d = .loc k m ∧ S1[m]? = some o ∧ S.length ≤ m ∧ S.length ≤ S1.length ∧ gc S (d, S1) = (.loc k S.length, S1.take S.length ++ [o]) := by
  unfold gc
  split
  · exact .inl rfl
  · rename_i hn
    have hl : S.length ≤ S1.length := by
      have : ¬ S1.length ≤ S.length := fun h => hn (noNew_iff.mpr h)
      omega
    unfold gc0
    split
    · simp only
      split
      · rename_i h
        exact .inr (.inl ⟨rfl, h, hl⟩)
      · split
        · rename_i k m hx1 hx2
          split
          · rename_i o ho
            split
            · rename_i hc
              simp only [Bool.and_eq_true, decide_eq_true_eq] at hc
              exact .inr (.inr ⟨k, m, o, rfl, ho, hc.1.2, hl, rfl⟩)
            · exact .inl rfl
          · exact .inl rfl
        · exact .inl rfl
    · exact .inl rfl
theorem FeedAt.take {n j : Nat} {S : Sto} (h : FeedAt n S) (hj : n < j) : FeedAt n (S.take j) := by
  obtain ⟨a, b, e, ha⟩ := h
  exact ⟨a, b, by rw [List.getElem?_take_of_lt hj]; exact e, ha⟩
theorem gc_Ex {n : Nat} {S S1 : Sto} {d : D} (hn : n < S.length) (h : Ex n S S1) : Ex n S (gc S (d, S1)).2 := by
  have tk : Ex n S (S1.take S.length) := ⟨by rw [List.length_take]; have := h.len; omega, fun i h1 h2 => by rw [List.getElem?_take_of_lt h1]; exact h.frm i h1 h2, h.fd.take hn⟩
  rcases gc_cases S d S1 with e | ⟨e, _⟩ | ⟨k, m, o, _, _, _, _, e⟩
  · rw [e]; exact h
  · rw [e]; exact tk
  · rw [e]; exact tk.app
/-- the same, but for where a list lies -/
def Sim (x d : D) : Prop := d = x ∨ ∃ a b, x = .loc .lst a ∧ d = .loc .lst b
theorem Sim.refl (x : D) : Sim x x := .inl rfl
theorem Sim.trans {x y z : D} (a : Sim x y) (b : Sim y z) : Sim x z := by
  rcases b with rfl | ⟨p, q, rfl, rfl⟩
  · exact a
  · rcases a with h | ⟨p', q', rfl, h⟩
    · subst h; exact .inr ⟨p, q, rfl, rfl⟩
    · exact .inr ⟨p', q, rfl, rfl⟩
theorem gc_sim {S S1 : Sto} {d : D} (hk : ∀ m, d ≠ .loc .dct m) : Sim d (gc S (d, S1)).1 := by
  rcases gc_cases S d S1 with e | ⟨e, _⟩ | ⟨k, m, o, rfl, _, _, _, e⟩
  · rw [e]; exact .refl _
  · rw [e]; exact .refl _
  · rw [e]
    cases k with
    | lst => exact .inr ⟨_, _, rfl, rfl⟩
    | dct => exact absurd rfl (hk m)
theorem gc_int {S S1 : Sto} {i : Int} : (gc S (.int i, S1)).1 = .int i := by
  rcases gc_cases S (.int i) S1 with e | ⟨e, _⟩ | ⟨k, m, o, h, _⟩
  · rw [e]
  · rw [e]
  · cases h
theorem gc_bl {S S1 : Sto} {b : Bool} : (gc S (.bl b, S1)).1 = .bl b := by
  rcases gc_cases S (.bl b) S1 with e | ⟨e, _⟩ | ⟨k, m, o, h, _⟩
  · rw [e]
  · rw [e]
  · cases h
theorem gc_str {S S1 : Sto} {z : Str} : (gc S (.str z, S1)).1 = .str z := by
  rcases gc_cases S (.str z) S1 with e | ⟨e, _⟩ | ⟨k, m, o, h, _⟩
  · rw [e]
  · rw [e]
  · cases h
theorem gc_tup {S S1 : Sto} {xs : List D} : (gc S (.tup xs, S1)).1 = .tup xs := by
  rcases gc_cases S (.tup xs) S1 with e | ⟨e, _⟩ | ⟨k, m, o, h, _⟩
  · rw [e]
  · rw [e]
  · cases h
/-- a list of one's own -/
theorem gc_lst {n m : Nat} {S S1 : Sto} {xs : List D} (hn : n < S.length) (h : Ex n S S1) (e : S1[m]? = some (.lst xs)) (hm : S.length ≤ m) :
    ∃ m', (gc S (.loc .lst m, S1)).1 = .loc .lst m' ∧ S.length ≤ m' ∧ (gc S (.loc .lst m, S1)).2[m']? = some (.lst xs) ∧ Ex n S (gc S (.loc .lst m, S1)).2 := by
  have hx := gc_Ex (d := .loc .lst m) hn h
  rcases gc_cases S (.loc .lst m) S1 with q | ⟨q, hu, _⟩ | ⟨k, m', o, h1, h2, h3, h4, q⟩
  · rw [q] at hx ⊢
    exact ⟨m, rfl, hm, e, hx⟩
  · simp [D.under] at hu
    omega
  · cases h1
    rw [q] at hx ⊢
    rw [e] at h2
    cases h2
    refine ⟨S.length, rfl, Nat.le_refl _, ?_, hx⟩
    have : (S1.take S.length).length = S.length := by rw [List.length_take]; omega
    rw [List.getElem?_append_right (by omega)]
    simp [this]
/-! ### the texts -/
def nmTake : Str := sx [95,108,97,119,95,116,97,107,101]
def fnTake : Fn := { nm := (sx [95,108,97,119,95,116,97,107,101]), ps := [Str.ofString "feed", Str.ofString "many"], N := [Str.ofString "feed", Str.ofString "many", Str.ofString "found"], body := [(.ife (.cmp .gt (.ix (.var 0) (.cst (.int 0))) (.cst (.int 0))) [(.asg (.nm 2) (.bin .mod (.ix (.var 0) (.cst (.int 0))) (.var 1))), (.sto (.var 0) (.cst (.int 0)) (.bin .fdiv (.ix (.var 0) (.cst (.int 0))) (.var 1))), (.ret (.var 2))] []), (.sto (.var 0) (.cst (.int 1)) (.bin .mod (.bin .add (.bin .mul (.ix (.var 0) (.cst (.int 1))) (.cst (.int 6364136223846793005))) (.cst (.int 1442695040888963407))) (.cst (.int 2305843009213693951)))), (.ret (.bin .mod (.bin .fdiv (.ix (.var 0) (.cst (.int 1))) (.cst (.int 65536))) (.var 1)))] }
section
variable {g : Cst} {fs : List Fn} {fuel k : Nat} {S : Sto}
theorem take_at (h : fs.find? (fun f => decide (f.nm = nmTake)) = some fnTake) {n : Nat} {a b m : Int} (hS : S[n]? = some (.lst [.int a, .int b])) (ha : 0 ≤ a) (hm : 0 < m) (hm2 : m < 1073741824) :
    Op (callN g fs fuel (k + 1) nmTake [.loc .lst n, .int m] S) fun d S1 => ∃ r a' b' : Int, d = .int r ∧ 0 ≤ r ∧ r < m ∧ 0 ≤ a' ∧ S1 = S.set n (.lst [.int a', .int b']) := by
  refine callN_at h rfl ?_
  simp only [fnTake]
  have hn : n < S.length := (List.getElem?_eq_some_iff.mp hS).1
  (try simp only [WCs_cons, WCs_nil, WC_exp, WC_asg, WC_sto, WC_ret, WC_retN, WC_ife, WC_pass, WC_brk, WC_cnt, WE_var, WE_cst, WE_tup, WE_lst, WE_bin, WE_neg, WE_cmp, WE_chain, WE_is, WE_and, WE_or, WE_not, WE_ife, WE_bi, WE_isi, WE_meth, WE_ix, WE_sl, WE_rev, WO_none, WO_some, WT_and, WT_or, WT_not, WT_ife, WEs_nil, WEs_cons, WT_pl (e := .var _) rfl, WT_pl (e := .cst _) rfl, WT_pl (e := .cmp _ _ _) rfl, WT_pl (e := .chain _ _ _ _ _) rfl, WT_pl (e := .is_ _ _ _) rfl, WT_pl (e := .call _ _) rfl, WT_pl (e := .bi _ _) rfl, WT_pl (e := .isi _ _) rfl, WT_pl (e := .meth _ _ _) rfl, WT_pl (e := .ix _ _) rfl, WW_pl (e := .var _) rfl, WW_pl (e := .lst _) rfl, WW_pl (e := .tup _) rfl, WW_rng1, List.map_cons, List.map_nil, List.length_cons, List.length_nil, List.cons_append, List.nil_append, List.replicate, List.getElem?_cons_zero, List.getElem?_cons_succ, Fin_rt, Fin_nx, gc_self, asg, asgAll, List.set_cons_zero, List.set_cons_succ, Op_some, Opg_some, wkOf, Wk.items, Wk.ok, truth, isD, tyOf, bd_add, bd_sub, bd_mulr, bd_mull, bd_fdiv, bd_mod, bd_pow, cd_lt, cd_le, cd_gt, cd_ge, bi_abs, bi_max, bi_min, bi_lenS, bi_lenT, bi_lenR, bi_tupT, bi_listT, at20, at21, ixn20, ixn21, gc_set, Int.reduceLT, Int.reduceNeg, Int.reduceLE, Nat.reduceAdd, Nat.reduceLT, Nat.reduceLeDiff, pow_18, pow_9, pow_8, Op_addtup, sl_tup, Int.reduceToNat, Nat.zero_add, Nat.reduceSub, Int.reducePow, Int.reduceSub, Int.reduceMul, Int.reduceAdd, gc_int, gc_bl, gc_str, gc_tup, true_and, and_true, ix_lst hS, bd_mod hm, bd_fdiv hm hm2, set_lst hS, ix_set hn])
  by_cases h0 : 0 < a
  · simp only [decide_eq_true h0]
    exact ⟨_, _, _, rfl, Int.emod_nonneg _ (by omega), Int.emod_lt_of_pos _ hm, Int.ediv_nonneg ha (by omega), rfl⟩
  · simp only [decide_eq_false h0]
    exact ⟨_, _, _, rfl, Int.emod_nonneg _ (by omega), Int.emod_lt_of_pos _ hm, ha, rfl⟩
theorem Ex.set {n : Nat} {a b : Int} (hn : n < S.length) (ha : 0 ≤ a) : Ex n S (S.set n (.lst [.int a, .int b])) :=
  ⟨by simp, fun i h1 h2 => by rw [List.getElem?_set_ne (Ne.symm h2)], a, b, by simp [hn], ha⟩
theorem take_ok (h : fs.find? (fun f => decide (f.nm = nmTake)) = some fnTake) {n : Nat} {m : Int} (hS : FeedAt n S) (hm : 0 < m) (hm2 : m < 1073741824) :
    Op (callN g fs fuel (k + 1) nmTake [.loc .lst n, .int m] S) fun d S1 => ∃ r : Int, d = .int r ∧ 0 ≤ r ∧ r < m ∧ Ex n S S1 := by
  obtain ⟨a, b, e, ha⟩ := hS
  refine (take_at h e ha hm hm2).imp fun d S1 ⟨r, a', b', h1, h2, h3, h4, h5⟩ => ⟨r, h1, h2, h3, ?_⟩
  rw [h5]
  exact .set (List.getElem?_eq_some_iff.mp e).1 h4
theorem WE_take (h : fs.find? (fun f => decide (f.nm = nmTake)) = some fnTake) {n : Nat} {es : List E} {env : Env} {Q : D → Sto → Prop}
    (w : WEs g (callN g fs fuel (k + 1)) es env S fun ds S1 => ∃ m : Int, ds = [.loc .lst n, .int m] ∧ 0 < m ∧ m < 1073741824 ∧ n < S.length ∧ Ex n S S1 ∧ ∀ (r : Int) (S' : Sto), 0 ≤ r → r < m → Ex n S S' → Q (.int r) S') :
    WE g (callN g fs fuel (k + 1)) (.call nmTake es) env S Q := by
  rw [WE_call]
  refine Op.imp w fun ds S1 ⟨m, e, h1, h2, hn, x, q⟩ => ?_
  subst e
  refine (take_ok h x.fd h1 h2).imp fun d S2 ⟨r, e, h3, h4, x2⟩ => ?_
  subst e
  rw [gc_int]
  exact q r _ h3 h4 (gc_Ex hn (x.trans x2))
def nmPick : Str := sx [95,108,97,119,95,112,105,99,107]
def fnPick : Fn := { nm := (sx [95,108,97,119,95,112,105,99,107]), ps := [Str.ofString "feed", Str.ofString "some"], N := [Str.ofString "feed", Str.ofString "some"], body := [(.ret (.ix (.var 1) (.call (sx [95,108,97,119,95,116,97,107,101]) [(.var 0), (.bi .len [(.var 1)])])))] }
theorem atI_nat {α : Type} {xs : List α} {r : Int} (h0 : 0 ≤ r) (h1 : r < xs.length) : ∃ (i : Nat) (x : α), xs[i]? = some x ∧ L2.atI xs r = some x := by
  obtain ⟨i, rfl⟩ := Int.eq_ofNat_of_zero_le h0
  have hi : i < xs.length := by omega
  refine ⟨i, xs[i], by simp [hi], ?_⟩
  unfold L2.atI L2.ixN
  simp [hi]
theorem pick_ok (ht : fs.find? (fun f => decide (f.nm = nmTake)) = some fnTake) (hp : fs.find? (fun f => decide (f.nm = nmPick)) = some fnPick) {n m : Nat} {xs : List D} (hS : FeedAt n S) (hmn : m ≠ n) (hm : S[m]? = some (.lst xs)) (h0 : 0 < xs.length) (h1 : xs.length < 1073741824) (hd : ∀ x ∈ xs, ∀ j, x ≠ .loc .dct j) :
    Op (callN g fs fuel (k + 2) nmPick [.loc .lst n, .loc .lst m] S) fun d S1 => ∃ x, x ∈ xs ∧ Sim x d ∧ Ex n S S1 := by
  refine callN_at hp rfl ?_
  simp only [fnPick]
  simp only [WCs_cons, WC_ret, WE_ix, WE_var, List.map_cons, List.map_nil, List.length_cons, List.length_nil, List.cons_append, List.nil_append, List.replicate, List.getElem?_cons_zero, List.getElem?_cons_succ, Fin_rt]
  refine WE_take (n := n) ht ?_
  (try simp only [WCs_cons, WCs_nil, WC_exp, WC_asg, WC_sto, WC_ret, WC_retN, WC_ife, WC_pass, WC_brk, WC_cnt, WE_var, WE_cst, WE_tup, WE_lst, WE_bin, WE_neg, WE_cmp, WE_chain, WE_is, WE_and, WE_or, WE_not, WE_ife, WE_bi, WE_isi, WE_meth, WE_ix, WE_sl, WE_rev, WO_none, WO_some, WT_and, WT_or, WT_not, WT_ife, WEs_nil, WEs_cons, WT_pl (e := .var _) rfl, WT_pl (e := .cst _) rfl, WT_pl (e := .cmp _ _ _) rfl, WT_pl (e := .chain _ _ _ _ _) rfl, WT_pl (e := .is_ _ _ _) rfl, WT_pl (e := .call _ _) rfl, WT_pl (e := .bi _ _) rfl, WT_pl (e := .isi _ _) rfl, WT_pl (e := .meth _ _ _) rfl, WT_pl (e := .ix _ _) rfl, WW_pl (e := .var _) rfl, WW_pl (e := .lst _) rfl, WW_pl (e := .tup _) rfl, WW_rng1, List.map_cons, List.map_nil, List.length_cons, List.length_nil, List.cons_append, List.nil_append, List.replicate, List.getElem?_cons_zero, List.getElem?_cons_succ, Fin_rt, Fin_nx, gc_self, asg, asgAll, List.set_cons_zero, List.set_cons_succ, Op_some, Opg_some, wkOf, Wk.items, Wk.ok, truth, isD, tyOf, bd_add, bd_sub, bd_mulr, bd_mull, bd_fdiv, bd_mod, bd_pow, cd_lt, cd_le, cd_gt, cd_ge, bi_abs, bi_max, bi_min, bi_lenS, bi_lenT, bi_lenR, bi_tupT, bi_listT, at20, at21, ixn20, ixn21, gc_set, Int.reduceLT, Int.reduceNeg, Int.reduceLE, Nat.reduceAdd, Nat.reduceLT, Nat.reduceLeDiff, pow_18, pow_9, pow_8, Op_addtup, sl_tup, Int.reduceToNat, Nat.zero_add, Nat.reduceSub, Int.reducePow, Int.reduceSub, Int.reduceMul, Int.reduceAdd, gc_int, gc_bl, gc_str, gc_tup, true_and, and_true, bi_lenL hm])
  refine ⟨_, rfl, by omega, by omega, hS.lt, .refl hS, fun r S' h3 h4 x => ?_⟩
  rw [ix_lst (x.lst hmn hm)]
  obtain ⟨i, y, h5, h6⟩ := atI_nat h3 h4
  rw [h6]
  simp only
  have hy : y ∈ xs := List.mem_of_getElem? h5
  have x2 : Ex n S (gc S (y, S')).2 := gc_Ex hS.lt x
  have s1 : Sim y (gc S (y, S')).1 := gc_sim (hd y hy)
  refine ⟨y, hy, s1.trans (gc_sim fun j z => ?_), gc_Ex hS.lt x2⟩
  rcases s1 with q | ⟨a, b, q, q2⟩
  · rw [q] at z; exact hd y hy j z
  · rw [q2] at z; cases z
theorem WE_pick (ht : fs.find? (fun f => decide (f.nm = nmTake)) = some fnTake) (hp : fs.find? (fun f => decide (f.nm = nmPick)) = some fnPick) {n : Nat} {es : List E} {env : Env} {Q : D → Sto → Prop}
    (w : WEs g (callN g fs fuel (k + 2)) es env S fun ds S1 => ∃ (m : Nat) (xs : List D), ds = [.loc .lst n, .loc .lst m] ∧ m ≠ n ∧ S1[m]? = some (.lst xs) ∧ 0 < xs.length ∧ xs.length < 1073741824 ∧ (∀ x ∈ xs, ∀ j, x ≠ .loc .dct j) ∧ n < S.length ∧ Ex n S S1 ∧ ∀ (x d : D) (S' : Sto), x ∈ xs → Sim x d → Ex n S S' → Q d S') :
    WE g (callN g fs fuel (k + 2)) (.call nmPick es) env S Q := by
  rw [WE_call]
  refine Op.imp w fun ds S1 ⟨m, xs, e, h1, h2, h3, h4, h5, hn, x, q⟩ => ?_
  subst e
  refine (pick_ok ht hp x.fd h1 h2 h3 h4 h5).imp fun d S2 ⟨y, hy, s, x2⟩ => ?_
  refine q y _ _ hy (s.trans (gc_sim fun j z => ?_)) (gc_Ex hn (x.trans x2))
  rcases s with r | ⟨a, b, _, r⟩
  · rw [r] at z; exact h5 y hy j z
  · rw [r] at z; cases z
end
end CV

set_option Elab.async false
set_option linter.all false
set_option maxRecDepth 100000
set_option maxHeartbeats 4000000
/-! CvA: the draws of the first family of laws: feed, numbers, names. -/
namespace CV
open PySem
def nmFeed : Str := sx [95,108,97,119,95,102,101,101,100]
def fnFeed : Fn := { nm := (sx [95,108,97,119,95,102,101,101,100]), ps := [Str.ofString "script", Str.ofString "k"], N := [Str.ofString "script", Str.ofString "k", Str.ofString "cell", Str.ofString "digits", Str.ofString "state"], body := [(.asg (.nm 2) (.ife (.cmp .lt (.var 1) (.bi .len [(.var 0)])) (.ix (.var 0) (.var 1)) (.bin .add (.bin .mul (.cst (.int 71)) (.var 1)) (.cst (.int 23))))), (.asg (.nm 3) (.bi .max [(.cst (.int 0)), (.bin .sub (.bi .abs [(.var 2)]) (.bin .pow (.cst (.int 10)) (.cst (.int 18))))])), (.asg (.nm 4) (.bin .mod (.bin .add (.bin .add (.bin .mul (.var 2) (.cst (.int 6364136223846793005))) (.bin .mul (.cst (.int 9973)) (.var 1))) (.cst (.int 1442695040888963407))) (.cst (.int 2305843009213693951)))), (.ret (.lst [(.var 3), (.var 4)]))] }
section
variable {g : Cst} {fs : List Fn} {fuel k : Nat} {S : Sto}
theorem feed_ok (h : fs.find? (fun f => decide (f.nm = nmFeed)) = some fnFeed) {ns : List Int} {i : Int} (hi : 0 ≤ i) :
    Op (callN g fs fuel (k + 1) nmFeed [.scr ns, .int i] S) fun d S1 => ∃ a b : Int, 0 ≤ a ∧ d = .loc .lst S.length ∧ S1 = S ++ [.lst [.int a, .int b]] := by
  refine callN_at h rfl ?_
  simp only [fnFeed]
  (try simp only [WCs_cons, WCs_nil, WC_exp, WC_asg, WC_sto, WC_ret, WC_retN, WC_ife, WC_pass, WC_brk, WC_cnt, WE_var, WE_cst, WE_tup, WE_lst, WE_bin, WE_neg, WE_cmp, WE_chain, WE_is, WE_and, WE_or, WE_not, WE_ife, WE_bi, WE_isi, WE_meth, WE_ix, WE_sl, WE_rev, WO_none, WO_some, WT_and, WT_or, WT_not, WT_ife, WEs_nil, WEs_cons, WT_pl (e := .var _) rfl, WT_pl (e := .cst _) rfl, WT_pl (e := .cmp _ _ _) rfl, WT_pl (e := .chain _ _ _ _ _) rfl, WT_pl (e := .is_ _ _ _) rfl, WT_pl (e := .call _ _) rfl, WT_pl (e := .bi _ _) rfl, WT_pl (e := .isi _ _) rfl, WT_pl (e := .meth _ _ _) rfl, WT_pl (e := .ix _ _) rfl, WW_pl (e := .var _) rfl, WW_pl (e := .lst _) rfl, WW_pl (e := .tup _) rfl, WW_rng1, List.map_cons, List.map_nil, List.length_cons, List.length_nil, List.cons_append, List.nil_append, List.replicate, List.getElem?_cons_zero, List.getElem?_cons_succ, Fin_rt, Fin_nx, gc_self, asg, asgAll, List.set_cons_zero, List.set_cons_succ, Op_some, Opg_some, wkOf, Wk.items, Wk.ok, truth, isD, tyOf, bd_add, bd_sub, bd_mulr, bd_mull, bd_fdiv, bd_mod, bd_pow, cd_lt, cd_le, cd_gt, cd_ge, bi_abs, bi_max, bi_min, bi_lenS, bi_lenT, bi_lenR, bi_tupT, bi_listT, at20, at21, ixn20, ixn21, gc_set, Int.reduceLT, Int.reduceNeg, Int.reduceLE, Nat.reduceAdd, Nat.reduceLT, Nat.reduceLeDiff, pow_18, pow_9, pow_8, Op_addtup, sl_tup, Int.reduceToNat, Nat.zero_add, Nat.reduceSub, Int.reducePow, Int.reduceSub, Int.reduceMul, Int.reduceAdd, gc_int, gc_bl, gc_str, gc_tup, true_and, and_true])
  by_cases c : i < ns.length
  · simp only [decide_eq_true c]
    obtain ⟨j, x, h1, h2⟩ := atI_nat hi (show i < (ns.map D.int).length by simpa using c)
    have hx : ∃ z, x = .int z := by
      rw [List.getElem?_map] at h1
      cases q : ns[j]? with
      | none => rw [q] at h1; cases h1
      | some z => rw [q] at h1; cases h1; exact ⟨z, rfl⟩
    obtain ⟨z, rfl⟩ := hx
    have hix : ixD g (.scr ns) (.int i) S = some (.int z) := by
      simp only [ixD, seqOf]
      exact h2
    simp only [hix]
    (try simp only [WCs_cons, WCs_nil, WC_exp, WC_asg, WC_sto, WC_ret, WC_retN, WC_ife, WC_pass, WC_brk, WC_cnt, WE_var, WE_cst, WE_tup, WE_lst, WE_bin, WE_neg, WE_cmp, WE_chain, WE_is, WE_and, WE_or, WE_not, WE_ife, WE_bi, WE_isi, WE_meth, WE_ix, WE_sl, WE_rev, WO_none, WO_some, WT_and, WT_or, WT_not, WT_ife, WEs_nil, WEs_cons, WT_pl (e := .var _) rfl, WT_pl (e := .cst _) rfl, WT_pl (e := .cmp _ _ _) rfl, WT_pl (e := .chain _ _ _ _ _) rfl, WT_pl (e := .is_ _ _ _) rfl, WT_pl (e := .call _ _) rfl, WT_pl (e := .bi _ _) rfl, WT_pl (e := .isi _ _) rfl, WT_pl (e := .meth _ _ _) rfl, WT_pl (e := .ix _ _) rfl, WW_pl (e := .var _) rfl, WW_pl (e := .lst _) rfl, WW_pl (e := .tup _) rfl, WW_rng1, List.map_cons, List.map_nil, List.length_cons, List.length_nil, List.cons_append, List.nil_append, List.replicate, List.getElem?_cons_zero, List.getElem?_cons_succ, Fin_rt, Fin_nx, gc_self, asg, asgAll, List.set_cons_zero, List.set_cons_succ, Op_some, Opg_some, wkOf, Wk.items, Wk.ok, truth, isD, tyOf, bd_add, bd_sub, bd_mulr, bd_mull, bd_fdiv, bd_mod, bd_pow, cd_lt, cd_le, cd_gt, cd_ge, bi_abs, bi_max, bi_min, bi_lenS, bi_lenT, bi_lenR, bi_tupT, bi_listT, at20, at21, ixn20, ixn21, gc_set, Int.reduceLT, Int.reduceNeg, Int.reduceLE, Nat.reduceAdd, Nat.reduceLT, Nat.reduceLeDiff, pow_18, pow_9, pow_8, Op_addtup, sl_tup, Int.reduceToNat, Nat.zero_add, Nat.reduceSub, Int.reducePow, Int.reduceSub, Int.reduceMul, Int.reduceAdd, gc_int, gc_bl, gc_str, gc_tup, true_and, and_true])
    rw [gc_last]
    refine ⟨by decide, _, _, ?_, rfl, rfl⟩
    split <;> omega
  · simp only [decide_eq_false c]
    rw [gc_last]
    refine ⟨by decide, _, _, ?_, rfl, rfl⟩
    split <;> omega
def nmNumber : Str := sx [95,108,97,119,95,110,117,109,98,101,114]
def fnNumber : Fn := { nm := (sx [95,108,97,119,95,110,117,109,98,101,114]), ps := [Str.ofString "feed"], N := [Str.ofString "feed", Str.ofString "far"], body := [(.asg (.nm 1) (.lst [(.bin .sub (.bin .pow (.cst (.int 10)) (.cst (.int 9))) (.cst (.int 1))), (.bin .sub (.cst (.int 1)) (.bin .pow (.cst (.int 10)) (.cst (.int 9)))), (.bin .sub (.call (sx [95,108,97,119,95,116,97,107,101]) [(.var 0), (.bin .pow (.cst (.int 10)) (.cst (.int 9)))]) (.bin .mul (.cst (.int 5)) (.bin .pow (.cst (.int 10)) (.cst (.int 8)))))])), (.ret (.call (sx [95,108,97,119,95,112,105,99,107]) [(.var 0), (.lst [(.cst (.int 0)), (.cst (.int 1)), (.neg (.cst (.int 1))), (.call (sx [95,108,97,119,95,116,97,107,101]) [(.var 0), (.cst (.int 9))]), (.call (sx [95,108,97,119,95,116,97,107,101]) [(.var 0), (.cst (.int 60))]), (.call (sx [95,108,97,119,95,112,105,99,107]) [(.var 0), (.var 1)])])]))] }
/-- a number that is drawn -/
def Num (d : D) : Prop := ∃ r : Int, d = .int r ∧ -1000000000 < r ∧ r < 1000000000
theorem Num.nd {d : D} (h : Num d) (j : Nat) : d ≠ .loc .dct j := by
  obtain ⟨r, rfl, _⟩ := h
  intro z
  cases z
theorem Num.sim {x d : D} (h : Num x) (s : Sim x d) : d = x := by
  obtain ⟨r, rfl, _⟩ := h
  rcases s with e | ⟨a, b, e, _⟩
  · exact e
  · cases e
theorem number_ok (ht : fs.find? (fun f => decide (f.nm = nmTake)) = some fnTake) (hp : fs.find? (fun f => decide (f.nm = nmPick)) = some fnPick) (h : fs.find? (fun f => decide (f.nm = nmNumber)) = some fnNumber) {n : Nat} (hS : FeedAt n S) :
    Op (callN g fs fuel (k + 3) nmNumber [.loc .lst n] S) fun d S1 => Num d ∧ Ex n S S1 := by
  refine callN_at h rfl ?_
  simp only [fnNumber]
  (try simp only [WCs_cons, WCs_nil, WC_exp, WC_asg, WC_sto, WC_ret, WC_retN, WC_ife, WC_pass, WC_brk, WC_cnt, WE_var, WE_cst, WE_tup, WE_lst, WE_bin, WE_neg, WE_cmp, WE_chain, WE_is, WE_and, WE_or, WE_not, WE_ife, WE_bi, WE_isi, WE_meth, WE_ix, WE_sl, WE_rev, WO_none, WO_some, WT_and, WT_or, WT_not, WT_ife, WEs_nil, WEs_cons, WT_pl (e := .var _) rfl, WT_pl (e := .cst _) rfl, WT_pl (e := .cmp _ _ _) rfl, WT_pl (e := .chain _ _ _ _ _) rfl, WT_pl (e := .is_ _ _ _) rfl, WT_pl (e := .call _ _) rfl, WT_pl (e := .bi _ _) rfl, WT_pl (e := .isi _ _) rfl, WT_pl (e := .meth _ _ _) rfl, WT_pl (e := .ix _ _) rfl, WW_pl (e := .var _) rfl, WW_pl (e := .lst _) rfl, WW_pl (e := .tup _) rfl, WW_rng1, List.map_cons, List.map_nil, List.length_cons, List.length_nil, List.cons_append, List.nil_append, List.replicate, List.getElem?_cons_zero, List.getElem?_cons_succ, Fin_rt, Fin_nx, gc_self, asg, asgAll, List.set_cons_zero, List.set_cons_succ, Op_some, Opg_some, wkOf, Wk.items, Wk.ok, truth, isD, tyOf, bd_add, bd_sub, bd_mulr, bd_mull, bd_fdiv, bd_mod, bd_pow, cd_lt, cd_le, cd_gt, cd_ge, bi_abs, bi_max, bi_min, bi_lenS, bi_lenT, bi_lenR, bi_tupT, bi_listT, at20, at21, ixn20, ixn21, gc_set, Int.reduceLT, Int.reduceNeg, Int.reduceLE, Nat.reduceAdd, Nat.reduceLT, Nat.reduceLeDiff, pow_18, pow_9, pow_8, Op_addtup, sl_tup, Int.reduceToNat, Nat.zero_add, Nat.reduceSub, Int.reducePow, Int.reduceSub, Int.reduceMul, Int.reduceAdd, gc_int, gc_bl, gc_str, gc_tup, true_and, and_true])
  refine WE_take (n := n) ht ?_
  (try simp only [WCs_cons, WCs_nil, WC_exp, WC_asg, WC_sto, WC_ret, WC_retN, WC_ife, WC_pass, WC_brk, WC_cnt, WE_var, WE_cst, WE_tup, WE_lst, WE_bin, WE_neg, WE_cmp, WE_chain, WE_is, WE_and, WE_or, WE_not, WE_ife, WE_bi, WE_isi, WE_meth, WE_ix, WE_sl, WE_rev, WO_none, WO_some, WT_and, WT_or, WT_not, WT_ife, WEs_nil, WEs_cons, WT_pl (e := .var _) rfl, WT_pl (e := .cst _) rfl, WT_pl (e := .cmp _ _ _) rfl, WT_pl (e := .chain _ _ _ _ _) rfl, WT_pl (e := .is_ _ _ _) rfl, WT_pl (e := .call _ _) rfl, WT_pl (e := .bi _ _) rfl, WT_pl (e := .isi _ _) rfl, WT_pl (e := .meth _ _ _) rfl, WT_pl (e := .ix _ _) rfl, WW_pl (e := .var _) rfl, WW_pl (e := .lst _) rfl, WW_pl (e := .tup _) rfl, WW_rng1, List.map_cons, List.map_nil, List.length_cons, List.length_nil, List.cons_append, List.nil_append, List.replicate, List.getElem?_cons_zero, List.getElem?_cons_succ, Fin_rt, Fin_nx, gc_self, asg, asgAll, List.set_cons_zero, List.set_cons_succ, Op_some, Opg_some, wkOf, Wk.items, Wk.ok, truth, isD, tyOf, bd_add, bd_sub, bd_mulr, bd_mull, bd_fdiv, bd_mod, bd_pow, cd_lt, cd_le, cd_gt, cd_ge, bi_abs, bi_max, bi_min, bi_lenS, bi_lenT, bi_lenR, bi_tupT, bi_listT, at20, at21, ixn20, ixn21, gc_set, Int.reduceLT, Int.reduceNeg, Int.reduceLE, Nat.reduceAdd, Nat.reduceLT, Nat.reduceLeDiff, pow_18, pow_9, pow_8, Op_addtup, sl_tup, Int.reduceToNat, Nat.zero_add, Nat.reduceSub, Int.reducePow, Int.reduceSub, Int.reduceMul, Int.reduceAdd, gc_int, gc_bl, gc_str, gc_tup, true_and, and_true])
  refine ⟨_, rfl, by omega, by omega, hS.lt, .refl hS, fun r S1 h1 h2 x1 => ?_⟩
  (try simp only [WCs_cons, WCs_nil, WC_exp, WC_asg, WC_sto, WC_ret, WC_retN, WC_ife, WC_pass, WC_brk, WC_cnt, WE_var, WE_cst, WE_tup, WE_lst, WE_bin, WE_neg, WE_cmp, WE_chain, WE_is, WE_and, WE_or, WE_not, WE_ife, WE_bi, WE_isi, WE_meth, WE_ix, WE_sl, WE_rev, WO_none, WO_some, WT_and, WT_or, WT_not, WT_ife, WEs_nil, WEs_cons, WT_pl (e := .var _) rfl, WT_pl (e := .cst _) rfl, WT_pl (e := .cmp _ _ _) rfl, WT_pl (e := .chain _ _ _ _ _) rfl, WT_pl (e := .is_ _ _ _) rfl, WT_pl (e := .call _ _) rfl, WT_pl (e := .bi _ _) rfl, WT_pl (e := .isi _ _) rfl, WT_pl (e := .meth _ _ _) rfl, WT_pl (e := .ix _ _) rfl, WW_pl (e := .var _) rfl, WW_pl (e := .lst _) rfl, WW_pl (e := .tup _) rfl, WW_rng1, List.map_cons, List.map_nil, List.length_cons, List.length_nil, List.cons_append, List.nil_append, List.replicate, List.getElem?_cons_zero, List.getElem?_cons_succ, Fin_rt, Fin_nx, gc_self, asg, asgAll, List.set_cons_zero, List.set_cons_succ, Op_some, Opg_some, wkOf, Wk.items, Wk.ok, truth, isD, tyOf, bd_add, bd_sub, bd_mulr, bd_mull, bd_fdiv, bd_mod, bd_pow, cd_lt, cd_le, cd_gt, cd_ge, bi_abs, bi_max, bi_min, bi_lenS, bi_lenT, bi_lenR, bi_tupT, bi_listT, at20, at21, ixn20, ixn21, gc_set, Int.reduceLT, Int.reduceNeg, Int.reduceLE, Nat.reduceAdd, Nat.reduceLT, Nat.reduceLeDiff, pow_18, pow_9, pow_8, Op_addtup, sl_tup, Int.reduceToNat, Nat.zero_add, Nat.reduceSub, Int.reducePow, Int.reduceSub, Int.reduceMul, Int.reduceAdd, gc_int, gc_bl, gc_str, gc_tup, true_and, and_true])
  have x1' := gc_Ex (d := .int (r - 500000000)) hS.lt x1
  generalize (gc S (.int (r - 500000000), S1)).2 = S1 at x1' ⊢
  clear x1
  have x1 := x1'
  refine ⟨by decide, ?_⟩
  have x2 : Ex n S (S1 ++ [.lst [.int 999999999, .int (-999999999), .int (r - 500000000)]]) := x1.app
  have hm : (S1 ++ [Ob.lst [.int 999999999, .int (-999999999), .int (r - 500000000)]])[S1.length]? = some (.lst [.int 999999999, .int (-999999999), .int (r - 500000000)]) := by simp
  have hmn : S1.length ≠ n := by have := x1.fd.lt; omega
  generalize S1 ++ [Ob.lst [.int 999999999, .int (-999999999), .int (r - 500000000)]] = T at x2 hm ⊢
  refine WE_pick (n := n) ht hp ?_
  (try simp only [WCs_cons, WCs_nil, WC_exp, WC_asg, WC_sto, WC_ret, WC_retN, WC_ife, WC_pass, WC_brk, WC_cnt, WE_var, WE_cst, WE_tup, WE_lst, WE_bin, WE_neg, WE_cmp, WE_chain, WE_is, WE_and, WE_or, WE_not, WE_ife, WE_bi, WE_isi, WE_meth, WE_ix, WE_sl, WE_rev, WO_none, WO_some, WT_and, WT_or, WT_not, WT_ife, WEs_nil, WEs_cons, WT_pl (e := .var _) rfl, WT_pl (e := .cst _) rfl, WT_pl (e := .cmp _ _ _) rfl, WT_pl (e := .chain _ _ _ _ _) rfl, WT_pl (e := .is_ _ _ _) rfl, WT_pl (e := .call _ _) rfl, WT_pl (e := .bi _ _) rfl, WT_pl (e := .isi _ _) rfl, WT_pl (e := .meth _ _ _) rfl, WT_pl (e := .ix _ _) rfl, WW_pl (e := .var _) rfl, WW_pl (e := .lst _) rfl, WW_pl (e := .tup _) rfl, WW_rng1, List.map_cons, List.map_nil, List.length_cons, List.length_nil, List.cons_append, List.nil_append, List.replicate, List.getElem?_cons_zero, List.getElem?_cons_succ, Fin_rt, Fin_nx, gc_self, asg, asgAll, List.set_cons_zero, List.set_cons_succ, Op_some, Opg_some, wkOf, Wk.items, Wk.ok, truth, isD, tyOf, bd_add, bd_sub, bd_mulr, bd_mull, bd_fdiv, bd_mod, bd_pow, cd_lt, cd_le, cd_gt, cd_ge, bi_abs, bi_max, bi_min, bi_lenS, bi_lenT, bi_lenR, bi_tupT, bi_listT, at20, at21, ixn20, ixn21, gc_set, Int.reduceLT, Int.reduceNeg, Int.reduceLE, Nat.reduceAdd, Nat.reduceLT, Nat.reduceLeDiff, pow_18, pow_9, pow_8, Op_addtup, sl_tup, Int.reduceToNat, Nat.zero_add, Nat.reduceSub, Int.reducePow, Int.reduceSub, Int.reduceMul, Int.reduceAdd, gc_int, gc_bl, gc_str, gc_tup, true_and, and_true])
  refine WE_take (n := n) ht ?_
  (try simp only [WCs_cons, WCs_nil, WC_exp, WC_asg, WC_sto, WC_ret, WC_retN, WC_ife, WC_pass, WC_brk, WC_cnt, WE_var, WE_cst, WE_tup, WE_lst, WE_bin, WE_neg, WE_cmp, WE_chain, WE_is, WE_and, WE_or, WE_not, WE_ife, WE_bi, WE_isi, WE_meth, WE_ix, WE_sl, WE_rev, WO_none, WO_some, WT_and, WT_or, WT_not, WT_ife, WEs_nil, WEs_cons, WT_pl (e := .var _) rfl, WT_pl (e := .cst _) rfl, WT_pl (e := .cmp _ _ _) rfl, WT_pl (e := .chain _ _ _ _ _) rfl, WT_pl (e := .is_ _ _ _) rfl, WT_pl (e := .call _ _) rfl, WT_pl (e := .bi _ _) rfl, WT_pl (e := .isi _ _) rfl, WT_pl (e := .meth _ _ _) rfl, WT_pl (e := .ix _ _) rfl, WW_pl (e := .var _) rfl, WW_pl (e := .lst _) rfl, WW_pl (e := .tup _) rfl, WW_rng1, List.map_cons, List.map_nil, List.length_cons, List.length_nil, List.cons_append, List.nil_append, List.replicate, List.getElem?_cons_zero, List.getElem?_cons_succ, Fin_rt, Fin_nx, gc_self, asg, asgAll, List.set_cons_zero, List.set_cons_succ, Op_some, Opg_some, wkOf, Wk.items, Wk.ok, truth, isD, tyOf, bd_add, bd_sub, bd_mulr, bd_mull, bd_fdiv, bd_mod, bd_pow, cd_lt, cd_le, cd_gt, cd_ge, bi_abs, bi_max, bi_min, bi_lenS, bi_lenT, bi_lenR, bi_tupT, bi_listT, at20, at21, ixn20, ixn21, gc_set, Int.reduceLT, Int.reduceNeg, Int.reduceLE, Nat.reduceAdd, Nat.reduceLT, Nat.reduceLeDiff, pow_18, pow_9, pow_8, Op_addtup, sl_tup, Int.reduceToNat, Nat.zero_add, Nat.reduceSub, Int.reducePow, Int.reduceSub, Int.reduceMul, Int.reduceAdd, gc_int, gc_bl, gc_str, gc_tup, true_and, and_true])
  refine ⟨_, rfl, by omega, by omega, x2.fd.lt, .refl x2.fd, fun r2 S2 h3 h4 x3 => ?_⟩
  refine WE_take (n := n) ht ?_
  (try simp only [WCs_cons, WCs_nil, WC_exp, WC_asg, WC_sto, WC_ret, WC_retN, WC_ife, WC_pass, WC_brk, WC_cnt, WE_var, WE_cst, WE_tup, WE_lst, WE_bin, WE_neg, WE_cmp, WE_chain, WE_is, WE_and, WE_or, WE_not, WE_ife, WE_bi, WE_isi, WE_meth, WE_ix, WE_sl, WE_rev, WO_none, WO_some, WT_and, WT_or, WT_not, WT_ife, WEs_nil, WEs_cons, WT_pl (e := .var _) rfl, WT_pl (e := .cst _) rfl, WT_pl (e := .cmp _ _ _) rfl, WT_pl (e := .chain _ _ _ _ _) rfl, WT_pl (e := .is_ _ _ _) rfl, WT_pl (e := .call _ _) rfl, WT_pl (e := .bi _ _) rfl, WT_pl (e := .isi _ _) rfl, WT_pl (e := .meth _ _ _) rfl, WT_pl (e := .ix _ _) rfl, WW_pl (e := .var _) rfl, WW_pl (e := .lst _) rfl, WW_pl (e := .tup _) rfl, WW_rng1, List.map_cons, List.map_nil, List.length_cons, List.length_nil, List.cons_append, List.nil_append, List.replicate, List.getElem?_cons_zero, List.getElem?_cons_succ, Fin_rt, Fin_nx, gc_self, asg, asgAll, List.set_cons_zero, List.set_cons_succ, Op_some, Opg_some, wkOf, Wk.items, Wk.ok, truth, isD, tyOf, bd_add, bd_sub, bd_mulr, bd_mull, bd_fdiv, bd_mod, bd_pow, cd_lt, cd_le, cd_gt, cd_ge, bi_abs, bi_max, bi_min, bi_lenS, bi_lenT, bi_lenR, bi_tupT, bi_listT, at20, at21, ixn20, ixn21, gc_set, Int.reduceLT, Int.reduceNeg, Int.reduceLE, Nat.reduceAdd, Nat.reduceLT, Nat.reduceLeDiff, pow_18, pow_9, pow_8, Op_addtup, sl_tup, Int.reduceToNat, Nat.zero_add, Nat.reduceSub, Int.reducePow, Int.reduceSub, Int.reduceMul, Int.reduceAdd, gc_int, gc_bl, gc_str, gc_tup, true_and, and_true])
  refine ⟨_, rfl, by omega, by omega, x3.fd.lt, .refl x3.fd, fun r3 S3 h5 h6 x4 => ?_⟩
  refine WE_pick (n := n) ht hp ?_
  (try simp only [WCs_cons, WCs_nil, WC_exp, WC_asg, WC_sto, WC_ret, WC_retN, WC_ife, WC_pass, WC_brk, WC_cnt, WE_var, WE_cst, WE_tup, WE_lst, WE_bin, WE_neg, WE_cmp, WE_chain, WE_is, WE_and, WE_or, WE_not, WE_ife, WE_bi, WE_isi, WE_meth, WE_ix, WE_sl, WE_rev, WO_none, WO_some, WT_and, WT_or, WT_not, WT_ife, WEs_nil, WEs_cons, WT_pl (e := .var _) rfl, WT_pl (e := .cst _) rfl, WT_pl (e := .cmp _ _ _) rfl, WT_pl (e := .chain _ _ _ _ _) rfl, WT_pl (e := .is_ _ _ _) rfl, WT_pl (e := .call _ _) rfl, WT_pl (e := .bi _ _) rfl, WT_pl (e := .isi _ _) rfl, WT_pl (e := .meth _ _ _) rfl, WT_pl (e := .ix _ _) rfl, WW_pl (e := .var _) rfl, WW_pl (e := .lst _) rfl, WW_pl (e := .tup _) rfl, WW_rng1, List.map_cons, List.map_nil, List.length_cons, List.length_nil, List.cons_append, List.nil_append, List.replicate, List.getElem?_cons_zero, List.getElem?_cons_succ, Fin_rt, Fin_nx, gc_self, asg, asgAll, List.set_cons_zero, List.set_cons_succ, Op_some, Opg_some, wkOf, Wk.items, Wk.ok, truth, isD, tyOf, bd_add, bd_sub, bd_mulr, bd_mull, bd_fdiv, bd_mod, bd_pow, cd_lt, cd_le, cd_gt, cd_ge, bi_abs, bi_max, bi_min, bi_lenS, bi_lenT, bi_lenR, bi_tupT, bi_listT, at20, at21, ixn20, ixn21, gc_set, Int.reduceLT, Int.reduceNeg, Int.reduceLE, Nat.reduceAdd, Nat.reduceLT, Nat.reduceLeDiff, pow_18, pow_9, pow_8, Op_addtup, sl_tup, Int.reduceToNat, Nat.zero_add, Nat.reduceSub, Int.reducePow, Int.reduceSub, Int.reduceMul, Int.reduceAdd, gc_int, gc_bl, gc_str, gc_tup, true_and, and_true])
  have n1 : Num (.int 999999999) := ⟨_, rfl, by omega, by omega⟩
  have n2 : Num (.int (-999999999)) := ⟨_, rfl, by omega, by omega⟩
  have n3 : Num (.int (r - 500000000)) := ⟨_, rfl, by omega, by omega⟩
  have all3 : ∀ x ∈ [D.int 999999999, .int (-999999999), .int (r - 500000000)], Num x := by
    intro x hx
    simp only [List.mem_cons, List.not_mem_nil, or_false] at hx
    rcases hx with rfl | rfl | rfl
    · exact n1
    · exact n2
    · exact n3
  refine ⟨_, _, rfl, hmn, (x3.trans x4).lst hmn hm, by simp, by simp, fun x hx j => (all3 x hx).nd j, x4.fd.lt, .refl x4.fd, fun x d S4 hx hs x5 => ?_⟩
  have nx := all3 x hx
  have ed := nx.sim hs
  subst ed
  have x6 := (x3.trans x4).trans x5
  have all6 : ∀ y ∈ [D.int 0, .int 1, .int (-1), .int r2, .int r3, d], Num y := by
    intro y hy
    simp only [List.mem_cons, List.not_mem_nil, or_false] at hy
    rcases hy with rfl | rfl | rfl | rfl | rfl | rfl
    · exact ⟨_, rfl, by omega, by omega⟩
    · exact ⟨_, rfl, by omega, by omega⟩
    · exact ⟨_, rfl, by omega, by omega⟩
    · exact ⟨_, rfl, by omega, by omega⟩
    · exact ⟨_, rfl, by omega, by omega⟩
    · exact nx
  refine ⟨by decide, S4.length, _, rfl, by have := x6.fd.lt; omega, by simp, by simp, by simp, fun y hy j => (all6 y hy).nd j, x2.fd.lt, x6.app, fun y d2 S5 hy hs2 x7 => ?_⟩
  have ny := all6 y hy
  have ed := ny.sim hs2
  subst ed
  have x8 := x2.trans x7
  refine ⟨?_, gc_Ex hS.lt x8⟩
  obtain ⟨q, rfl, q1, q2⟩ := ny
  rw [gc_int]
  exact ⟨q, rfl, q1, q2⟩
theorem WE_number (ht : fs.find? (fun f => decide (f.nm = nmTake)) = some fnTake) (hp : fs.find? (fun f => decide (f.nm = nmPick)) = some fnPick) (h : fs.find? (fun f => decide (f.nm = nmNumber)) = some fnNumber) {n : Nat} {es : List E} {env : Env} {Q : D → Sto → Prop}
    (w : WEs g (callN g fs fuel (k + 3)) es env S fun ds S1 => ds = [.loc .lst n] ∧ n < S.length ∧ Ex n S S1 ∧ ∀ (d : D) (S' : Sto), Num d → Ex n S S' → Q d S') :
    WE g (callN g fs fuel (k + 3)) (.call nmNumber es) env S Q := by
  rw [WE_call]
  refine Op.imp w fun ds S1 ⟨e, hn, x, q⟩ => ?_
  subst e
  refine (number_ok ht hp h x.fd).imp fun d S2 ⟨hd, x2⟩ => ?_
  obtain ⟨r, rfl, h1, h2⟩ := hd
  rw [gc_int]
  exact q _ _ ⟨r, rfl, h1, h2⟩ (gc_Ex hn (x.trans x2))

theorem evE_of {F : FT} {e : E} {env : Env} {v : D} (h : WE g F e env S fun d S1 => d = v ∧ S1 = S) : evE g F e env S = some (v, S) := by
  obtain ⟨d, S1, e1, rfl, rfl⟩ := Op.ex h
  exact e1
theorem evT_of {F : FT} {e : E} {env : Env} {v : Bool} (h : WT g F e env S fun d S1 => d = v ∧ S1 = S) : evT g F e env S = some (v, S) := by
  obtain ⟨d, S1, e1, rfl, rfl⟩ := Op.ex h
  exact e1
theorem WE_lc_pure {F : FT} {elt it : E} {t : T} {ifs : List E} {own : List Nat} {env : Env} {Q : D → Sto → Prop} (p : D → Bool) (f : D → D)
    (h : WW g F it env S fun w S1 => w.ok S1 = true ∧ (∀ x ∈ w.items, ∃ env1, asg t x (wipeD env own) S1 = some env1 ∧ evIfs g F ifs env1 S1 = some (p x, S1) ∧ (p x = true → WE g F elt env1 S1 fun d S2 => d = f x ∧ S2 = S1)) ∧ w.items.length ≤ cap ∧
      Q (gc S (.loc .lst S1.length, S1 ++ [.lst ((w.items.filter p).map f)])).1 (gc S (.loc .lst S1.length, S1 ++ [.lst ((w.items.filter p).map f)])).2) : WE g F (.lc elt t it ifs own) env S Q := by
  obtain ⟨w, S1, e, h1, h2, h3, q⟩ := Op.ex h
  unfold WE
  rw [evE, e]
  simp only
  rw [lcLoop_pure h1 w.items [] (fun x hx => by
    obtain ⟨env1, a1, a2, a3⟩ := h2 x hx
    exact ⟨env1, a1, a2, fun hp => evE_of (a3 hp)⟩) (by simpa using h3)]
  exact q
theorem ifs_nil {F : FT} {env : Env} : evIfs g F [] env S = some (true, S) := by rw [evIfs]
theorem ifs_one {F : FT} {e : E} {env : Env} {b : Bool} (h : WT g F e env S fun d S1 => d = b ∧ S1 = S) : evIfs g F [e] env S = some (b, S) := by
  rw [evIfs]
  exact evT_of h
/-- a name -/
def IsNm (z : Str) : Prop := 1 ≤ z.cps.toList.length ∧ z.cps.toList.length ≤ 8 ∧ ∀ c ∈ z.cps.toList, 97 ≤ c ∧ c ≤ 122
def abc : Str := sx [97,98,99,100,101,102,103,104,105,106,107,108,109,110,111,112,113,114,115,116,117,118,119,120,121,122]
theorem abc_at {r : Int} (h0 : 0 ≤ r) (h1 : r < 26) : L2.atI abc.cps.toList r = some (97 + r.toNat) := by
  obtain ⟨i, rfl⟩ := Int.eq_ofNat_of_zero_le h0
  have hi : i < 26 := by omega
  have key : ∀ j : _root_.Fin 26, L2.atI abc.cps.toList ((j.val : Nat) : Int) = some (97 + j.val) := by decide +kernel
  exact key ⟨i, hi⟩
theorem abc_mem {c : Nat} : c ∈ abc.cps.toList ↔ 97 ≤ c ∧ c ≤ 122 := by
  constructor
  · intro h
    have key : ∀ d ∈ abc.cps.toList, 97 ≤ d ∧ d ≤ 122 := by decide +kernel
    exact key c h
  · rintro ⟨h1, h2⟩
    have key : ∀ j : _root_.Fin 26, 97 + j.val ∈ abc.cps.toList := by decide +kernel
    have := key ⟨c - 97, by omega⟩
    have e : 97 + (c - 97) = c := by omega
    simpa [e] using this
theorem mul_list {c : Nat} {r : Int} (h0 : 0 ≤ r) (h1 : r < 8) : (Txt.mul ⟨#[c]⟩ r).cps.toList = List.replicate r.toNat c := by
  have h : r = 0 ∨ r = 1 ∨ r = 2 ∨ r = 3 ∨ r = 4 ∨ r = 5 ∨ r = 6 ∨ r = 7 := by omega
  rcases h with rfl | rfl | rfl | rfl | rfl | rfl | rfl | rfl <;> rfl
theorem app_list {x y : Str} : (x ++ y).cps.toList = x.cps.toList ++ y.cps.toList := by
  show (x.cps ++ y.cps).toList = _
  simp
def nmNames : Str := sx [95,108,97,119,95,110,97,109,101,115]
def fnNames : Fn := { nm := (sx [95,108,97,119,95,110,97,109,101,115]), ps := [Str.ofString "feed", Str.ofString "many"], N := [Str.ofString "feed", Str.ofString "many", Str.ofString "letters", Str.ofString "first", Str.ofString "tail", Str.ofString "k"], body := [(.asg (.nm 2) (.cst (.str (sx [97,98,99,100,101,102,103,104,105,106,107,108,109,110,111,112,113,114,115,116,117,118,119,120,121,122])))), (.asg (.nm 3) (.call (sx [95,108,97,119,95,116,97,107,101]) [(.var 0), (.cst (.int 26))])), (.asg (.nm 4) (.bin .mul (.ix (.var 2) (.call (sx [95,108,97,119,95,116,97,107,101]) [(.var 0), (.cst (.int 26))])) (.call (sx [95,108,97,119,95,116,97,107,101]) [(.var 0), (.cst (.int 8))]))), (.ret (.lc (.bin .add (.ix (.var 2) (.bin .mod (.bin .add (.var 3) (.bin .mul (.cst (.int 5)) (.var 5))) (.cst (.int 26)))) (.var 4)) (.nm 5) (.rng [(.var 1)]) [] [5]))] }
section
variable {g : Cst} {fs : List Fn} {fuel k : Nat} {S : Sto}
theorem ix_str {c : Str} {r : Int} : ixD g (.str c) (.int r) S = (L2.atI c.cps.toList r).map fun c => .str ⟨#[c]⟩ := rfl
theorem bd_mulstr {c : Nat} {r : Int} (h0 : 0 ≤ r) (h1 : r < 8) : binD .mul (.str ⟨#[c]⟩) (.int r) S = some (.str (Txt.mul ⟨#[c]⟩ r), S) := by
  have hl : (⟨#[c]⟩ : Str).length = 1 := rfl
  have hc : 1 * r.toNat ≤ cap := by unfold cap; omega
  simp only [binD, hl]
  rw [if_pos]
  simp only [Bool.and_eq_true, decide_eq_true_eq]
  exact ⟨⟨by omega, by omega⟩, hc⟩
theorem bd_addstr {x y : Str} (h : x.length + y.length ≤ cap) : binD .add (.str x) (.str y) S = some (.str (x ++ y), S) := by simp [binD, h]
theorem str_len {x : Str} : x.length = x.cps.toList.length := by simp [Str.length]
def nmF (r1 : Int) (tail : Str) : D → D
  | .int k => .str (⟨#[97 + ((r1 + 5 * k) % 26).toNat]⟩ ++ tail)
  | d => d
theorem names_ok (ht : fs.find? (fun f => decide (f.nm = nmTake)) = some fnTake) (h : fs.find? (fun f => decide (f.nm = nmNames)) = some fnNames) {n : Nat} {m : Int} (hS : FeedAt n S) (hm0 : 0 ≤ m) (hm1 : m ≤ 1000) :
    Op (callN g fs fuel (k + 2) nmNames [.loc .lst n, .int m] S) fun d S1 => ∃ j xs, d = .loc .lst j ∧ S.length ≤ j ∧ S1[j]? = some (.lst xs) ∧ xs.length = m.toNat ∧ (∀ x ∈ xs, ∃ z, x = .str z ∧ IsNm z) ∧ Ex n S S1 := by
  refine callN_at h rfl ?_
  simp only [fnNames]
  (try simp only [WCs_cons, WCs_nil, WC_exp, WC_asg, WC_sto, WC_ret, WC_retN, WC_ife, WC_pass, WC_brk, WC_cnt, WE_var, WE_cst, WE_tup, WE_lst, WE_bin, WE_neg, WE_cmp, WE_chain, WE_is, WE_and, WE_or, WE_not, WE_ife, WE_bi, WE_isi, WE_meth, WE_ix, WE_sl, WE_rev, WO_none, WO_some, WT_and, WT_or, WT_not, WT_ife, WEs_nil, WEs_cons, WT_pl (e := .var _) rfl, WT_pl (e := .cst _) rfl, WT_pl (e := .cmp _ _ _) rfl, WT_pl (e := .chain _ _ _ _ _) rfl, WT_pl (e := .is_ _ _ _) rfl, WT_pl (e := .call _ _) rfl, WT_pl (e := .bi _ _) rfl, WT_pl (e := .isi _ _) rfl, WT_pl (e := .meth _ _ _) rfl, WT_pl (e := .ix _ _) rfl, WW_pl (e := .var _) rfl, WW_pl (e := .lst _) rfl, WW_pl (e := .tup _) rfl, WW_rng1, List.map_cons, List.map_nil, List.length_cons, List.length_nil, List.cons_append, List.nil_append, List.replicate, List.getElem?_cons_zero, List.getElem?_cons_succ, Fin_rt, Fin_nx, gc_self, asg, asgAll, List.set_cons_zero, List.set_cons_succ, Op_some, Opg_some, wkOf, Wk.items, Wk.ok, truth, isD, tyOf, bd_add, bd_sub, bd_mulr, bd_mull, bd_fdiv, bd_mod, bd_pow, cd_lt, cd_le, cd_gt, cd_ge, bi_abs, bi_max, bi_min, bi_lenS, bi_lenT, bi_lenR, bi_tupT, bi_listT, at20, at21, ixn20, ixn21, gc_set, Int.reduceLT, Int.reduceNeg, Int.reduceLE, Nat.reduceAdd, Nat.reduceLT, Nat.reduceLeDiff, pow_18, pow_9, pow_8, Op_addtup, sl_tup, Int.reduceToNat, Nat.zero_add, Nat.reduceSub, Int.reducePow, Int.reduceSub, Int.reduceMul, Int.reduceAdd, gc_int, gc_bl, gc_str, gc_tup, true_and, and_true])
  refine WE_take (n := n) ht ?_
  (try simp only [WCs_cons, WCs_nil, WC_exp, WC_asg, WC_sto, WC_ret, WC_retN, WC_ife, WC_pass, WC_brk, WC_cnt, WE_var, WE_cst, WE_tup, WE_lst, WE_bin, WE_neg, WE_cmp, WE_chain, WE_is, WE_and, WE_or, WE_not, WE_ife, WE_bi, WE_isi, WE_meth, WE_ix, WE_sl, WE_rev, WO_none, WO_some, WT_and, WT_or, WT_not, WT_ife, WEs_nil, WEs_cons, WT_pl (e := .var _) rfl, WT_pl (e := .cst _) rfl, WT_pl (e := .cmp _ _ _) rfl, WT_pl (e := .chain _ _ _ _ _) rfl, WT_pl (e := .is_ _ _ _) rfl, WT_pl (e := .call _ _) rfl, WT_pl (e := .bi _ _) rfl, WT_pl (e := .isi _ _) rfl, WT_pl (e := .meth _ _ _) rfl, WT_pl (e := .ix _ _) rfl, WW_pl (e := .var _) rfl, WW_pl (e := .lst _) rfl, WW_pl (e := .tup _) rfl, WW_rng1, List.map_cons, List.map_nil, List.length_cons, List.length_nil, List.cons_append, List.nil_append, List.replicate, List.getElem?_cons_zero, List.getElem?_cons_succ, Fin_rt, Fin_nx, gc_self, asg, asgAll, List.set_cons_zero, List.set_cons_succ, Op_some, Opg_some, wkOf, Wk.items, Wk.ok, truth, isD, tyOf, bd_add, bd_sub, bd_mulr, bd_mull, bd_fdiv, bd_mod, bd_pow, cd_lt, cd_le, cd_gt, cd_ge, bi_abs, bi_max, bi_min, bi_lenS, bi_lenT, bi_lenR, bi_tupT, bi_listT, at20, at21, ixn20, ixn21, gc_set, Int.reduceLT, Int.reduceNeg, Int.reduceLE, Nat.reduceAdd, Nat.reduceLT, Nat.reduceLeDiff, pow_18, pow_9, pow_8, Op_addtup, sl_tup, Int.reduceToNat, Nat.zero_add, Nat.reduceSub, Int.reducePow, Int.reduceSub, Int.reduceMul, Int.reduceAdd, gc_int, gc_bl, gc_str, gc_tup, true_and, and_true])
  refine ⟨_, rfl, by omega, by omega, hS.lt, .refl hS, fun r1 S1 h1 h2 x1 => ?_⟩
  refine WE_take (n := n) ht ?_
  (try simp only [WCs_cons, WCs_nil, WC_exp, WC_asg, WC_sto, WC_ret, WC_retN, WC_ife, WC_pass, WC_brk, WC_cnt, WE_var, WE_cst, WE_tup, WE_lst, WE_bin, WE_neg, WE_cmp, WE_chain, WE_is, WE_and, WE_or, WE_not, WE_ife, WE_bi, WE_isi, WE_meth, WE_ix, WE_sl, WE_rev, WO_none, WO_some, WT_and, WT_or, WT_not, WT_ife, WEs_nil, WEs_cons, WT_pl (e := .var _) rfl, WT_pl (e := .cst _) rfl, WT_pl (e := .cmp _ _ _) rfl, WT_pl (e := .chain _ _ _ _ _) rfl, WT_pl (e := .is_ _ _ _) rfl, WT_pl (e := .call _ _) rfl, WT_pl (e := .bi _ _) rfl, WT_pl (e := .isi _ _) rfl, WT_pl (e := .meth _ _ _) rfl, WT_pl (e := .ix _ _) rfl, WW_pl (e := .var _) rfl, WW_pl (e := .lst _) rfl, WW_pl (e := .tup _) rfl, WW_rng1, List.map_cons, List.map_nil, List.length_cons, List.length_nil, List.cons_append, List.nil_append, List.replicate, List.getElem?_cons_zero, List.getElem?_cons_succ, Fin_rt, Fin_nx, gc_self, asg, asgAll, List.set_cons_zero, List.set_cons_succ, Op_some, Opg_some, wkOf, Wk.items, Wk.ok, truth, isD, tyOf, bd_add, bd_sub, bd_mulr, bd_mull, bd_fdiv, bd_mod, bd_pow, cd_lt, cd_le, cd_gt, cd_ge, bi_abs, bi_max, bi_min, bi_lenS, bi_lenT, bi_lenR, bi_tupT, bi_listT, at20, at21, ixn20, ixn21, gc_set, Int.reduceLT, Int.reduceNeg, Int.reduceLE, Nat.reduceAdd, Nat.reduceLT, Nat.reduceLeDiff, pow_18, pow_9, pow_8, Op_addtup, sl_tup, Int.reduceToNat, Nat.zero_add, Nat.reduceSub, Int.reducePow, Int.reduceSub, Int.reduceMul, Int.reduceAdd, gc_int, gc_bl, gc_str, gc_tup, true_and, and_true])
  refine ⟨_, rfl, by omega, by omega, x1.fd.lt, .refl x1.fd, fun r2 S2 h3 h4 x2 => ?_⟩
  rw [ix_str, show sx [97,98,99,100,101,102,103,104,105,106,107,108,109,110,111,112,113,114,115,116,117,118,119,120,121,122] = abc from rfl, abc_at h3 h4]
  (try simp only [WCs_cons, WCs_nil, WC_exp, WC_asg, WC_sto, WC_ret, WC_retN, WC_ife, WC_pass, WC_brk, WC_cnt, WE_var, WE_cst, WE_tup, WE_lst, WE_bin, WE_neg, WE_cmp, WE_chain, WE_is, WE_and, WE_or, WE_not, WE_ife, WE_bi, WE_isi, WE_meth, WE_ix, WE_sl, WE_rev, WO_none, WO_some, WT_and, WT_or, WT_not, WT_ife, WEs_nil, WEs_cons, WT_pl (e := .var _) rfl, WT_pl (e := .cst _) rfl, WT_pl (e := .cmp _ _ _) rfl, WT_pl (e := .chain _ _ _ _ _) rfl, WT_pl (e := .is_ _ _ _) rfl, WT_pl (e := .call _ _) rfl, WT_pl (e := .bi _ _) rfl, WT_pl (e := .isi _ _) rfl, WT_pl (e := .meth _ _ _) rfl, WT_pl (e := .ix _ _) rfl, WW_pl (e := .var _) rfl, WW_pl (e := .lst _) rfl, WW_pl (e := .tup _) rfl, WW_rng1, List.map_cons, List.map_nil, List.length_cons, List.length_nil, List.cons_append, List.nil_append, List.replicate, List.getElem?_cons_zero, List.getElem?_cons_succ, Fin_rt, Fin_nx, gc_self, asg, asgAll, List.set_cons_zero, List.set_cons_succ, Op_some, Opg_some, wkOf, Wk.items, Wk.ok, truth, isD, tyOf, bd_add, bd_sub, bd_mulr, bd_mull, bd_fdiv, bd_mod, bd_pow, cd_lt, cd_le, cd_gt, cd_ge, bi_abs, bi_max, bi_min, bi_lenS, bi_lenT, bi_lenR, bi_tupT, bi_listT, at20, at21, ixn20, ixn21, gc_set, Int.reduceLT, Int.reduceNeg, Int.reduceLE, Nat.reduceAdd, Nat.reduceLT, Nat.reduceLeDiff, pow_18, pow_9, pow_8, Op_addtup, sl_tup, Int.reduceToNat, Nat.zero_add, Nat.reduceSub, Int.reducePow, Int.reduceSub, Int.reduceMul, Int.reduceAdd, gc_int, gc_bl, gc_str, gc_tup, true_and, and_true, Option.map_some])
  have x2' := gc_Ex (d := .str ⟨#[97 + r2.toNat]⟩) x1.fd.lt x2
  generalize (gc S1 (.str ⟨#[97 + r2.toNat]⟩, S2)).2 = S2 at x2' ⊢
  refine WE_take (n := n) ht ?_
  (try simp only [WCs_cons, WCs_nil, WC_exp, WC_asg, WC_sto, WC_ret, WC_retN, WC_ife, WC_pass, WC_brk, WC_cnt, WE_var, WE_cst, WE_tup, WE_lst, WE_bin, WE_neg, WE_cmp, WE_chain, WE_is, WE_and, WE_or, WE_not, WE_ife, WE_bi, WE_isi, WE_meth, WE_ix, WE_sl, WE_rev, WO_none, WO_some, WT_and, WT_or, WT_not, WT_ife, WEs_nil, WEs_cons, WT_pl (e := .var _) rfl, WT_pl (e := .cst _) rfl, WT_pl (e := .cmp _ _ _) rfl, WT_pl (e := .chain _ _ _ _ _) rfl, WT_pl (e := .is_ _ _ _) rfl, WT_pl (e := .call _ _) rfl, WT_pl (e := .bi _ _) rfl, WT_pl (e := .isi _ _) rfl, WT_pl (e := .meth _ _ _) rfl, WT_pl (e := .ix _ _) rfl, WW_pl (e := .var _) rfl, WW_pl (e := .lst _) rfl, WW_pl (e := .tup _) rfl, WW_rng1, List.map_cons, List.map_nil, List.length_cons, List.length_nil, List.cons_append, List.nil_append, List.replicate, List.getElem?_cons_zero, List.getElem?_cons_succ, Fin_rt, Fin_nx, gc_self, asg, asgAll, List.set_cons_zero, List.set_cons_succ, Op_some, Opg_some, wkOf, Wk.items, Wk.ok, truth, isD, tyOf, bd_add, bd_sub, bd_mulr, bd_mull, bd_fdiv, bd_mod, bd_pow, cd_lt, cd_le, cd_gt, cd_ge, bi_abs, bi_max, bi_min, bi_lenS, bi_lenT, bi_lenR, bi_tupT, bi_listT, at20, at21, ixn20, ixn21, gc_set, Int.reduceLT, Int.reduceNeg, Int.reduceLE, Nat.reduceAdd, Nat.reduceLT, Nat.reduceLeDiff, pow_18, pow_9, pow_8, Op_addtup, sl_tup, Int.reduceToNat, Nat.zero_add, Nat.reduceSub, Int.reducePow, Int.reduceSub, Int.reduceMul, Int.reduceAdd, gc_int, gc_bl, gc_str, gc_tup, true_and, and_true])
  refine ⟨_, rfl, by omega, by omega, x2'.fd.lt, .refl x2'.fd, fun r3 S3 h5 h6 x3 => ?_⟩
  rw [bd_mulstr h5 h6]
  (try simp only [WCs_cons, WCs_nil, WC_exp, WC_asg, WC_sto, WC_ret, WC_retN, WC_ife, WC_pass, WC_brk, WC_cnt, WE_var, WE_cst, WE_tup, WE_lst, WE_bin, WE_neg, WE_cmp, WE_chain, WE_is, WE_and, WE_or, WE_not, WE_ife, WE_bi, WE_isi, WE_meth, WE_ix, WE_sl, WE_rev, WO_none, WO_some, WT_and, WT_or, WT_not, WT_ife, WEs_nil, WEs_cons, WT_pl (e := .var _) rfl, WT_pl (e := .cst _) rfl, WT_pl (e := .cmp _ _ _) rfl, WT_pl (e := .chain _ _ _ _ _) rfl, WT_pl (e := .is_ _ _ _) rfl, WT_pl (e := .call _ _) rfl, WT_pl (e := .bi _ _) rfl, WT_pl (e := .isi _ _) rfl, WT_pl (e := .meth _ _ _) rfl, WT_pl (e := .ix _ _) rfl, WW_pl (e := .var _) rfl, WW_pl (e := .lst _) rfl, WW_pl (e := .tup _) rfl, WW_rng1, List.map_cons, List.map_nil, List.length_cons, List.length_nil, List.cons_append, List.nil_append, List.replicate, List.getElem?_cons_zero, List.getElem?_cons_succ, Fin_rt, Fin_nx, gc_self, asg, asgAll, List.set_cons_zero, List.set_cons_succ, Op_some, Opg_some, wkOf, Wk.items, Wk.ok, truth, isD, tyOf, bd_add, bd_sub, bd_mulr, bd_mull, bd_fdiv, bd_mod, bd_pow, cd_lt, cd_le, cd_gt, cd_ge, bi_abs, bi_max, bi_min, bi_lenS, bi_lenT, bi_lenR, bi_tupT, bi_listT, at20, at21, ixn20, ixn21, gc_set, Int.reduceLT, Int.reduceNeg, Int.reduceLE, Nat.reduceAdd, Nat.reduceLT, Nat.reduceLeDiff, pow_18, pow_9, pow_8, Op_addtup, sl_tup, Int.reduceToNat, Nat.zero_add, Nat.reduceSub, Int.reducePow, Int.reduceSub, Int.reduceMul, Int.reduceAdd, gc_int, gc_bl, gc_str, gc_tup, true_and, and_true])
  have x3' := gc_Ex (d := .str (Txt.mul ⟨#[97 + r2.toNat]⟩ r3)) x1.fd.lt (x2'.trans x3)
  generalize (gc S1 (.str (Txt.mul ⟨#[97 + r2.toNat]⟩ r3), S3)).2 = S4 at x3' ⊢
  refine WE_lc_pure (fun _ => true) (nmF r1 (Txt.mul ⟨#[97 + r2.toNat]⟩ r3)) ?_
  (try simp only [WCs_cons, WCs_nil, WC_exp, WC_asg, WC_sto, WC_ret, WC_retN, WC_ife, WC_pass, WC_brk, WC_cnt, WE_var, WE_cst, WE_tup, WE_lst, WE_bin, WE_neg, WE_cmp, WE_chain, WE_is, WE_and, WE_or, WE_not, WE_ife, WE_bi, WE_isi, WE_meth, WE_ix, WE_sl, WE_rev, WO_none, WO_some, WT_and, WT_or, WT_not, WT_ife, WEs_nil, WEs_cons, WT_pl (e := .var _) rfl, WT_pl (e := .cst _) rfl, WT_pl (e := .cmp _ _ _) rfl, WT_pl (e := .chain _ _ _ _ _) rfl, WT_pl (e := .is_ _ _ _) rfl, WT_pl (e := .call _ _) rfl, WT_pl (e := .bi _ _) rfl, WT_pl (e := .isi _ _) rfl, WT_pl (e := .meth _ _ _) rfl, WT_pl (e := .ix _ _) rfl, WW_pl (e := .var _) rfl, WW_pl (e := .lst _) rfl, WW_pl (e := .tup _) rfl, WW_rng1, List.map_cons, List.map_nil, List.length_cons, List.length_nil, List.cons_append, List.nil_append, List.replicate, List.getElem?_cons_zero, List.getElem?_cons_succ, Fin_rt, Fin_nx, gc_self, asg, asgAll, List.set_cons_zero, List.set_cons_succ, Op_some, Opg_some, wkOf, Wk.items, Wk.ok, truth, isD, tyOf, bd_add, bd_sub, bd_mulr, bd_mull, bd_fdiv, bd_mod, bd_pow, cd_lt, cd_le, cd_gt, cd_ge, bi_abs, bi_max, bi_min, bi_lenS, bi_lenT, bi_lenR, bi_tupT, bi_listT, at20, at21, ixn20, ixn21, gc_set, Int.reduceLT, Int.reduceNeg, Int.reduceLE, Nat.reduceAdd, Nat.reduceLT, Nat.reduceLeDiff, pow_18, pow_9, pow_8, Op_addtup, sl_tup, Int.reduceToNat, Nat.zero_add, Nat.reduceSub, Int.reducePow, Int.reduceSub, Int.reduceMul, Int.reduceAdd, gc_int, gc_bl, gc_str, gc_tup, true_and, and_true])
  refine ⟨⟨by omega, by omega⟩, fun x hx => ?_, ?_, ?_⟩
  · unfold rngItems at hx
    obtain ⟨i, hi, rfl⟩ := List.mem_map.mp hx
    refine ⟨_, rfl, ifs_nil, fun _ => ?_⟩
    (try simp only [WCs_cons, WCs_nil, WC_exp, WC_asg, WC_sto, WC_ret, WC_retN, WC_ife, WC_pass, WC_brk, WC_cnt, WE_var, WE_cst, WE_tup, WE_lst, WE_bin, WE_neg, WE_cmp, WE_chain, WE_is, WE_and, WE_or, WE_not, WE_ife, WE_bi, WE_isi, WE_meth, WE_ix, WE_sl, WE_rev, WO_none, WO_some, WT_and, WT_or, WT_not, WT_ife, WEs_nil, WEs_cons, WT_pl (e := .var _) rfl, WT_pl (e := .cst _) rfl, WT_pl (e := .cmp _ _ _) rfl, WT_pl (e := .chain _ _ _ _ _) rfl, WT_pl (e := .is_ _ _ _) rfl, WT_pl (e := .call _ _) rfl, WT_pl (e := .bi _ _) rfl, WT_pl (e := .isi _ _) rfl, WT_pl (e := .meth _ _ _) rfl, WT_pl (e := .ix _ _) rfl, WW_pl (e := .var _) rfl, WW_pl (e := .lst _) rfl, WW_pl (e := .tup _) rfl, WW_rng1, List.map_cons, List.map_nil, List.length_cons, List.length_nil, List.cons_append, List.nil_append, List.replicate, List.getElem?_cons_zero, List.getElem?_cons_succ, Fin_rt, Fin_nx, gc_self, asg, asgAll, List.set_cons_zero, List.set_cons_succ, Op_some, Opg_some, wkOf, Wk.items, Wk.ok, truth, isD, tyOf, bd_add, bd_sub, bd_mulr, bd_mull, bd_fdiv, bd_mod, bd_pow, cd_lt, cd_le, cd_gt, cd_ge, bi_abs, bi_max, bi_min, bi_lenS, bi_lenT, bi_lenR, bi_tupT, bi_listT, at20, at21, ixn20, ixn21, gc_set, Int.reduceLT, Int.reduceNeg, Int.reduceLE, Nat.reduceAdd, Nat.reduceLT, Nat.reduceLeDiff, pow_18, pow_9, pow_8, Op_addtup, sl_tup, Int.reduceToNat, Nat.zero_add, Nat.reduceSub, Int.reducePow, Int.reduceSub, Int.reduceMul, Int.reduceAdd, gc_int, gc_bl, gc_str, gc_tup, true_and, and_true, wipeD])
    rw [ix_str, abc_at (Int.emod_nonneg _ (by omega)) (Int.emod_lt_of_pos _ (by omega))]
    (try simp only [WCs_cons, WCs_nil, WC_exp, WC_asg, WC_sto, WC_ret, WC_retN, WC_ife, WC_pass, WC_brk, WC_cnt, WE_var, WE_cst, WE_tup, WE_lst, WE_bin, WE_neg, WE_cmp, WE_chain, WE_is, WE_and, WE_or, WE_not, WE_ife, WE_bi, WE_isi, WE_meth, WE_ix, WE_sl, WE_rev, WO_none, WO_some, WT_and, WT_or, WT_not, WT_ife, WEs_nil, WEs_cons, WT_pl (e := .var _) rfl, WT_pl (e := .cst _) rfl, WT_pl (e := .cmp _ _ _) rfl, WT_pl (e := .chain _ _ _ _ _) rfl, WT_pl (e := .is_ _ _ _) rfl, WT_pl (e := .call _ _) rfl, WT_pl (e := .bi _ _) rfl, WT_pl (e := .isi _ _) rfl, WT_pl (e := .meth _ _ _) rfl, WT_pl (e := .ix _ _) rfl, WW_pl (e := .var _) rfl, WW_pl (e := .lst _) rfl, WW_pl (e := .tup _) rfl, WW_rng1, List.map_cons, List.map_nil, List.length_cons, List.length_nil, List.cons_append, List.nil_append, List.replicate, List.getElem?_cons_zero, List.getElem?_cons_succ, Fin_rt, Fin_nx, gc_self, asg, asgAll, List.set_cons_zero, List.set_cons_succ, Op_some, Opg_some, wkOf, Wk.items, Wk.ok, truth, isD, tyOf, bd_add, bd_sub, bd_mulr, bd_mull, bd_fdiv, bd_mod, bd_pow, cd_lt, cd_le, cd_gt, cd_ge, bi_abs, bi_max, bi_min, bi_lenS, bi_lenT, bi_lenR, bi_tupT, bi_listT, at20, at21, ixn20, ixn21, gc_set, Int.reduceLT, Int.reduceNeg, Int.reduceLE, Nat.reduceAdd, Nat.reduceLT, Nat.reduceLeDiff, pow_18, pow_9, pow_8, Op_addtup, sl_tup, Int.reduceToNat, Nat.zero_add, Nat.reduceSub, Int.reducePow, Int.reduceSub, Int.reduceMul, Int.reduceAdd, gc_int, gc_bl, gc_str, gc_tup, true_and, and_true, Option.map_some])
    rw [bd_addstr (by
      rw [str_len, str_len, mul_list h5 h6]
      simp [cap]
      omega)]
    (try simp only [WCs_cons, WCs_nil, WC_exp, WC_asg, WC_sto, WC_ret, WC_retN, WC_ife, WC_pass, WC_brk, WC_cnt, WE_var, WE_cst, WE_tup, WE_lst, WE_bin, WE_neg, WE_cmp, WE_chain, WE_is, WE_and, WE_or, WE_not, WE_ife, WE_bi, WE_isi, WE_meth, WE_ix, WE_sl, WE_rev, WO_none, WO_some, WT_and, WT_or, WT_not, WT_ife, WEs_nil, WEs_cons, WT_pl (e := .var _) rfl, WT_pl (e := .cst _) rfl, WT_pl (e := .cmp _ _ _) rfl, WT_pl (e := .chain _ _ _ _ _) rfl, WT_pl (e := .is_ _ _ _) rfl, WT_pl (e := .call _ _) rfl, WT_pl (e := .bi _ _) rfl, WT_pl (e := .isi _ _) rfl, WT_pl (e := .meth _ _ _) rfl, WT_pl (e := .ix _ _) rfl, WW_pl (e := .var _) rfl, WW_pl (e := .lst _) rfl, WW_pl (e := .tup _) rfl, WW_rng1, List.map_cons, List.map_nil, List.length_cons, List.length_nil, List.cons_append, List.nil_append, List.replicate, List.getElem?_cons_zero, List.getElem?_cons_succ, Fin_rt, Fin_nx, gc_self, asg, asgAll, List.set_cons_zero, List.set_cons_succ, Op_some, Opg_some, wkOf, Wk.items, Wk.ok, truth, isD, tyOf, bd_add, bd_sub, bd_mulr, bd_mull, bd_fdiv, bd_mod, bd_pow, cd_lt, cd_le, cd_gt, cd_ge, bi_abs, bi_max, bi_min, bi_lenS, bi_lenT, bi_lenR, bi_tupT, bi_listT, at20, at21, ixn20, ixn21, gc_set, Int.reduceLT, Int.reduceNeg, Int.reduceLE, Nat.reduceAdd, Nat.reduceLT, Nat.reduceLeDiff, pow_18, pow_9, pow_8, Op_addtup, sl_tup, Int.reduceToNat, Nat.zero_add, Nat.reduceSub, Int.reducePow, Int.reduceSub, Int.reduceMul, Int.reduceAdd, gc_int, gc_bl, gc_str, gc_tup, true_and, and_true])
    rfl
  · unfold rngItems
    simp [cap]
    omega
  · rw [gc_last]
    have hxs : ∀ x ∈ ((rngItems 0 m).filter fun _ => true).map (nmF r1 (Txt.mul ⟨#[97 + r2.toNat]⟩ r3)), ∃ i : Nat, x = .str (⟨#[97 + ((r1 + 5 * (0 + (i : Int))) % 26).toNat]⟩ ++ Txt.mul ⟨#[97 + r2.toNat]⟩ r3) := fun x hx => by
      obtain ⟨y, hy, rfl⟩ := List.mem_map.mp hx
      have hy := (List.mem_filter.mp hy).1
      unfold rngItems at hy
      obtain ⟨i, hi, rfl⟩ := List.mem_map.mp hy
      exact ⟨i, rfl⟩
    have hlen : (((rngItems 0 m).filter fun _ => true).map (nmF r1 (Txt.mul ⟨#[97 + r2.toNat]⟩ r3))).length = m.toNat := by
      rw [List.length_map, List.filter_eq_self.mpr (fun _ _ => rfl)]
      unfold rngItems
      simp
    generalize ((rngItems 0 m).filter fun _ => true).map (nmF r1 (Txt.mul ⟨#[97 + r2.toNat]⟩ r3)) = xs at hxs hlen ⊢
    have x4 : Ex n S (S4 ++ [Ob.lst xs]) := (x1.trans x3').app
    obtain ⟨j, e1, e2, e3, e4⟩ := gc_lst (m := S4.length) (xs := xs) hS.lt x4 (by simp) (x1.trans x3').len
    refine ⟨j, _, e1, e2, e3, hlen, fun x hx => ?_, e4⟩
    · obtain ⟨i, rfl⟩ := hxs x hx
      refine ⟨_, rfl, ?_⟩
      unfold IsNm
      rw [app_list, mul_list h5 h6]
      have b1 := Int.emod_nonneg (r1 + 5 * (0 + (i : Int))) (show (26 : Int) ≠ 0 by omega)
      have b2 := Int.emod_lt_of_pos (r1 + 5 * (0 + (i : Int))) (show (0 : Int) < 26 by omega)
      refine ⟨by simp, by simp; omega, fun c hc => ?_⟩
      simp only [List.mem_append, List.mem_replicate] at hc
      rcases hc with hc | ⟨_, rfl⟩
      · have : c = 97 + ((r1 + 5 * (0 + (i : Int))) % 26).toNat := by simpa using hc
        omega
      · omega
end
end
end CV

set_option Elab.async false
set_option linter.all false
set_option maxRecDepth 100000
set_option maxHeartbeats 4000000
/-! CvB: plain tools: kinds, lists of truths, what is no more than read. -/
namespace CV
open PySem
theorem oldOk_app {n : Nat} {t : Sto} : ∀ S : Sto, oldOk n S (S ++ t) = true
  | [] => rfl
  | o :: S => by
    show ((Ob.under n o || Ob.beq o o) && oldOk n S (S ++ t)) = true
    rw [Ob.beq_self, oldOk_app S]
    simp
theorem gc_app {S t : Sto} {d : D} (h : D.under S.length d = true) : gc S (d, S ++ t) = (d, S) := by
  unfold gc
  split
  · rename_i hn
    have := noNew_iff.mp hn
    have : t = [] := by
      rw [List.length_append] at this
      exact List.length_eq_zero_iff.mp (by omega)
    subst this
    simp
  · unfold gc0
    rw [if_pos (oldOk_app S), if_pos h]
    simp
theorem gc_app_bl {S t : Sto} {b : Bool} : gc S (.bl b, S ++ t) = (.bl b, S) := gc_app rfl
theorem gc_app_bl2 {S t u : Sto} {b : Bool} : gc S (.bl b, S ++ t ++ u) = (.bl b, S) := by rw [List.append_assoc]; exact gc_app rfl
theorem kit_NoneType_int : L2.kitB "NoneType" "int" = some false := by decide +kernel
theorem kit_NoneType_bool : L2.kitB "NoneType" "bool" = some false := by decide +kernel
theorem kit_NoneType_str : L2.kitB "NoneType" "str" = some false := by decide +kernel
theorem kit_NoneType_tuple : L2.kitB "NoneType" "tuple" = some false := by decide +kernel
theorem kit_NoneType_list : L2.kitB "NoneType" "list" = some false := by decide +kernel
theorem kit_bool_int : L2.kitB "bool" "int" = some true := by decide +kernel
theorem kit_bool_bool : L2.kitB "bool" "bool" = some true := by decide +kernel
theorem kit_bool_str : L2.kitB "bool" "str" = some false := by decide +kernel
theorem kit_bool_tuple : L2.kitB "bool" "tuple" = some false := by decide +kernel
theorem kit_bool_list : L2.kitB "bool" "list" = some false := by decide +kernel
theorem kit_int_int : L2.kitB "int" "int" = some true := by decide +kernel
theorem kit_int_bool : L2.kitB "int" "bool" = some false := by decide +kernel
theorem kit_int_str : L2.kitB "int" "str" = some false := by decide +kernel
theorem kit_int_tuple : L2.kitB "int" "tuple" = some false := by decide +kernel
theorem kit_int_list : L2.kitB "int" "list" = some false := by decide +kernel
theorem kit_str_int : L2.kitB "str" "int" = some false := by decide +kernel
theorem kit_str_bool : L2.kitB "str" "bool" = some false := by decide +kernel
theorem kit_str_str : L2.kitB "str" "str" = some true := by decide +kernel
theorem kit_str_tuple : L2.kitB "str" "tuple" = some false := by decide +kernel
theorem kit_str_list : L2.kitB "str" "list" = some false := by decide +kernel
theorem kit_tuple_int : L2.kitB "tuple" "int" = some false := by decide +kernel
theorem kit_tuple_bool : L2.kitB "tuple" "bool" = some false := by decide +kernel
theorem kit_tuple_str : L2.kitB "tuple" "str" = some false := by decide +kernel
theorem kit_tuple_tuple : L2.kitB "tuple" "tuple" = some true := by decide +kernel
theorem kit_tuple_list : L2.kitB "tuple" "list" = some false := by decide +kernel
theorem kit_list_int : L2.kitB "list" "int" = some false := by decide +kernel
theorem kit_list_bool : L2.kitB "list" "bool" = some false := by decide +kernel
theorem kit_list_str : L2.kitB "list" "str" = some false := by decide +kernel
theorem kit_list_tuple : L2.kitB "list" "tuple" = some false := by decide +kernel
theorem kit_list_list : L2.kitB "list" "list" = some true := by decide +kernel
theorem bls_map {p : D → Bool} : ∀ xs : List D, blsOf (xs.map fun x => .bl (p x)) = some (xs.map p)
  | [] => rfl
  | x :: xs => by simp [blsOf, bls_map xs]
theorem bi_all {S : Sto} {p : D → Bool} {xs : List D} : biD .all [.loc .lst S.length] (S ++ [.lst (xs.map fun x => .bl (p x))]) = some (.bl (xs.all p), S ++ [.lst (xs.map fun x => .bl (p x))]) := by
  simp [biD, lstOf, bls_map]
/- plain things: no script, no dict -/
mutual
def D.good : D → Bool
  | .tup xs => D.goods xs
  | .loc .lst _ => true
  | .loc .dct _ => false
  | .scr _ => false
  | .gd _ => false
  | _ => true
def D.goods : List D → Bool
  | [] => true
  | x :: xs => D.good x && D.goods xs
end
theorem goods_iff : ∀ {xs : List D}, D.goods xs = true ↔ ∀ x ∈ xs, D.good x = true
  | [] => by simp [D.goods]
  | x :: xs => by simp [D.goods, goods_iff (xs := xs)]
theorem good_tup {xs : List D} : D.good (.tup xs) = true ↔ ∀ x ∈ xs, D.good x = true := by
  show D.goods xs = true ↔ _
  exact goods_iff
theorem good_nd {d : D} (h : D.good d = true) (j : Nat) : d ≠ .loc .dct j := by
  rintro rfl
  cases h
theorem good_sim {x d : D} (h : D.good x = true) (s : Sim x d) : D.good d = true := by
  rcases s with rfl | ⟨a, b, rfl, rfl⟩
  · exact h
  · rfl
theorem sim_tup {xs : List D} {d : D} (s : Sim (.tup xs) d) : d = .tup xs := by
  rcases s with h | ⟨a, b, h, _⟩
  · exact h
  · cases h
theorem add_lst {S : Sto} {m m2 : Nat} {xs ys : List D} (h1 : S[m]? = some (.lst xs)) (h2 : S[m2]? = some (.lst ys)) (hl : xs.length + ys.length ≤ cap) : binD .add (.loc .lst m) (.loc .lst m2) S = some (.loc .lst S.length, S ++ [.lst (xs ++ ys)]) := by
  simp [binD, h1, h2, hl]
theorem gc_add {n : Nat} {S T : Sto} {ys zs : List D} (hn : n < S.length) (x : Ex n S T) : ∃ m', (gc S (.loc .lst (T ++ [Ob.lst ys]).length, T ++ [Ob.lst ys] ++ [Ob.lst zs])).1 = .loc .lst m' ∧ S.length ≤ m' ∧
    (gc S (.loc .lst (T ++ [Ob.lst ys]).length, T ++ [Ob.lst ys] ++ [Ob.lst zs])).2[m']? = some (.lst zs) ∧ Ex n S (gc S (.loc .lst (T ++ [Ob.lst ys]).length, T ++ [Ob.lst ys] ++ [Ob.lst zs])).2 := by
  have hx : Ex n S (T ++ [Ob.lst ys] ++ [Ob.lst zs]) := x.app.app
  have e : (T ++ [Ob.lst ys] ++ [Ob.lst zs])[(T ++ [Ob.lst ys]).length]? = some (.lst zs) := by
    rw [List.getElem?_append_right (Nat.le_refl _)]
    simp
  exact gc_lst hn hx e (x.app (t := [Ob.lst ys])).len
theorem cut_mem {α : Type} {xs : List α} {l h : Option Int} {x : α} (hx : x ∈ cutD xs l h) : x ∈ xs := List.mem_of_mem_drop (List.mem_of_mem_take hx)
theorem cut_len {α : Type} {xs : List α} {l h : Option Int} : (cutD xs l h).length ≤ xs.length := by
  unfold cutD
  rw [List.length_take, List.length_drop]
  omega
theorem goods_app {a b : List D} : D.goods (a ++ b) = (D.goods a && D.goods b) := by
  rw [Bool.eq_iff_iff, Bool.and_eq_true, goods_iff, goods_iff, goods_iff]
  simp only [List.mem_append]
  constructor
  · exact fun h => ⟨fun x hx => h x (.inl hx), fun x hx => h x (.inr hx)⟩
  · rintro ⟨h1, h2⟩ x (hx | hx)
    · exact h1 x hx
    · exact h2 x hx
theorem goods_cut {xs : List D} {l h : Option Int} (hx : D.goods xs = true) : D.goods (cutD xs l h) = true := goods_iff.mpr fun x h => goods_iff.mp hx x (cut_mem h)
theorem Ob_beq_self (o : Ob) : Ob.beq o o = true := Ob.beq_self o
theorem gc_at {S S1 : Sto} {d : D} (hl : S.length ≤ S1.length) : S.length ≤ (gc S (d, S1)).2.length ∧ ∀ i, i < S.length → (gc S (d, S1)).2[i]? = S1[i]? := by
  have tk : (S1.take S.length).length = S.length := by rw [List.length_take]; omega
  rcases gc_cases S d S1 with e | ⟨e, _⟩ | ⟨k, m, o, _, _, _, _, e⟩
  · rw [e]; exact ⟨hl, fun i _ => rfl⟩
  · rw [e]; exact ⟨by rw [tk]; exact Nat.le_refl _, fun i hi => List.getElem?_take_of_lt hi⟩
  · rw [e]
    refine ⟨by simp only [List.length_append, tk]; omega, fun i hi => ?_⟩
    simp only
    rw [List.getElem?_append_left (by omega), List.getElem?_take_of_lt hi]
/-- an item put behind a list of one's own -/
theorem append_Ex {n f : Nat} {S T S5 : Sto} {xs : List D} {y d : D} (hS : n < S.length) (x0 : Ex n S T) (x : Ex n T S5) (hf : S.length ≤ f) (hfT : f < T.length) (e : S5[f]? = some (.lst xs)) :
    Ex n S (gc T (d, S5.set f (.lst (xs ++ [y])))).2 ∧ (gc T (d, S5.set f (.lst (xs ++ [y])))).2[f]? = some (.lst (xs ++ [y])) := by
  have hl : T.length ≤ (S5.set f (.lst (xs ++ [y]))).length := by rw [List.length_set]; exact x.len
  obtain ⟨g1, g2⟩ := gc_at (d := d) hl
  have x1 := x0.trans x
  refine ⟨⟨Nat.le_trans x0.len g1, fun i h1 h2 => ?_, ?_⟩, ?_⟩
  · rw [g2 i (Nat.lt_of_lt_of_le h1 x0.len), List.getElem?_set_ne (by omega)]
    exact x1.frm i h1 h2
  · obtain ⟨a, b, e2, ha⟩ := x.fd
    refine ⟨a, b, ?_, ha⟩
    rw [g2 n (Nat.lt_of_lt_of_le hS x0.len), List.getElem?_set_ne (by omega)]
    exact e2
  · rw [g2 f hfT]
    simp [(List.getElem?_eq_some_iff.mp e).1]
theorem me_append {S : Sto} {m : Nat} {xs : List D} {y : D} (h : S[m]? = some (.lst xs)) (hl : xs.length < cap) : meD .append (.loc .lst m) [y] S = some (.non, S.set m (.lst (xs ++ [y]))) := by
  simp [meD, h, hl]
theorem Opg_addlit {n m : Nat} {S T : Sto} {xs ys : List D} {Q : D → Sto → Prop} (hn : n < S.length) (x : Ex n S T) (hm : T[m]? = some (.lst xs)) (hmn : m ≠ n) (hl : xs.length + ys.length ≤ 1000)
    (q : ∀ (m' : Nat) (S' : Sto), S.length ≤ m' → m' ≠ n → S'[m']? = some (.lst (xs ++ ys)) → Ex n S S' → Q (.loc .lst m') S') : Opg S (binD .add (.loc .lst m) (.loc .lst T.length) (T ++ [.lst ys])) Q := by
  unfold Opg
  rw [add_lst ((Ex.refl x.fd).app.lst hmn hm) (by simp : (T ++ [Ob.lst ys])[T.length]? = some (.lst ys)) (by unfold cap; omega)]
  simp only [Op_some]
  obtain ⟨m', q1, q2, q3, q4⟩ := gc_add (ys := ys) (zs := xs ++ ys) hn x
  rw [q1]
  exact q m' _ q2 (by omega) q3 q4
end CV

set_option Elab.async false
set_option linter.all false
set_option maxRecDepth 100000
set_option maxHeartbeats 4000000
/-! CvS: what an expression tells, whatever the store: a property of its value, the feed kept. -/
namespace CV
open PySem
section
variable {g : Cst} {F : FT} {env : Env} {n : Nat}
def Sp (g : Cst) (F : FT) (env : Env) (n : Nat) (e : E) (P : D → Prop) : Prop := ∀ S, FeedAt n S → WE g F e env S fun d S1 => P d ∧ Ex n S S1
def Sps (g : Cst) (F : FT) (env : Env) (n : Nat) (es : List E) (P : List D → Prop) : Prop := ∀ S, FeedAt n S → WEs g F es env S fun ds S1 => P ds ∧ Ex n S S1
def SpO (g : Cst) (F : FT) (env : Env) (n : Nat) (o : Option E) : Prop := ∀ S, FeedAt n S → WO g F o env S fun _ S1 => Ex n S S1
theorem Sp.imp {e : E} {P Q : D → Prop} (h : Sp g F env n e P) (i : ∀ d, P d → Q d) : Sp g F env n e Q := fun S hS => (h S hS).imp fun d S1 ⟨a, b⟩ => ⟨i d a, b⟩
theorem Sp_var {i : Nat} {d : D} {P : D → Prop} (h : env[i]? = some (some d)) (p : P d) : Sp g F env n (.var i) P := fun S hS => by
  rw [WE_var, h]
  exact ⟨p, .refl hS⟩
theorem Sp_cst {d : D} {P : D → Prop} (p : P d) : Sp g F env n (.cst d) P := fun S hS => by
  rw [WE_cst]
  exact ⟨p, .refl hS⟩
theorem Sps_nil {P : List D → Prop} (p : P []) : Sps g F env n [] P := fun S hS => by
  rw [WEs_nil]
  exact ⟨p, .refl hS⟩
theorem Sps_cons {e : E} {es : List E} {P : D → Prop} {Q : List D → Prop} (h : Sp g F env n e P) (t : ∀ d, P d → Sps g F env n es fun ds => Q (d :: ds)) : Sps g F env n (e :: es) Q := fun S hS => by
  rw [WEs_cons]
  refine (h S hS).imp fun d S1 ⟨p, x⟩ => ?_
  refine Op.imp (t d p S1 x.fd) fun ds S2 ⟨q, x2⟩ => ⟨q, x.trans x2⟩
/-- all alike -/
theorem Sps_all {P : D → Prop} : ∀ {es : List E}, (∀ e ∈ es, Sp g F env n e P) → Sps g F env n es fun ds => (∀ d ∈ ds, P d) ∧ ds.length = es.length
  | [], _ => Sps_nil ⟨(fun _ h => by cases h), rfl⟩
  | e :: es, h => Sps_cons (h e List.mem_cons_self) fun d p => fun S hS => Op.imp (Sps_all (fun e he => h e (List.mem_cons_of_mem _ he)) S hS) fun ds S1 ⟨⟨a, b⟩, x⟩ => ⟨⟨fun y hy => by
      rcases List.mem_cons.mp hy with q | q
      · rw [q]; exact p
      · exact a y q, by simp [b]⟩, x⟩
theorem Sp_tup {es : List E} {P : D → Prop} (h : Sps g F env n es fun ds => ds.length ≤ cap ∧ P (.tup ds)) : Sp g F env n (.tup es) P := fun S hS => by
  rw [WE_tup]
  exact Op.imp (h S hS) fun ds S1 ⟨⟨a, b⟩, x⟩ => ⟨a, b, x⟩
theorem Sp_lst {es : List E} {P : D → Prop} {A : List D → Prop} (h : Sps g F env n es A) (hl : es.length ≤ 1000) (hA : ∀ ds, A ds → ds.length = es.length) (p : ∀ m, P (.loc .lst m)) : Sp g F env n (.lst es) P := fun S hS => by
  rw [WE_lst]
  exact Op.imp (h S hS) fun ds S1 ⟨a, x⟩ => ⟨by rw [hA ds a]; unfold cap; omega, p _, x.app⟩
theorem Sp_addtup {a b : E} {A B : List D → Prop} {P : D → Prop} (ha : Sp g F env n a fun x => ∃ xs, x = .tup xs ∧ A xs) (hb : Sp g F env n b fun x => ∃ xs, x = .tup xs ∧ B xs) (p : ∀ xs ys, A xs → B ys → xs.length + ys.length ≤ cap ∧ P (.tup (xs ++ ys))) :
    Sp g F env n (.bin .add a b) P := fun S hS => by
  rw [WE_bin]
  refine (ha S hS).imp fun x S1 ⟨⟨xs, e1, a1⟩, x1⟩ => ?_
  refine (hb S1 x1.fd).imp fun y S2 ⟨⟨ys, e2, a2⟩, x2⟩ => ?_
  subst e1 e2
  obtain ⟨p1, p2⟩ := p xs ys a1 a2
  rw [Op_addtup]
  refine ⟨p1, ?_, gc_Ex hS.lt (x1.trans x2)⟩
  rw [gc_tup]
  exact p2
theorem Sp_addint {a b : E} {P : D → Prop} (ha : Sp g F env n a fun x => ∃ i, x = .int i) (hb : Sp g F env n b fun x => ∃ i, x = .int i) (p : ∀ i, P (.int i)) : Sp g F env n (.bin .add a b) P := fun S hS => by
  rw [WE_bin]
  refine (ha S hS).imp fun x S1 ⟨⟨i, e1⟩, x1⟩ => ?_
  refine (hb S1 x1.fd).imp fun y S2 ⟨⟨j, e2⟩, x2⟩ => ?_
  subst e1 e2
  rw [bd_add, Opg_some, gc_int]
  exact ⟨p _, gc_Ex hS.lt (x1.trans x2)⟩
theorem SpO_none : SpO g F env n none := fun S hS => by
  rw [WO_none]
  exact .refl hS
theorem SpO_some {e : E} (h : Sp g F env n e fun x => ∃ i, x = .int i) : SpO g F env n (some e) := fun S hS => by
  rw [WO_some]
  refine (h S hS).imp fun x S1 ⟨⟨i, e1⟩, x1⟩ => ?_
  subst e1
  exact x1
theorem Sp_sl {a : E} {lo hi : Option E} {A : List D → Prop} {P : D → Prop} (ha : Sp g F env n a fun x => ∃ xs, x = .tup xs ∧ A xs) (hl : SpO g F env n lo) (hh : SpO g F env n hi) (p : ∀ xs l h, A xs → P (.tup (cutD xs l h))) : Sp g F env n (.sl a lo hi) P := fun S hS => by
  rw [WE_sl]
  refine (ha S hS).imp fun x S1 ⟨⟨xs, e1, a1⟩, x1⟩ => ?_
  subst e1
  refine Op.imp (hl S1 x1.fd) fun l S2 x2 => ?_
  refine Op.imp (hh S2 x2.fd) fun h S3 x3 => ?_
  rw [sl_tup]
  simp only [Op_some]
  rw [gc_tup]
  exact ⟨p xs l h a1, gc_Ex hS.lt ((x1.trans x2).trans x3)⟩
theorem Sp_listT {a : E} {P : D → Prop} (ha : Sp g F env n a fun x => ∃ xs, x = .tup xs) (p : ∀ m, P (.loc .lst m)) : Sp g F env n (.bi .list [a]) P := fun S hS => by
  rw [WE_bi, WEs_cons]
  refine (ha S hS).imp fun x S1 ⟨⟨xs, e1⟩, x1⟩ => ?_
  subst e1
  rw [WEs_nil, bi_listT]
  simp only [Op_some]
  refine ⟨?_, gc_Ex hS.lt x1.app⟩
  rcases gc_sim (S := S) (S1 := S1 ++ [Ob.lst xs]) (d := .loc .lst S1.length) (by intro m z; cases z) with q | ⟨a, b, _, q⟩
  · rw [q]; exact p _
  · rw [q]; exact p _
/-- some = [..] -/
theorem WE_newlst {es : List E} {A : List D → Prop} {S : Sto} {Q : D → Sto → Prop} (hS : FeedAt n S) (h : Sps g F env n es A) (hl : es.length ≤ 1000) (hA : ∀ ds, A ds → ds.length = es.length)
    (q : ∀ (m : Nat) (ds : List D) (S' : Sto), S.length ≤ m → m ≠ n → S'[m]? = some (.lst ds) → A ds → Ex n S S' → Q (.loc .lst m) S') : WE g F (.lst es) env S Q := by
  rw [WE_lst]
  refine Op.imp (h S hS) fun ds S1 ⟨a, x⟩ => ⟨by rw [hA ds a]; unfold cap; omega, ?_⟩
  exact q _ ds _ x.len (by have := x.fd.lt; omega) (by simp) a x.app
/-- some = some + [..] -/
theorem WE_addlst {es : List E} {A : List D → Prop} {i m : Nat} {zs : List D} {S : Sto} {Q : D → Sto → Prop} (hS : FeedAt n S) (hv : env[i]? = some (some (.loc .lst m))) (hm : S[m]? = some (.lst zs)) (hmn : m ≠ n) (h : Sps g F env n es A) (hA : ∀ ds, A ds → ds.length = es.length) (hl : zs.length + es.length ≤ 1000)
    (q : ∀ (m' : Nat) (ds : List D) (S' : Sto), S.length ≤ m' → m' ≠ n → S'[m']? = some (.lst (zs ++ ds)) → A ds → Ex n S S' → Q (.loc .lst m') S') : WE g F (.bin .add (.var i) (.lst es)) env S Q := by
  rw [WE_bin, WE_var, hv]
  simp only
  rw [WE_lst]
  refine Op.imp (h S hS) fun ds S1 ⟨a, x⟩ => ⟨by rw [hA ds a]; unfold cap; omega, ?_⟩
  refine Opg_addlit hS.lt x (x.lst hmn hm) hmn (by rw [hA ds a]; omega) fun m' S' h1 h2 h3 h4 => q m' ds S' h1 h2 h3 a h4
end
end CV

set_option Elab.async false
set_option linter.all false
set_option maxRecDepth 100000
set_option maxHeartbeats 4000000
/-! CvC: plain tools: dicts, comprehensions that draw, repr, == of like things. -/
namespace CV
open PySem
section
variable {g : Cst} {F : FT} {fuel : Nat} {env : Env} {S : Sto}
theorem WE_dct {ks : List L2.Key} {es : List E} {Q : D → Sto → Prop} : WE g F (.dct ks es) env S Q = WEs g F es env S fun ds S1 => (ds.length ≤ 15 && ks.length == ds.length) = true ∧ Q (.loc .dct S1.length) (S1 ++ [.dct ((ks.zip ds).foldl (fun acc kv => putD acc kv.1 kv.2) [])]) := by
  unfold WE WEs
  rw [evE]
  cases evEs g F es env S with
  | none => rfl
  | some r => exact Op_guard
/-- what is laid last stays where it is -/
theorem gc_lastO {S : Sto} {o : Ob} : gc S (.loc o.kd S.length, S ++ [o]) = (.loc o.kd S.length, S ++ [o]) := by
  unfold gc
  split
  · rfl
  · unfold gc0
    split
    · have hu : D.under S.length (.loc o.kd S.length) = false := by simp [D.under]
      rw [if_neg (by rw [hu]; simp)]
      simp only [List.getElem?_append_right (Nat.le_refl _), Nat.sub_self, List.getElem?_cons_zero]
      split
      · simp
      · rfl
    · rfl
theorem gc_lastD {S : Sto} {kvs : List (L2.Key × D)} : gc S (.loc .dct S.length, S ++ [.dct kvs]) = (.loc .dct S.length, S ++ [.dct kvs]) := gc_lastO (o := .dct kvs)
theorem gc_lst_kd {n m : Nat} {S S1 : Sto} {o : Ob} (hn : n < S.length) (h : Ex n S S1) (e : S1[m]? = some o) (hm : S.length ≤ m) :
    ∃ m', (gc S (.loc o.kd m, S1)).1 = .loc o.kd m' ∧ S.length ≤ m' ∧ (gc S (.loc o.kd m, S1)).2[m']? = some o ∧ Ex n S (gc S (.loc o.kd m, S1)).2 := by
  have hx := gc_Ex (d := .loc o.kd m) hn h
  rcases gc_cases S (.loc o.kd m) S1 with q | ⟨q, hu, _⟩ | ⟨k, m', o', h1, h2, h3, h4, q⟩
  · rw [q] at hx ⊢
    exact ⟨m, rfl, hm, e, hx⟩
  · simp [D.under] at hu
    omega
  · cases h1
    rw [q] at hx ⊢
    rw [e] at h2
    cases h2
    refine ⟨S.length, rfl, Nat.le_refl _, ?_, hx⟩
    have : (S1.take S.length).length = S.length := by rw [List.length_take]; omega
    rw [List.getElem?_append_right (by omega)]
    simp [this]
/-- a dict of one's own -/
theorem gc_dct {n m : Nat} {S S1 : Sto} {kvs : List (L2.Key × D)} (hn : n < S.length) (h : Ex n S S1) (e : S1[m]? = some (.dct kvs)) (hm : S.length ≤ m) :
    ∃ m', (gc S (.loc .dct m, S1)).1 = .loc .dct m' ∧ S.length ≤ m' ∧ (gc S (.loc .dct m, S1)).2[m']? = some (.dct kvs) ∧ Ex n S (gc S (.loc .dct m, S1)).2 := gc_lst_kd (o := .dct kvs) hn h e hm
theorem Ex.setNew {n f : Nat} {S S1 : Sto} {o : Ob} (h : Ex n S S1) (hf : S.length ≤ f) (hn : n < S.length) : Ex n S (S1.set f o) := by
  refine ⟨by rw [List.length_set]; exact h.len, fun i h1 h2 => ?_, ?_⟩
  · rw [List.getElem?_set_ne (by omega)]
    exact h.frm i h1 h2
  · obtain ⟨a, b, e, ha⟩ := h.fd
    exact ⟨a, b, by rw [List.getElem?_set_ne (by omega)]; exact e, ha⟩
theorem ix_dct {m : Nat} {kvs : List (L2.Key × D)} {z : Str} (h : S[m]? = some (.dct kvs)) : ixD g (.loc .dct m) (.str z) S = valD kvs (.inr z) := by
  simp only [ixD, h, toKey]
theorem set_dct {m : Nat} {kvs : List (L2.Key × D)} {z : Str} {v : D} (h : S[m]? = some (.dct kvs)) (hl : kvs.length < cap) : setD (.loc .dct m) (.str z) v S = some (S.set m (.dct (putD kvs (.inr z) v))) := by
  simp [setD, h, toKey, hl]
theorem valD_put {kvs : List (L2.Key × D)} {k k' : L2.Key} {v : D} : valD (putD kvs k v) k' = if k' = k then some v else valD kvs k' := by
  unfold putD
  split
  · rename_i h
    induction kvs with
    | nil => simp at h
    | cons x r ih =>
      obtain ⟨a, b⟩ := x
      simp only [List.map_cons, valD, List.find?_cons]
      by_cases ha : a = k
      · subst ha
        simp only [if_true]
        by_cases hk : k' = a
        · subst hk; simp
        · have : decide (a = k') = false := by simp [Ne.symm hk]
          simp only [this, if_neg hk]
          by_cases hr : (r.any fun kv => decide (kv.1 = a)) = true
          · have := ih hr
            simp only [valD, if_neg hk] at this
            exact this
          · have e : (r.map fun kv => if kv.1 = a then (kv.1, v) else kv) = r := by
              simp only [List.any_eq_true, decide_eq_true_eq, not_exists, not_and] at hr
              have h2 : (r.map fun kv => if kv.1 = a then (kv.1, v) else kv) = r.map id := List.map_congr_left fun y hy => by
                rw [if_neg (hr y hy)]
                rfl
              rw [h2, List.map_id]
            rw [e]
      · simp only [if_neg ha]
        by_cases hk : a = k'
        · subst hk
          simp [ha]
        · have hd : decide (a = k') = false := by simp [hk]
          simp only [hd]
          have hr : (r.any fun kv => decide (kv.1 = k)) = true := by simpa [ha] using h
          have := ih hr
          simp only [valD] at this
          exact this
  · rename_i h
    by_cases hk : k' = k
    · subst hk
      have : kvs.find? (fun kv => decide (kv.1 = k')) = none := by
        rw [List.find?_eq_none]
        intro x hx
        simp only [List.any_eq_true, decide_eq_true_eq, not_exists, not_and] at h
        simpa using h x hx
      simp [valD, List.find?_append, this]
    · simp only [valD, List.find?_append, if_neg hk]
      cases hf : kvs.find? (fun kv => decide (kv.1 = k')) with
      | some y => simp
      | none => simp [Ne.symm hk]
theorem put_len {kvs : List (L2.Key × D)} {k : L2.Key} {v : D} : (putD kvs k v).length ≤ kvs.length + 1 := by
  unfold putD
  split <;> simp
theorem put_mem {kvs : List (L2.Key × D)} {k : L2.Key} {v : D} {x : L2.Key × D} (h : x ∈ putD kvs k v) : x ∈ kvs ∨ x = (k, v) := by
  unfold putD at h
  split at h
  · obtain ⟨y, hy, rfl⟩ := List.mem_map.mp h
    split
    · rename_i e
      exact .inr (by rw [← e])
    · exact .inl hy
  · simpa using h

/-! ### comprehensions that draw -/
theorem lcLoop_inv {elt : Env → Sto → Option (D × Sto)} {ifs : Env → Sto → Option (Bool × Sto)} {t : T} {w : Wk} {env0 : Env} {I : List D → Sto → Prop} (hif : ∀ env S, ifs env S = some (true, S)) (hok : ∀ acc S, I acc S → w.ok S = true) :
    ∀ (xs acc : List D) (S : Sto), (∀ x ∈ xs, ∀ acc S, I acc S → ∃ env1, asg t x env0 S = some env1 ∧ Op (elt env1 S) fun y S2 => I (acc ++ [y]) S2) → acc.length + xs.length ≤ cap → I acc S →
      ∃ ds S2, lcLoop elt ifs t env0 w xs acc S = some (ds, S2) ∧ I ds S2 ∧ ds.length = acc.length + xs.length
  | [], acc, S, _, _, hI => ⟨acc, S, by simp [lcLoop, hok acc S hI], hI, rfl⟩
  | x :: xs, acc, S, h, hl, hI => by
    obtain ⟨env1, h1, h2⟩ := h x List.mem_cons_self acc S hI
    obtain ⟨y, S2, e, h3⟩ := Op.ex h2
    obtain ⟨ds, S3, h4, h5, h6⟩ := lcLoop_inv hif hok xs (acc ++ [y]) S2 (fun z hz => h z (List.mem_cons_of_mem _ hz)) (by simp at hl ⊢; omega) h3
    refine ⟨ds, S3, ?_, h5, by simp at h6 ⊢; omega⟩
    simp only [lcLoop, hok acc S hI, if_true, h1, hif, e]
    rw [if_pos (by simp at hl; omega)]
    exact h4
theorem WE_lc_inv {elt it : E} {t : T} {own : List Nat} {Q : D → Sto → Prop}
    (h : WW g F it env S fun w S1 => ∃ I : List D → Sto → Prop, (∀ acc S, I acc S → w.ok S = true) ∧ (∀ x ∈ w.items, ∀ acc S, I acc S → ∃ env1, asg t x (wipeD env own) S = some env1 ∧ WE g F elt env1 S fun y S2 => I (acc ++ [y]) S2) ∧ w.items.length ≤ cap ∧ I [] S1 ∧
      ∀ ds S2, I ds S2 → ds.length = w.items.length → Q (gc S (.loc .lst S2.length, S2 ++ [.lst ds])).1 (gc S (.loc .lst S2.length, S2 ++ [.lst ds])).2) : WE g F (.lc elt t it [] own) env S Q := by
  obtain ⟨w, S1, e, I, h1, h2, h3, h4, q⟩ := Op.ex h
  unfold WE
  rw [evE, e]
  simp only
  obtain ⟨ds, S2, e2, h5, h6⟩ := lcLoop_inv (elt := evE g F elt) (ifs := evIfs g F []) (t := t) (env0 := wipeD env own) (fun env S => ifs_nil) h1 w.items [] S1 (fun x hx acc S hI => h2 x hx acc S hI) (by simpa using h3) h4
  rw [e2]
  exact q ds S2 h5 (by simpa using h6)

/-! ### things of truths, numbers, texts, tuples -/
theorem pd_of_pdT {S : Sto} : ∀ {k : Nat} {d : D} {p : PyData}, pdT k d = some p → ∀ j, k ≤ j → pd S j d = some p
  | k, .non, p, h, j, _ => by cases k <;> cases j <;> (simp [pdT] at h; subst h; rfl)
  | k, .bl b, p, h, j, _ => by cases k <;> cases j <;> (simp [pdT] at h; subst h; rfl)
  | k, .int b, p, h, j, _ => by cases k <;> cases j <;> (simp [pdT] at h; subst h; rfl)
  | k, .str b, p, h, j, _ => by cases k <;> cases j <;> (simp [pdT] at h; subst h; rfl)
  | 0, .tup xs, p, h, j, _ => by simp [pdT] at h
  | k + 1, .tup xs, p, h, 0, hj => by omega
  | k + 1, .tup xs, p, h, j + 1, hj => by
    simp only [pdT, Option.map_eq_some_iff] at h
    obtain ⟨ps, e, rfl⟩ := h
    have key : ∀ {xs : List D} {ps : List PyData}, mapO (pdT k) xs = some ps → mapO (pd S j) xs = some ps := by
      intro xs
      induction xs with
      | nil => intro ps h; exact h
      | cons x r ih =>
        intro ps h
        simp only [mapO] at h
        split at h <;> try cases h
        rename_i y e1
        split at h <;> cases h
        rename_i zs e2
        simp only [mapO, pd_of_pdT e1 j (by omega), ih e2]
    simp only [pd, key e, Option.map_some]
  | k, .loc _ _, p, h, j, _ => by cases k <;> simp [pdT] at h
  | k, .scr _, p, h, j, _ => by cases k <;> simp [pdT] at h
  | k, .gd _, p, h, j, _ => by cases k <;> simp [pdT] at h
mutual
theorem eqv_self : ∀ p : PyData, p.hasDict = false → PyData.eqv p p = true
  | .none, _ => by simp [PyData.eqv]
  | .bool _, _ => by simp [PyData.eqv]
  | .int _, _ => by simp [PyData.eqv]
  | .str _, _ => by simp [PyData.eqv]
  | .list xs, h => by
    rw [PyData.eqv]
    exact eqvAll_self xs (by simpa [PyData.hasDict] using h)
  | .tuple xs, h => by
    rw [PyData.eqv]
    exact eqvAll_self xs (by simpa [PyData.hasDict] using h)
  | .dict _, h => by simp [PyData.hasDict] at h
theorem eqvAll_self : ∀ xs : List PyData, PyData.hasDictAll xs = false → PyData.eqvAll xs xs = true
  | [], _ => by simp [PyData.eqvAll]
  | x :: xs, h => by
    simp only [PyData.hasDictAll, Bool.or_eq_false_iff] at h
    rw [PyData.eqvAll, eqv_self x h.1, eqvAll_self xs h.2]
    rfl
end
theorem pdT_nodict : ∀ {k : Nat} {d : D} {p : PyData}, pdT k d = some p → p.hasDict = false
  | k, .non, p, h => by cases k <;> (simp [pdT] at h; subst h; simp [PyData.hasDict])
  | k, .bl b, p, h => by cases k <;> (simp [pdT] at h; subst h; simp [PyData.hasDict])
  | k, .int b, p, h => by cases k <;> (simp [pdT] at h; subst h; simp [PyData.hasDict])
  | k, .str b, p, h => by cases k <;> (simp [pdT] at h; subst h; simp [PyData.hasDict])
  | 0, .tup xs, p, h => by simp [pdT] at h
  | k + 1, .tup xs, p, h => by
    simp only [pdT, Option.map_eq_some_iff] at h
    obtain ⟨ps, e, rfl⟩ := h
    simp only [PyData.hasDict]
    have key : ∀ {xs : List D} {ps : List PyData}, mapO (pdT k) xs = some ps → PyData.hasDictAll ps = false := by
      intro xs
      induction xs with
      | nil => intro ps h; simp [mapO] at h; subst h; simp [PyData.hasDictAll]
      | cons x r ih =>
        intro ps h
        simp only [mapO] at h
        split at h <;> try cases h
        rename_i y e1
        split at h <;> cases h
        rename_i zs e2
        simp only [PyData.hasDictAll, pdT_nodict e1, ih e2, Bool.or_self]
    exact key e
  | k, .loc _ _, p, h => by cases k <;> simp [pdT] at h
  | k, .scr _, p, h => by cases k <;> simp [pdT] at h
  | k, .gd _, p, h => by cases k <;> simp [pdT] at h
theorem cd_ne_self {d : D} {k : Nat} {p : PyData} (h : pdT k d = some p) (hk : k ≤ 60) : cmpD g .ne d d S = some false := by
  have e := pd_of_pdT (S := S) h 60 hk
  have z := eqv_self p (pdT_nodict h)
  show neD S d d = some false
  unfold neD
  rw [e]
  simp only [z, Bool.not_true]
  split
  · cases d <;> simp [eqS, D.scal] at * 
  · rfl
theorem cd_eq_self {d : D} {k : Nat} {p : PyData} (h : pdT k d = some p) (hk : k ≤ 60) : cmpD g .eq d d S = some true := by
  have e := pd_of_pdT (S := S) h 60 hk
  have z := eqv_self p (pdT_nodict h)
  show eqD S d d = some true
  unfold eqD
  rw [e]
  simp only [z]
  cases d <;> simp [eqS, D.scal, D.seq] at *
theorem pdT_tup {k : Nat} {xs : List D} (h : ∀ x ∈ xs, ∃ p, pdT k x = some p) : ∃ ps, pdT (k + 1) (.tup xs) = some (.tuple ps) ∧ mapO (pdT k) xs = some ps := by
  have key : ∃ ps, mapO (pdT k) xs = some ps := by
    induction xs with
    | nil => exact ⟨[], rfl⟩
    | cons x r ih =>
      obtain ⟨p, e⟩ := h x List.mem_cons_self
      obtain ⟨ps, e2⟩ := ih fun y hy => h y (List.mem_cons_of_mem _ hy)
      exact ⟨p :: ps, by simp only [mapO, e, e2]⟩
  obtain ⟨ps, e⟩ := key
  exact ⟨ps, by simp only [pdT, e, Option.map_some], e⟩
end
end CV

set_option Elab.async false
set_option linter.all false
set_option maxRecDepth 100000
set_option maxHeartbeats 4000000
/-! CvO: the words that the first family of laws draws. -/
namespace CV
open PySem
abbrev sOne : Str := sx [111,110,101]
abbrev sRow : Str := sx [114,111,119]
abbrev sBack : Str := sx [98,97,99,107]
def nmWord : Str := sx [95,108,97,119,95,119,111,114,100]
def fnWord : Fn := { nm := (sx [95,108,97,119,95,119,111,114,100]), ps := [Str.ofString "feed", Str.ofString "numbers", Str.ofString "rows", Str.ofString "most"], N := [Str.ofString "feed", Str.ofString "numbers", Str.ofString "rows", Str.ofString "most", Str.ofString "found", Str.ofString "turn", Str.ofString "some"], body := [(.asg (.nm 4) (.lst [])), (.for_ (.nm 5) (.rng [(.call (sx [95,108,97,119,95,116,97,107,101]) [(.var 0), (.bin .add (.var 3) (.cst (.int 1)))])]) [(.asg (.nm 6) (.lst [(.tup [(.cst (.str (sx [111,110,101]))), (.call (sx [95,108,97,119,95,112,105,99,107]) [(.var 0), (.var 1)])]), (.tup [(.cst (.str (sx [111,110,101]))), (.call (sx [95,108,97,119,95,110,117,109,98,101,114]) [(.var 0)])])])), (.asg (.nm 6) (.bin .add (.var 6) (.lst [(.tup [(.cst (.str (sx [114,111,119]))), (.call (sx [95,108,97,119,95,112,105,99,107]) [(.var 0), (.var 2)])]), (.tup [(.cst (.str (sx [98,97,99,107]))), (.call (sx [95,108,97,119,95,112,105,99,107]) [(.var 0), (.var 2)])])]))), (.exp (.meth .append (.var 4) [(.call (sx [95,108,97,119,95,112,105,99,107]) [(.var 0), (.var 6)])]))]), (.ret (.bi .tuple [(.var 4)]))] }
/-- a piece that is drawn: names of terms by A, of rows by B -/
inductive PcG (A B : Str → Prop) : D → Prop
  | name {z : Str} (h : A z) : PcG A B (.tup [.str sOne, .str z])
  | num {i : Int} (h1 : -1000000000 < i) (h2 : i < 1000000000) : PcG A B (.tup [.str sOne, .int i])
  | row {z : Str} (h : B z) : PcG A B (.tup [.str sRow, .str z])
  | back {z : Str} (h : B z) : PcG A B (.tup [.str sBack, .str z])
theorem PcG.ex {A B : Str → Prop} {x : D} (h : PcG A B x) : ∃ s b, x = .tup [.str s, b] := by cases h <;> exact ⟨_, _, rfl⟩
theorem PcG.sim {A B : Str → Prop} {x d : D} (h : PcG A B x) (s : Sim x d) : d = x := by
  obtain ⟨a, b, rfl⟩ := h.ex
  exact sim_tup s
theorem PcG.nd {A B : Str → Prop} {x : D} (h : PcG A B x) (j : Nat) : x ≠ .loc .dct j := by
  obtain ⟨a, b, rfl⟩ := h.ex
  intro q
  cases q
theorem strNd {A : Str → Prop} {x : D} (h : ∃ z, x = .str z ∧ A z) (j : Nat) : x ≠ .loc .dct j := by
  obtain ⟨z, rfl, _⟩ := h
  intro q
  cases q
theorem strSim {A : Str → Prop} {x d : D} (h : ∃ z, x = .str z ∧ A z) (s : Sim x d) : d = x := by
  obtain ⟨z, rfl, _⟩ := h
  rcases s with e | ⟨a, b, e, _⟩
  · exact e
  · cases e
section
variable {g : Cst} {fs : List Fn} {fuel k : Nat} {S : Sto}
theorem word_okG (fd_take : fs.find? (fun f => decide (f.nm = nmTake)) = some fnTake) (fd_pick : fs.find? (fun f => decide (f.nm = nmPick)) = some fnPick) (fd_number : fs.find? (fun f => decide (f.nm = nmNumber)) = some fnNumber) (fd_word : fs.find? (fun f => decide (f.nm = nmWord)) = some fnWord)
    {A B : Str → Prop} {most : Int} (hm0 : 0 ≤ most) (hm1 : most ≤ 1000) {n m1 m2 : Nat} {ns rs : List D} (hS : FeedAt n S) (e1 : S[m1]? = some (.lst ns)) (e2 : S[m2]? = some (.lst rs)) (d1 : m1 ≠ n) (d2 : m2 ≠ n) (hn : ∀ x ∈ ns, ∃ z, x = .str z ∧ A z) (hr : ∀ x ∈ rs, ∃ z, x = .str z ∧ B z) (l1 : 0 < ns.length ∧ ns.length < 100) (l2 : 0 < rs.length ∧ rs.length < 100) :
    Op (callN g fs fuel (k + 4) nmWord [.loc .lst n, .loc .lst m1, .loc .lst m2, .int most] S) fun d S1 => ∃ xs, d = .tup xs ∧ xs.length ≤ most.toNat ∧ (∀ x ∈ xs, PcG A B x) ∧ Ex n S S1 := by
  refine callN_at fd_word rfl ?_
  simp only [fnWord]
  (try simp only [WCs_cons, WCs_nil, WC_exp, WC_asg, WC_sto, WC_ret, WC_retN, WC_ife, WC_pass, WC_brk, WC_cnt, WE_var, WE_cst, WE_tup, WE_lst, WE_bin, WE_neg, WE_cmp, WE_chain, WE_is, WE_and, WE_or, WE_not, WE_ife, WE_bi, WE_isi, WE_meth, WE_ix, WE_sl, WE_rev, WO_none, WO_some, WT_and, WT_or, WT_not, WT_ife, WEs_nil, WEs_cons, WT_pl (e := .var _) rfl, WT_pl (e := .cst _) rfl, WT_pl (e := .cmp _ _ _) rfl, WT_pl (e := .chain _ _ _ _ _) rfl, WT_pl (e := .is_ _ _ _) rfl, WT_pl (e := .call _ _) rfl, WT_pl (e := .bi _ _) rfl, WT_pl (e := .isi _ _) rfl, WT_pl (e := .meth _ _ _) rfl, WT_pl (e := .ix _ _) rfl, WW_pl (e := .var _) rfl, WW_pl (e := .lst _) rfl, WW_pl (e := .tup _) rfl, WW_rng1, List.map_cons, List.map_nil, List.length_cons, List.length_nil, List.cons_append, List.nil_append, List.replicate, List.getElem?_cons_zero, List.getElem?_cons_succ, Fin_rt, Fin_nx, gc_self, asg, asgAll, List.set_cons_zero, List.set_cons_succ, Op_some, Opg_some, wkOf, Wk.items, Wk.ok, truth, isD, tyOf, bd_add, bd_sub, bd_mulr, bd_mull, bd_fdiv, bd_mod, bd_pow, cd_lt, cd_le, cd_gt, cd_ge, bi_abs, bi_max, bi_min, bi_lenS, bi_lenT, bi_lenR, bi_tupT, bi_listT, at20, at21, ixn20, ixn21, gc_set, Int.reduceLT, Int.reduceNeg, Int.reduceLE, Nat.reduceAdd, Nat.reduceLT, Nat.reduceLeDiff, pow_18, pow_9, pow_8, Op_addtup, sl_tup, Int.reduceToNat, Nat.zero_add, Nat.reduceSub, Int.reducePow, Int.reduceSub, Int.reduceMul, Int.reduceAdd, gc_int, gc_bl, gc_str, gc_tup, true_and, and_true])
  refine ⟨Nat.zero_le _, ?_⟩
  have x0 : Ex n S (S ++ [Ob.lst []]) := (Ex.refl hS).app
  have ef : (S ++ [Ob.lst []])[S.length]? = some (.lst []) := by simp
  generalize S ++ [Ob.lst []] = T at x0 ef ⊢
  refine WC_for ?_
  (try simp only [WCs_cons, WCs_nil, WC_exp, WC_asg, WC_sto, WC_ret, WC_retN, WC_ife, WC_pass, WC_brk, WC_cnt, WE_var, WE_cst, WE_tup, WE_lst, WE_bin, WE_neg, WE_cmp, WE_chain, WE_is, WE_and, WE_or, WE_not, WE_ife, WE_bi, WE_isi, WE_meth, WE_ix, WE_sl, WE_rev, WO_none, WO_some, WT_and, WT_or, WT_not, WT_ife, WEs_nil, WEs_cons, WT_pl (e := .var _) rfl, WT_pl (e := .cst _) rfl, WT_pl (e := .cmp _ _ _) rfl, WT_pl (e := .chain _ _ _ _ _) rfl, WT_pl (e := .is_ _ _ _) rfl, WT_pl (e := .call _ _) rfl, WT_pl (e := .bi _ _) rfl, WT_pl (e := .isi _ _) rfl, WT_pl (e := .meth _ _ _) rfl, WT_pl (e := .ix _ _) rfl, WW_pl (e := .var _) rfl, WW_pl (e := .lst _) rfl, WW_pl (e := .tup _) rfl, WW_rng1, List.map_cons, List.map_nil, List.length_cons, List.length_nil, List.cons_append, List.nil_append, List.replicate, List.getElem?_cons_zero, List.getElem?_cons_succ, Fin_rt, Fin_nx, gc_self, asg, asgAll, List.set_cons_zero, List.set_cons_succ, Op_some, Opg_some, wkOf, Wk.items, Wk.ok, truth, isD, tyOf, bd_add, bd_sub, bd_mulr, bd_mull, bd_fdiv, bd_mod, bd_pow, cd_lt, cd_le, cd_gt, cd_ge, bi_abs, bi_max, bi_min, bi_lenS, bi_lenT, bi_lenR, bi_tupT, bi_listT, at20, at21, ixn20, ixn21, gc_set, Int.reduceLT, Int.reduceNeg, Int.reduceLE, Nat.reduceAdd, Nat.reduceLT, Nat.reduceLeDiff, pow_18, pow_9, pow_8, Op_addtup, sl_tup, Int.reduceToNat, Nat.zero_add, Nat.reduceSub, Int.reducePow, Int.reduceSub, Int.reduceMul, Int.reduceAdd, gc_int, gc_bl, gc_str, gc_tup, true_and, and_true])
  refine WE_take (n := n) fd_take ?_
  (try simp only [WCs_cons, WCs_nil, WC_exp, WC_asg, WC_sto, WC_ret, WC_retN, WC_ife, WC_pass, WC_brk, WC_cnt, WE_var, WE_cst, WE_tup, WE_lst, WE_bin, WE_neg, WE_cmp, WE_chain, WE_is, WE_and, WE_or, WE_not, WE_ife, WE_bi, WE_isi, WE_meth, WE_ix, WE_sl, WE_rev, WO_none, WO_some, WT_and, WT_or, WT_not, WT_ife, WEs_nil, WEs_cons, WT_pl (e := .var _) rfl, WT_pl (e := .cst _) rfl, WT_pl (e := .cmp _ _ _) rfl, WT_pl (e := .chain _ _ _ _ _) rfl, WT_pl (e := .is_ _ _ _) rfl, WT_pl (e := .call _ _) rfl, WT_pl (e := .bi _ _) rfl, WT_pl (e := .isi _ _) rfl, WT_pl (e := .meth _ _ _) rfl, WT_pl (e := .ix _ _) rfl, WW_pl (e := .var _) rfl, WW_pl (e := .lst _) rfl, WW_pl (e := .tup _) rfl, WW_rng1, List.map_cons, List.map_nil, List.length_cons, List.length_nil, List.cons_append, List.nil_append, List.replicate, List.getElem?_cons_zero, List.getElem?_cons_succ, Fin_rt, Fin_nx, gc_self, asg, asgAll, List.set_cons_zero, List.set_cons_succ, Op_some, Opg_some, wkOf, Wk.items, Wk.ok, truth, isD, tyOf, bd_add, bd_sub, bd_mulr, bd_mull, bd_fdiv, bd_mod, bd_pow, cd_lt, cd_le, cd_gt, cd_ge, bi_abs, bi_max, bi_min, bi_lenS, bi_lenT, bi_lenR, bi_tupT, bi_listT, at20, at21, ixn20, ixn21, gc_set, Int.reduceLT, Int.reduceNeg, Int.reduceLE, Nat.reduceAdd, Nat.reduceLT, Nat.reduceLeDiff, pow_18, pow_9, pow_8, Op_addtup, sl_tup, Int.reduceToNat, Nat.zero_add, Nat.reduceSub, Int.reducePow, Int.reduceSub, Int.reduceMul, Int.reduceAdd, gc_int, gc_bl, gc_str, gc_tup, true_and, and_true])
  refine ⟨_, rfl, by omega, by omega, x0.fd.lt, .refl x0.fd, fun r T1 h1 h2 x1 => ?_⟩
  refine ⟨⟨by omega, by omega⟩, ?_⟩
  have hlen : (rngItems 0 r).length = r.toNat := by unfold rngItems; simp
  have hfn : S.length ≠ n := by have := hS.lt; omega
  refine ⟨fun i env S' => Ex n S S' ∧ (∃ o o2, env = [some (.loc .lst n), some (.loc .lst m1), some (.loc .lst m2), some (.int most), some (.loc .lst S.length), o, o2]) ∧ ∃ xs, S'[S.length]? = some (.lst xs) ∧ xs.length = i ∧ i ≤ r.toNat ∧ ∀ x ∈ xs, PcG A B x,
    ⟨x0.trans x1, ⟨_, _, rfl⟩, [], x1.lst hfn ef, rfl, Nat.zero_le _, fun x hx => by cases hx⟩, fun _ _ _ _ => trivial, ?_, ?_⟩
  · rintro i x env S' hx ⟨y0, ⟨o, o2, rfl⟩, xs, ex, exl, hi, hxs⟩
    have hi2 : i < r.toNat := by
      have := (List.getElem?_eq_some_iff.mp hx).1
      rw [hlen] at this
      exact this
    refine ⟨_, rfl, ?_⟩
    (try simp only [WCs_cons, WCs_nil, WC_exp, WC_asg, WC_sto, WC_ret, WC_retN, WC_ife, WC_pass, WC_brk, WC_cnt, WE_var, WE_cst, WE_tup, WE_lst, WE_bin, WE_neg, WE_cmp, WE_chain, WE_is, WE_and, WE_or, WE_not, WE_ife, WE_bi, WE_isi, WE_meth, WE_ix, WE_sl, WE_rev, WO_none, WO_some, WT_and, WT_or, WT_not, WT_ife, WEs_nil, WEs_cons, WT_pl (e := .var _) rfl, WT_pl (e := .cst _) rfl, WT_pl (e := .cmp _ _ _) rfl, WT_pl (e := .chain _ _ _ _ _) rfl, WT_pl (e := .is_ _ _ _) rfl, WT_pl (e := .call _ _) rfl, WT_pl (e := .bi _ _) rfl, WT_pl (e := .isi _ _) rfl, WT_pl (e := .meth _ _ _) rfl, WT_pl (e := .ix _ _) rfl, WW_pl (e := .var _) rfl, WW_pl (e := .lst _) rfl, WW_pl (e := .tup _) rfl, WW_rng1, List.map_cons, List.map_nil, List.length_cons, List.length_nil, List.cons_append, List.nil_append, List.replicate, List.getElem?_cons_zero, List.getElem?_cons_succ, Fin_rt, Fin_nx, gc_self, asg, asgAll, List.set_cons_zero, List.set_cons_succ, Op_some, Opg_some, wkOf, Wk.items, Wk.ok, truth, isD, tyOf, bd_add, bd_sub, bd_mulr, bd_mull, bd_fdiv, bd_mod, bd_pow, cd_lt, cd_le, cd_gt, cd_ge, bi_abs, bi_max, bi_min, bi_lenS, bi_lenT, bi_lenR, bi_tupT, bi_listT, at20, at21, ixn20, ixn21, gc_set, Int.reduceLT, Int.reduceNeg, Int.reduceLE, Nat.reduceAdd, Nat.reduceLT, Nat.reduceLeDiff, pow_18, pow_9, pow_8, Op_addtup, sl_tup, Int.reduceToNat, Nat.zero_add, Nat.reduceSub, Int.reducePow, Int.reduceSub, Int.reduceMul, Int.reduceAdd, gc_int, gc_bl, gc_str, gc_tup, true_and, and_true])
    refine WE_pick (n := n) fd_take fd_pick ?_
    (try simp only [WCs_cons, WCs_nil, WC_exp, WC_asg, WC_sto, WC_ret, WC_retN, WC_ife, WC_pass, WC_brk, WC_cnt, WE_var, WE_cst, WE_tup, WE_lst, WE_bin, WE_neg, WE_cmp, WE_chain, WE_is, WE_and, WE_or, WE_not, WE_ife, WE_bi, WE_isi, WE_meth, WE_ix, WE_sl, WE_rev, WO_none, WO_some, WT_and, WT_or, WT_not, WT_ife, WEs_nil, WEs_cons, WT_pl (e := .var _) rfl, WT_pl (e := .cst _) rfl, WT_pl (e := .cmp _ _ _) rfl, WT_pl (e := .chain _ _ _ _ _) rfl, WT_pl (e := .is_ _ _ _) rfl, WT_pl (e := .call _ _) rfl, WT_pl (e := .bi _ _) rfl, WT_pl (e := .isi _ _) rfl, WT_pl (e := .meth _ _ _) rfl, WT_pl (e := .ix _ _) rfl, WW_pl (e := .var _) rfl, WW_pl (e := .lst _) rfl, WW_pl (e := .tup _) rfl, WW_rng1, List.map_cons, List.map_nil, List.length_cons, List.length_nil, List.cons_append, List.nil_append, List.replicate, List.getElem?_cons_zero, List.getElem?_cons_succ, Fin_rt, Fin_nx, gc_self, asg, asgAll, List.set_cons_zero, List.set_cons_succ, Op_some, Opg_some, wkOf, Wk.items, Wk.ok, truth, isD, tyOf, bd_add, bd_sub, bd_mulr, bd_mull, bd_fdiv, bd_mod, bd_pow, cd_lt, cd_le, cd_gt, cd_ge, bi_abs, bi_max, bi_min, bi_lenS, bi_lenT, bi_lenR, bi_tupT, bi_listT, at20, at21, ixn20, ixn21, gc_set, Int.reduceLT, Int.reduceNeg, Int.reduceLE, Nat.reduceAdd, Nat.reduceLT, Nat.reduceLeDiff, pow_18, pow_9, pow_8, Op_addtup, sl_tup, Int.reduceToNat, Nat.zero_add, Nat.reduceSub, Int.reducePow, Int.reduceSub, Int.reduceMul, Int.reduceAdd, gc_int, gc_bl, gc_str, gc_tup, true_and, and_true])
    refine ⟨_, _, rfl, d1, y0.lst d1 e1, l1.1, by omega, fun x hx j => strNd (hn x hx) j, y0.fd.lt, .refl y0.fd, fun y1 w1 S1 hy1 hs1 x2 => ?_⟩
    have eq1 := strSim (hn y1 hy1) hs1
    subst eq1
    obtain ⟨z1, rfl, hz1⟩ := hn _ hy1
    (try simp only [WCs_cons, WCs_nil, WC_exp, WC_asg, WC_sto, WC_ret, WC_retN, WC_ife, WC_pass, WC_brk, WC_cnt, WE_var, WE_cst, WE_tup, WE_lst, WE_bin, WE_neg, WE_cmp, WE_chain, WE_is, WE_and, WE_or, WE_not, WE_ife, WE_bi, WE_isi, WE_meth, WE_ix, WE_sl, WE_rev, WO_none, WO_some, WT_and, WT_or, WT_not, WT_ife, WEs_nil, WEs_cons, WT_pl (e := .var _) rfl, WT_pl (e := .cst _) rfl, WT_pl (e := .cmp _ _ _) rfl, WT_pl (e := .chain _ _ _ _ _) rfl, WT_pl (e := .is_ _ _ _) rfl, WT_pl (e := .call _ _) rfl, WT_pl (e := .bi _ _) rfl, WT_pl (e := .isi _ _) rfl, WT_pl (e := .meth _ _ _) rfl, WT_pl (e := .ix _ _) rfl, WW_pl (e := .var _) rfl, WW_pl (e := .lst _) rfl, WW_pl (e := .tup _) rfl, WW_rng1, List.map_cons, List.map_nil, List.length_cons, List.length_nil, List.cons_append, List.nil_append, List.replicate, List.getElem?_cons_zero, List.getElem?_cons_succ, Fin_rt, Fin_nx, gc_self, asg, asgAll, List.set_cons_zero, List.set_cons_succ, Op_some, Opg_some, wkOf, Wk.items, Wk.ok, truth, isD, tyOf, bd_add, bd_sub, bd_mulr, bd_mull, bd_fdiv, bd_mod, bd_pow, cd_lt, cd_le, cd_gt, cd_ge, bi_abs, bi_max, bi_min, bi_lenS, bi_lenT, bi_lenR, bi_tupT, bi_listT, at20, at21, ixn20, ixn21, gc_set, Int.reduceLT, Int.reduceNeg, Int.reduceLE, Nat.reduceAdd, Nat.reduceLT, Nat.reduceLeDiff, pow_18, pow_9, pow_8, Op_addtup, sl_tup, Int.reduceToNat, Nat.zero_add, Nat.reduceSub, Int.reducePow, Int.reduceSub, Int.reduceMul, Int.reduceAdd, gc_int, gc_bl, gc_str, gc_tup, true_and, and_true])
    refine ⟨by decide, ?_⟩
    refine WE_number (n := n) fd_take fd_pick fd_number ?_
    (try simp only [WCs_cons, WCs_nil, WC_exp, WC_asg, WC_sto, WC_ret, WC_retN, WC_ife, WC_pass, WC_brk, WC_cnt, WE_var, WE_cst, WE_tup, WE_lst, WE_bin, WE_neg, WE_cmp, WE_chain, WE_is, WE_and, WE_or, WE_not, WE_ife, WE_bi, WE_isi, WE_meth, WE_ix, WE_sl, WE_rev, WO_none, WO_some, WT_and, WT_or, WT_not, WT_ife, WEs_nil, WEs_cons, WT_pl (e := .var _) rfl, WT_pl (e := .cst _) rfl, WT_pl (e := .cmp _ _ _) rfl, WT_pl (e := .chain _ _ _ _ _) rfl, WT_pl (e := .is_ _ _ _) rfl, WT_pl (e := .call _ _) rfl, WT_pl (e := .bi _ _) rfl, WT_pl (e := .isi _ _) rfl, WT_pl (e := .meth _ _ _) rfl, WT_pl (e := .ix _ _) rfl, WW_pl (e := .var _) rfl, WW_pl (e := .lst _) rfl, WW_pl (e := .tup _) rfl, WW_rng1, List.map_cons, List.map_nil, List.length_cons, List.length_nil, List.cons_append, List.nil_append, List.replicate, List.getElem?_cons_zero, List.getElem?_cons_succ, Fin_rt, Fin_nx, gc_self, asg, asgAll, List.set_cons_zero, List.set_cons_succ, Op_some, Opg_some, wkOf, Wk.items, Wk.ok, truth, isD, tyOf, bd_add, bd_sub, bd_mulr, bd_mull, bd_fdiv, bd_mod, bd_pow, cd_lt, cd_le, cd_gt, cd_ge, bi_abs, bi_max, bi_min, bi_lenS, bi_lenT, bi_lenR, bi_tupT, bi_listT, at20, at21, ixn20, ixn21, gc_set, Int.reduceLT, Int.reduceNeg, Int.reduceLE, Nat.reduceAdd, Nat.reduceLT, Nat.reduceLeDiff, pow_18, pow_9, pow_8, Op_addtup, sl_tup, Int.reduceToNat, Nat.zero_add, Nat.reduceSub, Int.reducePow, Int.reduceSub, Int.reduceMul, Int.reduceAdd, gc_int, gc_bl, gc_str, gc_tup, true_and, and_true])
    refine ⟨x2.fd.lt, .refl x2.fd, fun w2 S2 hw2 x3 => ?_⟩
    refine ⟨by decide, by decide, ?_⟩
    have p1 : PcG A B (.tup [.str sOne, .str z1]) := .name hz1
    have p2 : PcG A B (.tup [.str sOne, w2]) := by obtain ⟨q, rfl, h8, h9⟩ := hw2; exact .num h8 h9
    have x4 : Ex n S' (S2 ++ [Ob.lst [.tup [.str sOne, .str z1], .tup [.str sOne, w2]]]) := (x2.trans x3).app
    have em : (S2 ++ [Ob.lst [.tup [.str sOne, .str z1], .tup [.str sOne, w2]]])[S2.length]? = some (.lst [.tup [.str sOne, .str z1], .tup [.str sOne, w2]]) := by simp
    have hm2n : S2.length ≠ n := by have := x3.fd.lt; omega
    change WE g (callN g fs fuel (k + 3)) _ _ (S2 ++ [Ob.lst [.tup [.str sOne, .str z1], .tup [.str sOne, w2]]]) _
    generalize S2 ++ [Ob.lst [.tup [.str sOne, .str z1], .tup [.str sOne, w2]]] = T2 at x4 em ⊢
    refine WE_pick (n := n) fd_take fd_pick ?_
    (try simp only [WCs_cons, WCs_nil, WC_exp, WC_asg, WC_sto, WC_ret, WC_retN, WC_ife, WC_pass, WC_brk, WC_cnt, WE_var, WE_cst, WE_tup, WE_lst, WE_bin, WE_neg, WE_cmp, WE_chain, WE_is, WE_and, WE_or, WE_not, WE_ife, WE_bi, WE_isi, WE_meth, WE_ix, WE_sl, WE_rev, WO_none, WO_some, WT_and, WT_or, WT_not, WT_ife, WEs_nil, WEs_cons, WT_pl (e := .var _) rfl, WT_pl (e := .cst _) rfl, WT_pl (e := .cmp _ _ _) rfl, WT_pl (e := .chain _ _ _ _ _) rfl, WT_pl (e := .is_ _ _ _) rfl, WT_pl (e := .call _ _) rfl, WT_pl (e := .bi _ _) rfl, WT_pl (e := .isi _ _) rfl, WT_pl (e := .meth _ _ _) rfl, WT_pl (e := .ix _ _) rfl, WW_pl (e := .var _) rfl, WW_pl (e := .lst _) rfl, WW_pl (e := .tup _) rfl, WW_rng1, List.map_cons, List.map_nil, List.length_cons, List.length_nil, List.cons_append, List.nil_append, List.replicate, List.getElem?_cons_zero, List.getElem?_cons_succ, Fin_rt, Fin_nx, gc_self, asg, asgAll, List.set_cons_zero, List.set_cons_succ, Op_some, Opg_some, wkOf, Wk.items, Wk.ok, truth, isD, tyOf, bd_add, bd_sub, bd_mulr, bd_mull, bd_fdiv, bd_mod, bd_pow, cd_lt, cd_le, cd_gt, cd_ge, bi_abs, bi_max, bi_min, bi_lenS, bi_lenT, bi_lenR, bi_tupT, bi_listT, at20, at21, ixn20, ixn21, gc_set, Int.reduceLT, Int.reduceNeg, Int.reduceLE, Nat.reduceAdd, Nat.reduceLT, Nat.reduceLeDiff, pow_18, pow_9, pow_8, Op_addtup, sl_tup, Int.reduceToNat, Nat.zero_add, Nat.reduceSub, Int.reducePow, Int.reduceSub, Int.reduceMul, Int.reduceAdd, gc_int, gc_bl, gc_str, gc_tup, true_and, and_true])
    refine ⟨_, _, rfl, d2, (y0.trans x4).lst d2 e2, l2.1, by omega, fun x hx j => strNd (hr x hx) j, x4.fd.lt, .refl x4.fd, fun y3 w3 S3 hy3 hs3 x5 => ?_⟩
    have eq3 := strSim (hr y3 hy3) hs3
    subst eq3
    obtain ⟨z3, rfl, hz3⟩ := hr _ hy3
    refine ⟨by decide, ?_⟩
    refine WE_pick (n := n) fd_take fd_pick ?_
    (try simp only [WCs_cons, WCs_nil, WC_exp, WC_asg, WC_sto, WC_ret, WC_retN, WC_ife, WC_pass, WC_brk, WC_cnt, WE_var, WE_cst, WE_tup, WE_lst, WE_bin, WE_neg, WE_cmp, WE_chain, WE_is, WE_and, WE_or, WE_not, WE_ife, WE_bi, WE_isi, WE_meth, WE_ix, WE_sl, WE_rev, WO_none, WO_some, WT_and, WT_or, WT_not, WT_ife, WEs_nil, WEs_cons, WT_pl (e := .var _) rfl, WT_pl (e := .cst _) rfl, WT_pl (e := .cmp _ _ _) rfl, WT_pl (e := .chain _ _ _ _ _) rfl, WT_pl (e := .is_ _ _ _) rfl, WT_pl (e := .call _ _) rfl, WT_pl (e := .bi _ _) rfl, WT_pl (e := .isi _ _) rfl, WT_pl (e := .meth _ _ _) rfl, WT_pl (e := .ix _ _) rfl, WW_pl (e := .var _) rfl, WW_pl (e := .lst _) rfl, WW_pl (e := .tup _) rfl, WW_rng1, List.map_cons, List.map_nil, List.length_cons, List.length_nil, List.cons_append, List.nil_append, List.replicate, List.getElem?_cons_zero, List.getElem?_cons_succ, Fin_rt, Fin_nx, gc_self, asg, asgAll, List.set_cons_zero, List.set_cons_succ, Op_some, Opg_some, wkOf, Wk.items, Wk.ok, truth, isD, tyOf, bd_add, bd_sub, bd_mulr, bd_mull, bd_fdiv, bd_mod, bd_pow, cd_lt, cd_le, cd_gt, cd_ge, bi_abs, bi_max, bi_min, bi_lenS, bi_lenT, bi_lenR, bi_tupT, bi_listT, at20, at21, ixn20, ixn21, gc_set, Int.reduceLT, Int.reduceNeg, Int.reduceLE, Nat.reduceAdd, Nat.reduceLT, Nat.reduceLeDiff, pow_18, pow_9, pow_8, Op_addtup, sl_tup, Int.reduceToNat, Nat.zero_add, Nat.reduceSub, Int.reducePow, Int.reduceSub, Int.reduceMul, Int.reduceAdd, gc_int, gc_bl, gc_str, gc_tup, true_and, and_true])
    refine ⟨_, _, rfl, d2, ((y0.trans x4).trans x5).lst d2 e2, l2.1, by omega, fun x hx j => strNd (hr x hx) j, x5.fd.lt, .refl x5.fd, fun y4 w4 S4 hy4 hs4 x6 => ?_⟩
    have eq4 := strSim (hr y4 hy4) hs4
    subst eq4
    obtain ⟨z4, rfl, hz4⟩ := hr _ hy4
    refine ⟨by decide, by decide, ?_⟩
    have x7 := x5.trans x6
    refine Opg_addlit x4.fd.lt x7 (x7.lst hm2n em) hm2n (by simp) fun m' T3 q2 q2n q3 q4 => ?_
    have p3 : PcG A B (.tup [.str sRow, .str z3]) := .row hz3
    have p4 : PcG A B (.tup [.str sBack, .str z4]) := .back hz4
    have all4 : ∀ x ∈ [.tup [.str sOne, .str z1], .tup [.str sOne, w2]] ++ [.tup [.str sRow, .str z3], .tup [.str sBack, .str z4]], PcG A B x := by
      intro x hx
      simp only [List.mem_append, List.mem_cons, List.not_mem_nil, or_false] at hx
      rcases hx with (rfl | rfl) | (rfl | rfl)
      · exact p1
      · exact p2
      · exact p3
      · exact p4
    refine WE_pick (n := n) fd_take fd_pick ?_
    (try simp only [WCs_cons, WCs_nil, WC_exp, WC_asg, WC_sto, WC_ret, WC_retN, WC_ife, WC_pass, WC_brk, WC_cnt, WE_var, WE_cst, WE_tup, WE_lst, WE_bin, WE_neg, WE_cmp, WE_chain, WE_is, WE_and, WE_or, WE_not, WE_ife, WE_bi, WE_isi, WE_meth, WE_ix, WE_sl, WE_rev, WO_none, WO_some, WT_and, WT_or, WT_not, WT_ife, WEs_nil, WEs_cons, WT_pl (e := .var _) rfl, WT_pl (e := .cst _) rfl, WT_pl (e := .cmp _ _ _) rfl, WT_pl (e := .chain _ _ _ _ _) rfl, WT_pl (e := .is_ _ _ _) rfl, WT_pl (e := .call _ _) rfl, WT_pl (e := .bi _ _) rfl, WT_pl (e := .isi _ _) rfl, WT_pl (e := .meth _ _ _) rfl, WT_pl (e := .ix _ _) rfl, WW_pl (e := .var _) rfl, WW_pl (e := .lst _) rfl, WW_pl (e := .tup _) rfl, WW_rng1, List.map_cons, List.map_nil, List.length_cons, List.length_nil, List.cons_append, List.nil_append, List.replicate, List.getElem?_cons_zero, List.getElem?_cons_succ, Fin_rt, Fin_nx, gc_self, asg, asgAll, List.set_cons_zero, List.set_cons_succ, Op_some, Opg_some, wkOf, Wk.items, Wk.ok, truth, isD, tyOf, bd_add, bd_sub, bd_mulr, bd_mull, bd_fdiv, bd_mod, bd_pow, cd_lt, cd_le, cd_gt, cd_ge, bi_abs, bi_max, bi_min, bi_lenS, bi_lenT, bi_lenR, bi_tupT, bi_listT, at20, at21, ixn20, ixn21, gc_set, Int.reduceLT, Int.reduceNeg, Int.reduceLE, Nat.reduceAdd, Nat.reduceLT, Nat.reduceLeDiff, pow_18, pow_9, pow_8, Op_addtup, sl_tup, Int.reduceToNat, Nat.zero_add, Nat.reduceSub, Int.reducePow, Int.reduceSub, Int.reduceMul, Int.reduceAdd, gc_int, gc_bl, gc_str, gc_tup, true_and, and_true])
    refine ⟨m', _, rfl, by have := x4.fd.lt; omega, q3, by simp, by simp, fun x hx j => (all4 x hx).nd j, q4.fd.lt, .refl q4.fd, fun y5 w5 S5 hy5 hs5 x8 => ?_⟩
    have p5 := all4 y5 hy5
    have eq5 := p5.sim hs5
    subst eq5
    have xT3 : Ex n S' T3 := x4.trans q4
    have ex5 : S5[S.length]? = some (.lst xs) := (xT3.trans x8).lst hfn ex
    rw [me_append ex5 (by unfold cap; omega)]
    simp only [Op_some]
    have hfl : S.length < T3.length := (List.getElem?_eq_some_iff.mp (xT3.lst hfn ex)).1
    obtain ⟨r1, r2⟩ := append_Ex (y := w5) (d := .non) hS.lt (y0.trans xT3) x8 (Nat.le_refl _) hfl ex5
    refine ⟨r1, ⟨_, _, rfl⟩, xs ++ [w5], r2, by simp [exl], by omega, fun x hx => ?_⟩
    rcases List.mem_append.mp hx with hx | hx
    · exact hxs x hx
    · simp only [List.mem_cons, List.not_mem_nil, or_false] at hx
      subst hx
      exact p5
  · rintro env S' ⟨y0, ⟨o, o2, rfl⟩, xs, ex, exl, hi, hxs⟩
    (try simp only [WCs_cons, WCs_nil, WC_exp, WC_asg, WC_sto, WC_ret, WC_retN, WC_ife, WC_pass, WC_brk, WC_cnt, WE_var, WE_cst, WE_tup, WE_lst, WE_bin, WE_neg, WE_cmp, WE_chain, WE_is, WE_and, WE_or, WE_not, WE_ife, WE_bi, WE_isi, WE_meth, WE_ix, WE_sl, WE_rev, WO_none, WO_some, WT_and, WT_or, WT_not, WT_ife, WEs_nil, WEs_cons, WT_pl (e := .var _) rfl, WT_pl (e := .cst _) rfl, WT_pl (e := .cmp _ _ _) rfl, WT_pl (e := .chain _ _ _ _ _) rfl, WT_pl (e := .is_ _ _ _) rfl, WT_pl (e := .call _ _) rfl, WT_pl (e := .bi _ _) rfl, WT_pl (e := .isi _ _) rfl, WT_pl (e := .meth _ _ _) rfl, WT_pl (e := .ix _ _) rfl, WW_pl (e := .var _) rfl, WW_pl (e := .lst _) rfl, WW_pl (e := .tup _) rfl, WW_rng1, List.map_cons, List.map_nil, List.length_cons, List.length_nil, List.cons_append, List.nil_append, List.replicate, List.getElem?_cons_zero, List.getElem?_cons_succ, Fin_rt, Fin_nx, gc_self, asg, asgAll, List.set_cons_zero, List.set_cons_succ, Op_some, Opg_some, wkOf, Wk.items, Wk.ok, truth, isD, tyOf, bd_add, bd_sub, bd_mulr, bd_mull, bd_fdiv, bd_mod, bd_pow, cd_lt, cd_le, cd_gt, cd_ge, bi_abs, bi_max, bi_min, bi_lenS, bi_lenT, bi_lenR, bi_tupT, bi_listT, at20, at21, ixn20, ixn21, gc_set, Int.reduceLT, Int.reduceNeg, Int.reduceLE, Nat.reduceAdd, Nat.reduceLT, Nat.reduceLeDiff, pow_18, pow_9, pow_8, Op_addtup, sl_tup, Int.reduceToNat, Nat.zero_add, Nat.reduceSub, Int.reducePow, Int.reduceSub, Int.reduceMul, Int.reduceAdd, gc_int, gc_bl, gc_str, gc_tup, true_and, and_true, bi_tupL ex])
    exact ⟨xs, rfl, by omega, hxs, gc_Ex hS.lt y0⟩
end
end CV

set_option Elab.async false
set_option linter.all false
set_option maxRecDepth 100000
set_option maxHeartbeats 4000000
/-! CvQ: what repr tells of names, numbers, tuples. -/
namespace CV
open PySem PySem.Builtin.Str
/-- may be shown, in no more than so many signs -/
structure Shw (N : Nat) (p : PyData) : Prop where
  s : p.showable = true
  o : okP p = true
  w : wtP p ≤ N
theorem Shw.le {N M : Nat} {p : PyData} (h : Shw N p) (l : N ≤ M) : Shw M p := ⟨h.s, h.o, Nat.le_trans h.w l⟩
theorem shw_int {i : Int} (h1 : -1000000000 < i) (h2 : i < 1000000000) : Shw 10 (.int i) := by
  have hn : i.natAbs < 10 ^ 9 := by omega
  refine ⟨?_, rfl, ?_⟩
  · simp only [PyData.showable, decide_eq_true_eq]
    have := Nat.log2_lt (n := i.natAbs) (k := 1920)
    by_cases h : i.natAbs = 0
    · rw [h]; decide
    · rw [this h]
      exact Nat.lt_of_lt_of_le hn (by decide +kernel)
  · rw [wtP, PySem.ofString_length]
    exact int_text_length_le10 (by decide) hn
theorem shw_num {d : D} {k : Nat} (h : Num d) : ∃ p, pdT k d = some p ∧ Shw 10 p := by
  obtain ⟨i, rfl, h1, h2⟩ := h
  exact ⟨.int i, by cases k <;> rfl, shw_int h1 h2⟩
theorem fold_repr {q : Nat} : ∀ (l : List Nat) (acc : Array Nat), (∀ c ∈ l, reprChar q c = [c]) → l.foldl (fun out c => out ++ (reprChar q c).toArray) acc = acc ++ l.toArray
  | [], acc, _ => by simp
  | c :: l, acc, h => by
    rw [List.foldl_cons, fold_repr l _ fun d hd => h d (List.mem_cons_of_mem _ hd), h c List.mem_cons_self]
    simp
theorem repr_abc : ∀ j : _root_.Fin 26, reprChar 39 (97 + j.val) = [97 + j.val] := by decide +kernel
theorem shw_nm {z : Str} (h : IsNm z) : Shw 10 (.str z) := by
  obtain ⟨h1, h2, h3⟩ := h
  have hq : reprQuote z = 39 := by
    unfold reprQuote
    have : z.cps.contains 39 = false := by
      rw [← Bool.not_eq_true]
      intro hc
      have := h3 39 (by simpa using hc)
      omega
    rw [this]
    rfl
  have e : reprText z = ⟨(#[39] ++ z.cps.toList.toArray).push 39⟩ := by
    unfold reprText
    rw [hq, ← Array.foldl_toList, fold_repr]
    intro c hc
    have hb := h3 c hc
    have := repr_abc ⟨c - 97, by omega⟩
    have e2 : 97 + (c - 97) = c := by omega
    simpa [e2] using this
  refine ⟨rfl, ?_, ?_⟩
  · rw [okP, e]
    simp only [PyData.strOk, Array.toArray_toList, Array.all_push, Array.all_append, Bool.and_eq_true]
    refine ⟨⟨by decide +kernel, ?_⟩, by decide⟩
    rw [Array.all_eq_true']
    intro c hc
    have := h3 c (by simpa using hc)
    simp only [decide_eq_true_eq]
    omega
  · rw [wtP, e]
    show ((#[39] ++ z.cps.toList.toArray).push 39).size ≤ 10
    rw [Array.size_push, Array.size_append, List.size_toArray]
    simp only [List.size_toArray, List.length_cons, List.length_nil]
    omega
theorem shw_all {N : Nat} : ∀ {ps : List PyData}, (∀ p ∈ ps, Shw N p) → PyData.showableAll ps = true ∧ okAll ps = true ∧ wtAll ps ≤ ps.length * (N + 2)
  | [], _ => ⟨rfl, rfl, Nat.zero_le _⟩
  | p :: ps, h => by
    obtain ⟨h1, h2, h3⟩ := shw_all (N := N) (ps := ps) fun x hx => h x (List.mem_cons_of_mem _ hx)
    have h0 := h p List.mem_cons_self
    refine ⟨by simp [PyData.showableAll, h0.s, h1], by simp [okAll, h0.o, h2], ?_⟩
    have := h0.w
    rw [wtAll, List.length_cons, Nat.succ_mul]
    omega
theorem shw_tuple {N M : Nat} {ps : List PyData} (h : ∀ p ∈ ps, Shw N p) (hm : ps.length * (N + 2) + 3 ≤ M) : Shw M (.tuple ps) := by
  obtain ⟨h1, h2, h3⟩ := shw_all h
  exact ⟨by simpa [PyData.showable] using h1, by simpa [okP] using h2, by rw [wtP]; omega⟩
theorem shw_list {N M : Nat} {ps : List PyData} (h : ∀ p ∈ ps, Shw N p) (hm : ps.length * (N + 2) + 3 ≤ M) : Shw M (.list ps) := by
  obtain ⟨h1, h2, h3⟩ := shw_all h
  exact ⟨by simpa [PyData.showable] using h1, by simpa [okP] using h2, by rw [wtP]; omega⟩
theorem shw_kv {N : Nat} : ∀ {ps : List (PyData × PyData)}, (∀ p ∈ ps, Shw N p.1 ∧ Shw N p.2) → PyData.showableKv ps = true ∧ okKv ps = true ∧ wtKv ps ≤ ps.length * (2 * N + 4)
  | [], _ => ⟨rfl, rfl, Nat.zero_le _⟩
  | (a, b) :: ps, h => by
    obtain ⟨h1, h2, h3⟩ := shw_kv (N := N) (ps := ps) fun x hx => h x (List.mem_cons_of_mem _ hx)
    have h0 := h (a, b) List.mem_cons_self
    refine ⟨by simp [PyData.showableKv, h0.1.s, h0.2.s, h1], by simp [okKv, h0.1.o, h0.2.o, h2], ?_⟩
    have := h0.1.w
    have := h0.2.w
    rw [wtKv, List.length_cons, Nat.succ_mul]
    simp only at *
    omega
theorem shw_dict {N M : Nat} {ps : List (PyData × PyData)} (h : ∀ p ∈ ps, Shw N p.1 ∧ Shw N p.2) (hm : ps.length * (2 * N + 4) + 3 ≤ M) : Shw M (.dict ps) := by
  obtain ⟨h1, h2, h3⟩ := shw_kv h
  exact ⟨by simpa [PyData.showable] using h1, by simpa [okP] using h2, by rw [wtP]; omega⟩
theorem reprP_ok {p : PyData} (h : Shw cap p) : reprP p = some (.str p.shown) := by
  unfold reprP
  rw [h.s, h.o, decide_eq_true h.w]
  rfl
theorem mapO_mem {α β : Type} {f : α → Option β} {P : β → Prop} : ∀ {xs : List α}, (∀ x ∈ xs, ∃ y, f x = some y ∧ P y) → ∃ ys, mapO f xs = some ys ∧ ys.length = xs.length ∧ ∀ y ∈ ys, P y
  | [], _ => ⟨[], rfl, rfl, fun y hy => by cases hy⟩
  | x :: xs, h => by
    obtain ⟨y, e, hy⟩ := h x List.mem_cons_self
    obtain ⟨ys, e2, hl, hys⟩ := mapO_mem (xs := xs) fun z hz => h z (List.mem_cons_of_mem _ hz)
    exact ⟨y :: ys, by simp only [mapO, e, e2], by simp [hl], fun z hz => by
      rcases List.mem_cons.mp hz with rfl | hz
      · exact hy
      · exact hys z hz⟩
theorem shw_tupD {N M k : Nat} {xs : List D} (h : ∀ x ∈ xs, ∃ p, pdT k x = some p ∧ Shw N p) (hm : xs.length * (N + 2) + 3 ≤ M) : ∃ p, pdT (k + 1) (.tup xs) = some p ∧ Shw M p := by
  obtain ⟨ps, e, hl, hp⟩ := mapO_mem h
  exact ⟨.tuple ps, by simp only [pdT, e, Option.map_some], shw_tuple hp (by rw [hl]; exact hm)⟩
/-- repr of a dict with names as keys -/
theorem repr_dct {N : Nat} {kvs : List (L2.Key × D)} (h : ∀ x ∈ kvs, ∃ z p, x.1 = .inr z ∧ IsNm z ∧ pdT 50 x.2 = some p ∧ Shw N p) (h10 : 10 ≤ N) (hm : kvs.length * (2 * N + 4) + 3 ≤ cap) :
    ∃ r : Str, ∀ (S : Sto) (m : Nat), S[m]? = some (.dct kvs) → biD .repr [.loc .dct m] S = some (.str r, S) := by
  obtain ⟨ps, e, hl, hp⟩ := mapO_mem (f := kvPd) (P := fun p => Shw N p.1 ∧ Shw N p.2) (xs := kvs) fun x hx => by
    obtain ⟨z, p, h1, h2, h3, h4⟩ := h x hx
    refine ⟨(keyPd x.1, p), by simp only [kvPd, h3, Option.map_some], ?_, h4⟩
    rw [h1]
    exact (shw_nm h2).le h10
  refine ⟨(PyData.dict ps).shown, fun S m q => ?_⟩
  have r := reprP_ok (shw_dict hp (by rw [hl]; exact hm))
  simp only [biD, reprD, q, e, Option.map_some, Option.bind_some, r]
/-- repr of a tuple -/
theorem repr_tup {k : Nat} {xs : List D} {p : PyData} (h : pdT k (.tup xs) = some p) (hk : k ≤ 60) (hp : Shw cap p) (S : Sto) : biD .repr [.tup xs] S = some (.str p.shown, S) := by
  simp only [biD, reprD, pd_of_pdT h 60 hk, Option.bind_some, reprP_ok hp, Option.map_some]
theorem cd_ne_str {g : Cst} {S : Sto} {x y : Str} : cmpD g .ne (.str x) (.str y) S = some (!(x == y)) := rfl
end CV

set_option Elab.async false
set_option linter.all false
set_option maxRecDepth 100000
set_option maxHeartbeats 4000000
namespace CV.k02
open PySem CV
def top (i : Nat) : Stmt := PySem.Challenge.pw_cellvouch_k02_what_words_stand_for.main.body.getD i (.Pass ⟨0, 0, 0, 0⟩)
def tb : Tb := { fns := [Str.ofString "turned", Str.ofString "number_of", Str.ofString "piece_row", Str.ofString "row_of", Str.ofString "_law_feed", Str.ofString "_law_take", Str.ofString "_law_pick", Str.ofString "_law_names", Str.ofString "_law_number", Str.ofString "_law_word", Str.ofString "_law_row", Str.ofString "_law_worths", Str.ofString "law"], cst := [], gds := [Str.ofString "TURNED"] }
def g : Cst := { gds := [(Str.ofString "TURNED", [((.inr (Str.ofString "one")), (.str (sx [111,110,101]))), ((.inr (Str.ofString "row")), (.str (sx [98,97,99,107]))), ((.inr (Str.ofString "back")), (.str (sx [114,111,119])))])] }
def f_turned : Fn := { nm := (sx [116,117,114,110,101,100]), ps := [Str.ofString "word"], N := [Str.ofString "word", Str.ofString "sort", Str.ofString "inner"], body := [(.ret (.bi .tuple [(.lc (.tup [(.ix (.cst (.gd (sx [84,85,82,78,69,68]))) (.var 1)), (.var 2)]) (.tup [(.nm 1), (.nm 2)]) (.rev (.var 0)) [] [1, 2])]))] }
def f_number_of : Fn := { nm := (sx [110,117,109,98,101,114,95,111,102]), ps := [Str.ofString "term", Str.ofString "worths"], N := [Str.ofString "term", Str.ofString "worths"], body := [(.ret (.ife (.isi (.var 0) ["str"]) (.ix (.var 1) (.var 0)) (.var 0)))] }
def f_piece_row : Fn := { nm := (sx [112,105,101,99,101,95,114,111,119]), ps := [Str.ofString "piece", Str.ofString "worths"], N := [Str.ofString "piece", Str.ofString "worths", Str.ofString "sort", Str.ofString "inner"], body := [(.asg (.tup [(.nm 2), (.nm 3)]) (.var 0)), (.ife (.cmp .eq (.var 2) (.cst (.str (sx [111,110,101])))) [(.ret (.tup [(.call (sx [110,117,109,98,101,114,95,111,102]) [(.var 3), (.var 1)])]))] []), (.ret (.ife (.cmp .eq (.var 2) (.cst (.str (sx [114,111,119])))) (.ix (.var 1) (.var 3)) (.rev (.ix (.var 1) (.var 3)))))] }
def f_row_of : Fn := { nm := (sx [114,111,119,95,111,102]), ps := [Str.ofString "word", Str.ofString "worths"], N := [Str.ofString "word", Str.ofString "worths", Str.ofString "found", Str.ofString "piece"], body := [(.asg (.nm 2) (.tup [])), (.for_ (.nm 3) (.var 0) [(.asg (.nm 2) (.bin .add (.var 2) (.call (sx [112,105,101,99,101,95,114,111,119]) [(.var 3), (.var 1)])))]), (.ret (.var 2))] }
def f__law_feed : Fn := { nm := (sx [95,108,97,119,95,102,101,101,100]), ps := [Str.ofString "script", Str.ofString "k"], N := [Str.ofString "script", Str.ofString "k", Str.ofString "cell", Str.ofString "digits", Str.ofString "state"], body := [(.asg (.nm 2) (.ife (.cmp .lt (.var 1) (.bi .len [(.var 0)])) (.ix (.var 0) (.var 1)) (.bin .add (.bin .mul (.cst (.int 71)) (.var 1)) (.cst (.int 23))))), (.asg (.nm 3) (.bi .max [(.cst (.int 0)), (.bin .sub (.bi .abs [(.var 2)]) (.bin .pow (.cst (.int 10)) (.cst (.int 18))))])), (.asg (.nm 4) (.bin .mod (.bin .add (.bin .add (.bin .mul (.var 2) (.cst (.int 6364136223846793005))) (.bin .mul (.cst (.int 9973)) (.var 1))) (.cst (.int 1442695040888963407))) (.cst (.int 2305843009213693951)))), (.ret (.lst [(.var 3), (.var 4)]))] }
def f__law_take : Fn := { nm := (sx [95,108,97,119,95,116,97,107,101]), ps := [Str.ofString "feed", Str.ofString "many"], N := [Str.ofString "feed", Str.ofString "many", Str.ofString "found"], body := [(.ife (.cmp .gt (.ix (.var 0) (.cst (.int 0))) (.cst (.int 0))) [(.asg (.nm 2) (.bin .mod (.ix (.var 0) (.cst (.int 0))) (.var 1))), (.sto (.var 0) (.cst (.int 0)) (.bin .fdiv (.ix (.var 0) (.cst (.int 0))) (.var 1))), (.ret (.var 2))] []), (.sto (.var 0) (.cst (.int 1)) (.bin .mod (.bin .add (.bin .mul (.ix (.var 0) (.cst (.int 1))) (.cst (.int 6364136223846793005))) (.cst (.int 1442695040888963407))) (.cst (.int 2305843009213693951)))), (.ret (.bin .mod (.bin .fdiv (.ix (.var 0) (.cst (.int 1))) (.cst (.int 65536))) (.var 1)))] }
def f__law_pick : Fn := { nm := (sx [95,108,97,119,95,112,105,99,107]), ps := [Str.ofString "feed", Str.ofString "some"], N := [Str.ofString "feed", Str.ofString "some"], body := [(.ret (.ix (.var 1) (.call (sx [95,108,97,119,95,116,97,107,101]) [(.var 0), (.bi .len [(.var 1)])])))] }
def f__law_names : Fn := { nm := (sx [95,108,97,119,95,110,97,109,101,115]), ps := [Str.ofString "feed", Str.ofString "many"], N := [Str.ofString "feed", Str.ofString "many", Str.ofString "letters", Str.ofString "first", Str.ofString "tail", Str.ofString "k"], body := [(.asg (.nm 2) (.cst (.str (sx [97,98,99,100,101,102,103,104,105,106,107,108,109,110,111,112,113,114,115,116,117,118,119,120,121,122])))), (.asg (.nm 3) (.call (sx [95,108,97,119,95,116,97,107,101]) [(.var 0), (.cst (.int 26))])), (.asg (.nm 4) (.bin .mul (.ix (.var 2) (.call (sx [95,108,97,119,95,116,97,107,101]) [(.var 0), (.cst (.int 26))])) (.call (sx [95,108,97,119,95,116,97,107,101]) [(.var 0), (.cst (.int 8))]))), (.ret (.lc (.bin .add (.ix (.var 2) (.bin .mod (.bin .add (.var 3) (.bin .mul (.cst (.int 5)) (.var 5))) (.cst (.int 26)))) (.var 4)) (.nm 5) (.rng [(.var 1)]) [] [5]))] }
def f__law_number : Fn := { nm := (sx [95,108,97,119,95,110,117,109,98,101,114]), ps := [Str.ofString "feed"], N := [Str.ofString "feed", Str.ofString "far"], body := [(.asg (.nm 1) (.lst [(.bin .sub (.bin .pow (.cst (.int 10)) (.cst (.int 9))) (.cst (.int 1))), (.bin .sub (.cst (.int 1)) (.bin .pow (.cst (.int 10)) (.cst (.int 9)))), (.bin .sub (.call (sx [95,108,97,119,95,116,97,107,101]) [(.var 0), (.bin .pow (.cst (.int 10)) (.cst (.int 9)))]) (.bin .mul (.cst (.int 5)) (.bin .pow (.cst (.int 10)) (.cst (.int 8)))))])), (.ret (.call (sx [95,108,97,119,95,112,105,99,107]) [(.var 0), (.lst [(.cst (.int 0)), (.cst (.int 1)), (.neg (.cst (.int 1))), (.call (sx [95,108,97,119,95,116,97,107,101]) [(.var 0), (.cst (.int 9))]), (.call (sx [95,108,97,119,95,116,97,107,101]) [(.var 0), (.cst (.int 60))]), (.call (sx [95,108,97,119,95,112,105,99,107]) [(.var 0), (.var 1)])])]))] }
def f__law_word : Fn := { nm := (sx [95,108,97,119,95,119,111,114,100]), ps := [Str.ofString "feed", Str.ofString "numbers", Str.ofString "rows", Str.ofString "most"], N := [Str.ofString "feed", Str.ofString "numbers", Str.ofString "rows", Str.ofString "most", Str.ofString "found", Str.ofString "turn", Str.ofString "some"], body := [(.asg (.nm 4) (.lst [])), (.for_ (.nm 5) (.rng [(.call (sx [95,108,97,119,95,116,97,107,101]) [(.var 0), (.bin .add (.var 3) (.cst (.int 1)))])]) [(.asg (.nm 6) (.lst [(.tup [(.cst (.str (sx [111,110,101]))), (.call (sx [95,108,97,119,95,112,105,99,107]) [(.var 0), (.var 1)])]), (.tup [(.cst (.str (sx [111,110,101]))), (.call (sx [95,108,97,119,95,110,117,109,98,101,114]) [(.var 0)])])])), (.asg (.nm 6) (.bin .add (.var 6) (.lst [(.tup [(.cst (.str (sx [114,111,119]))), (.call (sx [95,108,97,119,95,112,105,99,107]) [(.var 0), (.var 2)])]), (.tup [(.cst (.str (sx [98,97,99,107]))), (.call (sx [95,108,97,119,95,112,105,99,107]) [(.var 0), (.var 2)])])]))), (.exp (.meth .append (.var 4) [(.call (sx [95,108,97,119,95,112,105,99,107]) [(.var 0), (.var 6)])]))]), (.ret (.bi .tuple [(.var 4)]))] }
def f__law_row : Fn := { nm := (sx [95,108,97,119,95,114,111,119]), ps := [Str.ofString "word", Str.ofString "worths"], N := [Str.ofString "word", Str.ofString "worths", Str.ofString "found", Str.ofString "sort", Str.ofString "inner", Str.ofString "row"], body := [(.asg (.nm 2) (.lst [])), (.for_ (.tup [(.nm 3), (.nm 4)]) (.var 0) [(.ife (.cmp .eq (.var 3) (.cst (.str (sx [111,110,101])))) [(.exp (.meth .append (.var 2) [(.ife (.isi (.var 4) ["str"]) (.ix (.var 1) (.var 4)) (.var 4))]))] [(.asg (.nm 5) (.bi .list [(.ix (.var 1) (.var 4))])), (.ife (.cmp .eq (.var 3) (.cst (.str (sx [98,97,99,107])))) [(.exp (.meth .reverse (.var 5) []))] []), (.asg (.nm 2) (.bin .add (.var 2) (.var 5)))])]), (.ret (.bi .tuple [(.var 2)]))] }
def f__law_worths : Fn := { nm := (sx [95,108,97,119,95,119,111,114,116,104,115]), ps := [Str.ofString "feed", Str.ofString "numbers", Str.ofString "rows"], N := [Str.ofString "feed", Str.ofString "numbers", Str.ofString "rows", Str.ofString "found", Str.ofString "name", Str.ofString "turn"], body := [(.asg (.nm 3) (.dct [] [])), (.for_ (.nm 4) (.var 1) [(.sto (.var 3) (.var 4) (.call (sx [95,108,97,119,95,110,117,109,98,101,114]) [(.var 0)]))]), (.for_ (.nm 4) (.var 2) [(.sto (.var 3) (.var 4) (.bi .tuple [(.lc (.call (sx [95,108,97,119,95,110,117,109,98,101,114]) [(.var 0)]) (.nm 5) (.rng [(.call (sx [95,108,97,119,95,116,97,107,101]) [(.var 0), (.call (sx [95,108,97,119,95,112,105,99,107]) [(.var 0), (.lst [(.cst (.int 2)), (.cst (.int 4)), (.cst (.int 10))])])])]) [] [5])]))]), (.ret (.var 3))] }
def f_law : Fn := { nm := (sx [108,97,119]), ps := [Str.ofString "script"], N := [Str.ofString "script", Str.ofString "k", Str.ofString "feed", Str.ofString "names", Str.ofString "worths", Str.ofString "word", Str.ofString "seen", Str.ofString "due", Str.ofString "told", Str.ofString "other", Str.ofString "pairs", Str.ofString "sort", Str.ofString "inner"], body := [(.for_ (.nm 1) (.rng [(.bi .max [(.cst (.int 2)), (.bi .min [(.cst (.int 8)), (.bi .len [(.var 0)])])])]) [(.asg (.nm 2) (.call (sx [95,108,97,119,95,102,101,101,100]) [(.var 0), (.var 1)])), (.asg (.nm 3) (.call (sx [95,108,97,119,95,110,97,109,101,115]) [(.var 2), (.cst (.int 6))])), (.asg (.nm 4) (.call (sx [95,108,97,119,95,119,111,114,116,104,115]) [(.var 2), (.sl (.var 3) none (some (.cst (.int 3)))), (.sl (.var 3) (some (.cst (.int 3))) none)])), (.asg (.nm 5) (.call (sx [95,108,97,119,95,119,111,114,100]) [(.var 2), (.sl (.var 3) none (some (.cst (.int 3)))), (.sl (.var 3) (some (.cst (.int 3))) none), (.cst (.int 6))])), (.asg (.nm 6) (.bi .repr [(.var 4)])), (.asg (.nm 7) (.call (sx [95,108,97,119,95,114,111,119]) [(.var 5), (.var 4)])), (.asg (.nm 8) (.call (sx [114,111,119,95,111,102]) [(.var 5), (.var 4)])), (.ife (.or_ (.not_ (.isi (.var 8) ["tuple"])) (.or_ (.cmp .ne (.var 8) (.var 7)) (.cmp .ne (.bi .repr [(.var 4)]) (.var 6)))) [(.ret (.cst (.bl false)))] []), (.asg (.nm 9) (.call (sx [116,117,114,110,101,100]) [(.var 5)])), (.asg (.nm 10) (.lc (.tup [(.ix (.dct [(.inr (sx [111,110,101])), (.inr (sx [114,111,119])), (.inr (sx [98,97,99,107]))] [(.cst (.str (sx [111,110,101]))), (.cst (.str (sx [98,97,99,107]))), (.cst (.str (sx [114,111,119])))]) (.var 11)), (.var 12)]) (.tup [(.nm 11), (.nm 12)]) (.var 5) [] [11, 12])), (.ife (.or_ (.not_ (.isi (.var 9) ["tuple"])) (.cmp .ne (.var 9) (.bi .tuple [(.rev (.var 10))]))) [(.ret (.cst (.bl false)))] []), (.ife (.or_ (.cmp .ne (.call (sx [114,111,119,95,111,102]) [(.var 9), (.var 4)]) (.rev (.var 7))) (.cmp .ne (.call (sx [116,117,114,110,101,100]) [(.var 9)]) (.var 5))) [(.ret (.cst (.bl false)))] [])]), (.ret (.and_ (.cmp .eq (.call (sx [114,111,119,95,111,102]) [(.tup []), (.dct [] [])]) (.tup [])) (.cmp .eq (.call (sx [116,117,114,110,101,100]) [(.tup [])]) (.tup []))))] }
def fs : List Fn := [f_turned, f_number_of, f_piece_row, f_row_of, f__law_feed, f__law_take, f__law_pick, f__law_names, f__law_number, f__law_word, f__law_row, f__law_worths, f_law]
section
variable {fuel k : Nat} {S : Sto}
theorem fd_take : fs.find? (fun f => decide (f.nm = nmTake)) = some fnTake := by kernel_rfl
theorem fd_pick : fs.find? (fun f => decide (f.nm = nmPick)) = some fnPick := by kernel_rfl
theorem fd_feed : fs.find? (fun f => decide (f.nm = nmFeed)) = some fnFeed := by kernel_rfl
theorem fd_names : fs.find? (fun f => decide (f.nm = nmNames)) = some fnNames := by kernel_rfl
theorem fd_number : fs.find? (fun f => decide (f.nm = nmNumber)) = some fnNumber := by kernel_rfl
theorem fd_word : fs.find? (fun f => decide (f.nm = nmWord)) = some fnWord := by kernel_rfl
theorem fd_turned : fs.find? (fun f => decide (f.nm = f_turned.nm)) = some f_turned := by kernel_rfl
theorem fd_number_of : fs.find? (fun f => decide (f.nm = f_number_of.nm)) = some f_number_of := by kernel_rfl
theorem fd_piece_row : fs.find? (fun f => decide (f.nm = f_piece_row.nm)) = some f_piece_row := by kernel_rfl
theorem fd_row_of : fs.find? (fun f => decide (f.nm = f_row_of.nm)) = some f_row_of := by kernel_rfl
theorem fd__law_row : fs.find? (fun f => decide (f.nm = f__law_row.nm)) = some f__law_row := by kernel_rfl
theorem fd__law_worths : fs.find? (fun f => decide (f.nm = f__law_worths.nm)) = some f__law_worths := by kernel_rfl
theorem fd_law : fs.find? (fun f => decide (f.nm = f_law.nm)) = some f_law := by kernel_rfl
abbrev sTurned : Str := sx [84,85,82,78,69,68]
abbrev Kvs := List (L2.Key × D)
theorem g_turned : g.gds.lookup sTurned = some [(.inr sOne, .str sOne), (.inr sRow, .str sBack), (.inr sBack, .str sRow)] := by kernel_rfl
/-- a row that is told -/
def VT (v : D) : Prop := ∃ ys, v = .tup ys ∧ ys.length ≤ 9 ∧ ∀ y ∈ ys, Num y
def VW (v : D) : Prop := Num v ∨ VT v
def An (kvs : Kvs) (z : Str) : Prop := ∃ v, valD kvs (.inr z) = some v ∧ VW v
def Bn (kvs : Kvs) (z : Str) : Prop := ∃ v, valD kvs (.inr z) = some v ∧ VT v
abbrev PcW (kvs : Kvs) (x : D) : Prop := PcG (An kvs) (Bn kvs) x
def lookW (kvs : Kvs) (z : Str) : D := (valD kvs (.inr z)).getD .non
def rowI (kvs : Kvs) (z : Str) : List D := match lookW kvs z with
  | .tup ys => ys
  | _ => []
def rowP (kvs : Kvs) : D → List D
  | .tup [.str s, .str z] => if s = sOne then [lookW kvs z] else if s = sRow then rowI kvs z else (rowI kvs z).reverse
  | .tup [.str _, v] => [v]
  | _ => []
def rowW (kvs : Kvs) (ws : List D) : List D := (ws.map (rowP kvs)).flatten
def turnP : D → D
  | .tup [.str s, b] => .tup [.str (if s = sOne then sOne else if s = sRow then sBack else sRow), b]
  | d => d
def turnW (ws : List D) : List D := ws.reverse.map turnP
theorem row_ne_one : ¬ sRow = sOne := by decide +kernel
theorem back_ne_one : ¬ sBack = sOne := by decide +kernel
theorem back_ne_row : ¬ sBack = sRow := by decide +kernel
section
variable {kvs : Kvs}
theorem lookW_eq {z : Str} {v : D} (h : valD kvs (.inr z) = some v) : lookW kvs z = v := by simp [lookW, h]
theorem rowP_name {z : Str} : rowP kvs (.tup [.str sOne, .str z]) = [lookW kvs z] := by simp [rowP]
theorem rowP_num {i : Int} : rowP kvs (.tup [.str sOne, .int i]) = [.int i] := rfl
theorem rowP_row {z : Str} : rowP kvs (.tup [.str sRow, .str z]) = rowI kvs z := by
  simp only [rowP]
  rw [if_neg row_ne_one, if_pos trivial]
theorem rowP_back {z : Str} : rowP kvs (.tup [.str sBack, .str z]) = (rowI kvs z).reverse := by
  simp only [rowP]
  rw [if_neg back_ne_one, if_neg back_ne_row]
theorem Bn.row {z : Str} (h : Bn kvs z) : valD kvs (.inr z) = some (.tup (rowI kvs z)) ∧ (rowI kvs z).length ≤ 9 ∧ ∀ y ∈ rowI kvs z, Num y := by
  obtain ⟨v, e, ys, rfl, h1, h2⟩ := h
  have : rowI kvs z = ys := by simp [rowI, lookW_eq e]
  rw [this]
  exact ⟨e, h1, h2⟩
theorem Num.vw {y : D} (h : Num y) : VW y := .inl h
theorem rowP_ok {x : D} (h : PcW kvs x) : (rowP kvs x).length ≤ 9 ∧ ∀ y ∈ rowP kvs x, VW y := by
  cases h with
  | name h =>
    obtain ⟨v, e, h⟩ := h
    rw [rowP_name, lookW_eq e]
    exact ⟨by simp, fun y hy => by simp at hy; subst hy; exact h⟩
  | num h1 h2 =>
    rw [rowP_num]
    exact ⟨by simp, fun y hy => by simp at hy; subst hy; exact .inl ⟨_, rfl, h1, h2⟩⟩
  | row h =>
    rw [rowP_row]
    exact ⟨h.row.2.1, fun y hy => .inl (h.row.2.2 y hy)⟩
  | back h =>
    rw [rowP_back]
    exact ⟨by rw [List.length_reverse]; exact h.row.2.1, fun y hy => .inl (h.row.2.2 y (by simpa using hy))⟩
theorem turnP_pc {x : D} (h : PcW kvs x) : PcW kvs (turnP x) ∧ turnP (turnP x) = x ∧ rowP kvs (turnP x) = (rowP kvs x).reverse := by
  cases h with
  | name h =>
    rename_i z
    have e : turnP (.tup [.str sOne, .str z]) = .tup [.str sOne, .str z] := by simp only [turnP]; rw [if_pos trivial]
    rw [e, e, rowP_name]
    exact ⟨.name h, rfl, rfl⟩
  | num h1 h2 =>
    rename_i z
    have e : turnP (.tup [.str sOne, .int z]) = .tup [.str sOne, .int z] := by simp only [turnP]; rw [if_pos trivial]
    rw [e, e, rowP_num]
    exact ⟨.num h1 h2, rfl, rfl⟩
  | row h =>
    rename_i z
    have e : turnP (.tup [.str sRow, .str z]) = .tup [.str sBack, .str z] := by simp only [turnP]; rw [if_neg row_ne_one, if_pos trivial]
    have e2 : turnP (.tup [.str sBack, .str z]) = .tup [.str sRow, .str z] := by simp only [turnP]; rw [if_neg back_ne_one, if_neg back_ne_row]
    rw [e, e2, rowP_row, rowP_back]
    exact ⟨.back h, rfl, rfl⟩
  | back h =>
    rename_i z
    have e : turnP (.tup [.str sRow, .str z]) = .tup [.str sBack, .str z] := by simp only [turnP]; rw [if_neg row_ne_one, if_pos trivial]
    have e2 : turnP (.tup [.str sBack, .str z]) = .tup [.str sRow, .str z] := by simp only [turnP]; rw [if_neg back_ne_one, if_neg back_ne_row]
    rw [e2, e, rowP_row, rowP_back]
    exact ⟨.row h, rfl, by simp⟩
theorem turnW_ok {ws : List D} (h : ∀ x ∈ ws, PcW kvs x) : (∀ x ∈ turnW ws, PcW kvs x) ∧ turnW (turnW ws) = ws ∧ rowW kvs (turnW ws) = (rowW kvs ws).reverse := by
  refine ⟨fun x hx => ?_, ?_, ?_⟩
  · obtain ⟨y, hy, rfl⟩ := List.mem_map.mp hx
    exact (turnP_pc (h y (by simpa using hy))).1
  · unfold turnW
    rw [← List.map_reverse, List.map_map, List.reverse_reverse]
    have : ws.map (turnP ∘ turnP) = ws.map id := List.map_congr_left fun x hx => (turnP_pc (h x hx)).2.1
    rw [this, List.map_id]
  · unfold rowW turnW
    rw [List.map_map, List.reverse_flatten, List.map_map, List.map_reverse]
    congr 2
    exact List.map_congr_left fun x hx => (turnP_pc (h x hx)).2.2
theorem rowW_len {ws : List D} (h : ∀ x ∈ ws, PcW kvs x) : (rowW kvs ws).length ≤ 9 * ws.length ∧ ∀ y ∈ rowW kvs ws, VW y := by
  induction ws with
  | nil => exact ⟨Nat.le_refl _, fun y hy => by simp [rowW] at hy⟩
  | cons x r ih =>
    obtain ⟨h1, h2⟩ := ih fun y hy => h y (List.mem_cons_of_mem _ hy)
    obtain ⟨h3, h4⟩ := rowP_ok (h x List.mem_cons_self)
    have e : rowW kvs (x :: r) = rowP kvs x ++ rowW kvs r := rfl
    rw [e]
    refine ⟨by simp; omega, fun y hy => ?_⟩
    rcases List.mem_append.mp hy with hy | hy
    · exact h4 y hy
    · exact h2 y hy
theorem rowW_take {ws : List D} {i : Nat} {x : D} (h : ws[i]? = some x) : rowW kvs (ws.take (i + 1)) = rowW kvs (ws.take i) ++ rowP kvs x := by
  unfold rowW
  rw [List.take_add_one, h]
  simp
/-! ### the program -/
theorem cd_eq_str {x y : Str} : cmpD g .eq (.str x) (.str y) S = some (x == y) := rfl
theorem number_of_ok {m : Nat} (e : S[m]? = some (.dct kvs)) {x : D} {v : D} (hx : (∃ i, x = .int i ∧ v = .int i) ∨ ∃ z, x = .str z ∧ valD kvs (.inr z) = some v) :
    callN g fs fuel (k + 1) f_number_of.nm [x, .loc .dct m] S = some (v, S) := by
  have : Op (callN g fs fuel (k + 1) f_number_of.nm [x, .loc .dct m] S) fun d S1 => d = v ∧ S1 = S := by
    refine callN_at fd_number_of rfl ?_
    simp only [f_number_of]
    rcases hx with ⟨i, rfl, rfl⟩ | ⟨z, rfl, h⟩
    · (try simp only [WCs_cons, WCs_nil, WC_exp, WC_asg, WC_sto, WC_ret, WC_retN, WC_ife, WC_pass, WC_brk, WC_cnt, WE_var, WE_cst, WE_tup, WE_lst, WE_bin, WE_neg, WE_cmp, WE_chain, WE_is, WE_and, WE_or, WE_not, WE_ife, WE_bi, WE_isi, WE_meth, WE_ix, WE_sl, WE_rev, WO_none, WO_some, WT_and, WT_or, WT_not, WT_ife, WEs_nil, WEs_cons, WT_pl (e := .var _) rfl, WT_pl (e := .cst _) rfl, WT_pl (e := .cmp _ _ _) rfl, WT_pl (e := .chain _ _ _ _ _) rfl, WT_pl (e := .is_ _ _ _) rfl, WT_pl (e := .call _ _) rfl, WT_pl (e := .bi _ _) rfl, WT_pl (e := .isi _ _) rfl, WT_pl (e := .meth _ _ _) rfl, WT_pl (e := .ix _ _) rfl, WW_pl (e := .var _) rfl, WW_pl (e := .lst _) rfl, WW_pl (e := .tup _) rfl, WW_rng1, List.map_cons, List.map_nil, List.length_cons, List.length_nil, List.cons_append, List.nil_append, List.replicate, List.getElem?_cons_zero, List.getElem?_cons_succ, Fin_rt, Fin_nx, gc_self, asg, asgAll, List.set_cons_zero, List.set_cons_succ, Op_some, Opg_some, wkOf, Wk.items, Wk.ok, truth, isD, tyOf, bd_add, bd_sub, bd_mulr, bd_mull, bd_fdiv, bd_mod, bd_pow, cd_lt, cd_le, cd_gt, cd_ge, bi_abs, bi_max, bi_min, bi_lenS, bi_lenT, bi_lenR, bi_tupT, bi_listT, at20, at21, ixn20, ixn21, gc_set, Int.reduceLT, Int.reduceNeg, Int.reduceLE, Nat.reduceAdd, Nat.reduceLT, Nat.reduceLeDiff, pow_18, pow_9, pow_8, Op_addtup, sl_tup, Int.reduceToNat, Nat.zero_add, Nat.reduceSub, Int.reducePow, Int.reduceSub, Int.reduceMul, Int.reduceAdd, gc_int, gc_bl, gc_str, gc_tup, true_and, and_true, kit_NoneType_int, kit_NoneType_bool, kit_NoneType_str, kit_NoneType_tuple, kit_NoneType_list, kit_bool_int, kit_bool_bool, kit_bool_str, kit_bool_tuple, kit_bool_list, kit_int_int, kit_int_bool, kit_int_str, kit_int_tuple, kit_int_list, kit_str_int, kit_str_bool, kit_str_str, kit_str_tuple, kit_str_list, kit_tuple_int, kit_tuple_bool, kit_tuple_str, kit_tuple_tuple, kit_tuple_list, kit_list_int, kit_list_bool, kit_list_str, kit_list_tuple, kit_list_list])
    · (try simp only [WCs_cons, WCs_nil, WC_exp, WC_asg, WC_sto, WC_ret, WC_retN, WC_ife, WC_pass, WC_brk, WC_cnt, WE_var, WE_cst, WE_tup, WE_lst, WE_bin, WE_neg, WE_cmp, WE_chain, WE_is, WE_and, WE_or, WE_not, WE_ife, WE_bi, WE_isi, WE_meth, WE_ix, WE_sl, WE_rev, WO_none, WO_some, WT_and, WT_or, WT_not, WT_ife, WEs_nil, WEs_cons, WT_pl (e := .var _) rfl, WT_pl (e := .cst _) rfl, WT_pl (e := .cmp _ _ _) rfl, WT_pl (e := .chain _ _ _ _ _) rfl, WT_pl (e := .is_ _ _ _) rfl, WT_pl (e := .call _ _) rfl, WT_pl (e := .bi _ _) rfl, WT_pl (e := .isi _ _) rfl, WT_pl (e := .meth _ _ _) rfl, WT_pl (e := .ix _ _) rfl, WW_pl (e := .var _) rfl, WW_pl (e := .lst _) rfl, WW_pl (e := .tup _) rfl, WW_rng1, List.map_cons, List.map_nil, List.length_cons, List.length_nil, List.cons_append, List.nil_append, List.replicate, List.getElem?_cons_zero, List.getElem?_cons_succ, Fin_rt, Fin_nx, gc_self, asg, asgAll, List.set_cons_zero, List.set_cons_succ, Op_some, Opg_some, wkOf, Wk.items, Wk.ok, truth, isD, tyOf, bd_add, bd_sub, bd_mulr, bd_mull, bd_fdiv, bd_mod, bd_pow, cd_lt, cd_le, cd_gt, cd_ge, bi_abs, bi_max, bi_min, bi_lenS, bi_lenT, bi_lenR, bi_tupT, bi_listT, at20, at21, ixn20, ixn21, gc_set, Int.reduceLT, Int.reduceNeg, Int.reduceLE, Nat.reduceAdd, Nat.reduceLT, Nat.reduceLeDiff, pow_18, pow_9, pow_8, Op_addtup, sl_tup, Int.reduceToNat, Nat.zero_add, Nat.reduceSub, Int.reducePow, Int.reduceSub, Int.reduceMul, Int.reduceAdd, gc_int, gc_bl, gc_str, gc_tup, true_and, and_true, kit_NoneType_int, kit_NoneType_bool, kit_NoneType_str, kit_NoneType_tuple, kit_NoneType_list, kit_bool_int, kit_bool_bool, kit_bool_str, kit_bool_tuple, kit_bool_list, kit_int_int, kit_int_bool, kit_int_str, kit_int_tuple, kit_int_list, kit_str_int, kit_str_bool, kit_str_str, kit_str_tuple, kit_str_list, kit_tuple_int, kit_tuple_bool, kit_tuple_str, kit_tuple_tuple, kit_tuple_list, kit_list_int, kit_list_bool, kit_list_str, kit_list_tuple, kit_list_list, ix_dct e, h])
  obtain ⟨d, S1, e1, rfl, rfl⟩ := Op.ex this
  exact e1
theorem one_beq : (sOne == sx [111,110,101]) = true := by decide +kernel
theorem row_beq1 : (sRow == sx [111,110,101]) = false := by decide +kernel
theorem back_beq1 : (sBack == sx [111,110,101]) = false := by decide +kernel
theorem row_beq : (sRow == sx [114,111,119]) = true := by decide +kernel
theorem back_beq : (sBack == sx [114,111,119]) = false := by decide +kernel
theorem row_beqb : (sRow == sx [98,97,99,107]) = false := by decide +kernel
theorem back_beqb : (sBack == sx [98,97,99,107]) = true := by decide +kernel
theorem piece_row_ok {m : Nat} (e : S[m]? = some (.dct kvs)) {x : D} (hx : PcW kvs x) : callN g fs fuel (k + 2) f_piece_row.nm [x, .loc .dct m] S = some (.tup (rowP kvs x), S) := by
  have : Op (callN g fs fuel (k + 2) f_piece_row.nm [x, .loc .dct m] S) fun d S1 => d = .tup (rowP kvs x) ∧ S1 = S := by
    refine callN_at fd_piece_row rfl ?_
    simp only [f_piece_row]
    cases hx with
    | name h =>
      obtain ⟨v, h1, h2⟩ := h
      rw [WCs_cons, WC_asg, WE_var]
      (try simp only [WCs_cons, WCs_nil, WC_exp, WC_asg, WC_sto, WC_ret, WC_retN, WC_ife, WC_pass, WC_brk, WC_cnt, WE_var, WE_cst, WE_tup, WE_lst, WE_bin, WE_neg, WE_cmp, WE_chain, WE_is, WE_and, WE_or, WE_not, WE_ife, WE_bi, WE_isi, WE_meth, WE_ix, WE_sl, WE_rev, WO_none, WO_some, WT_and, WT_or, WT_not, WT_ife, WEs_nil, WEs_cons, WT_pl (e := .var _) rfl, WT_pl (e := .cst _) rfl, WT_pl (e := .cmp _ _ _) rfl, WT_pl (e := .chain _ _ _ _ _) rfl, WT_pl (e := .is_ _ _ _) rfl, WT_pl (e := .call _ _) rfl, WT_pl (e := .bi _ _) rfl, WT_pl (e := .isi _ _) rfl, WT_pl (e := .meth _ _ _) rfl, WT_pl (e := .ix _ _) rfl, WW_pl (e := .var _) rfl, WW_pl (e := .lst _) rfl, WW_pl (e := .tup _) rfl, WW_rng1, List.map_cons, List.map_nil, List.length_cons, List.length_nil, List.cons_append, List.nil_append, List.replicate, List.getElem?_cons_zero, List.getElem?_cons_succ, Fin_rt, Fin_nx, gc_self, asg, asgAll, List.set_cons_zero, List.set_cons_succ, Op_some, Opg_some, wkOf, Wk.items, Wk.ok, truth, isD, tyOf, bd_add, bd_sub, bd_mulr, bd_mull, bd_fdiv, bd_mod, bd_pow, cd_lt, cd_le, cd_gt, cd_ge, bi_abs, bi_max, bi_min, bi_lenS, bi_lenT, bi_lenR, bi_tupT, bi_listT, at20, at21, ixn20, ixn21, gc_set, Int.reduceLT, Int.reduceNeg, Int.reduceLE, Nat.reduceAdd, Nat.reduceLT, Nat.reduceLeDiff, pow_18, pow_9, pow_8, Op_addtup, sl_tup, Int.reduceToNat, Nat.zero_add, Nat.reduceSub, Int.reducePow, Int.reduceSub, Int.reduceMul, Int.reduceAdd, gc_int, gc_bl, gc_str, gc_tup, true_and, and_true, cd_eq_str, one_beq])
      rw [WE_call]
      (try simp only [WCs_cons, WCs_nil, WC_exp, WC_asg, WC_sto, WC_ret, WC_retN, WC_ife, WC_pass, WC_brk, WC_cnt, WE_var, WE_cst, WE_tup, WE_lst, WE_bin, WE_neg, WE_cmp, WE_chain, WE_is, WE_and, WE_or, WE_not, WE_ife, WE_bi, WE_isi, WE_meth, WE_ix, WE_sl, WE_rev, WO_none, WO_some, WT_and, WT_or, WT_not, WT_ife, WEs_nil, WEs_cons, WT_pl (e := .var _) rfl, WT_pl (e := .cst _) rfl, WT_pl (e := .cmp _ _ _) rfl, WT_pl (e := .chain _ _ _ _ _) rfl, WT_pl (e := .is_ _ _ _) rfl, WT_pl (e := .call _ _) rfl, WT_pl (e := .bi _ _) rfl, WT_pl (e := .isi _ _) rfl, WT_pl (e := .meth _ _ _) rfl, WT_pl (e := .ix _ _) rfl, WW_pl (e := .var _) rfl, WW_pl (e := .lst _) rfl, WW_pl (e := .tup _) rfl, WW_rng1, List.map_cons, List.map_nil, List.length_cons, List.length_nil, List.cons_append, List.nil_append, List.replicate, List.getElem?_cons_zero, List.getElem?_cons_succ, Fin_rt, Fin_nx, gc_self, asg, asgAll, List.set_cons_zero, List.set_cons_succ, Op_some, Opg_some, wkOf, Wk.items, Wk.ok, truth, isD, tyOf, bd_add, bd_sub, bd_mulr, bd_mull, bd_fdiv, bd_mod, bd_pow, cd_lt, cd_le, cd_gt, cd_ge, bi_abs, bi_max, bi_min, bi_lenS, bi_lenT, bi_lenR, bi_tupT, bi_listT, at20, at21, ixn20, ixn21, gc_set, Int.reduceLT, Int.reduceNeg, Int.reduceLE, Nat.reduceAdd, Nat.reduceLT, Nat.reduceLeDiff, pow_18, pow_9, pow_8, Op_addtup, sl_tup, Int.reduceToNat, Nat.zero_add, Nat.reduceSub, Int.reducePow, Int.reduceSub, Int.reduceMul, Int.reduceAdd, gc_int, gc_bl, gc_str, gc_tup, true_and, and_true])
      refine Op.of (number_of_ok e (.inr ⟨_, rfl, h1⟩)) ?_
      (try simp only [WCs_cons, WCs_nil, WC_exp, WC_asg, WC_sto, WC_ret, WC_retN, WC_ife, WC_pass, WC_brk, WC_cnt, WE_var, WE_cst, WE_tup, WE_lst, WE_bin, WE_neg, WE_cmp, WE_chain, WE_is, WE_and, WE_or, WE_not, WE_ife, WE_bi, WE_isi, WE_meth, WE_ix, WE_sl, WE_rev, WO_none, WO_some, WT_and, WT_or, WT_not, WT_ife, WEs_nil, WEs_cons, WT_pl (e := .var _) rfl, WT_pl (e := .cst _) rfl, WT_pl (e := .cmp _ _ _) rfl, WT_pl (e := .chain _ _ _ _ _) rfl, WT_pl (e := .is_ _ _ _) rfl, WT_pl (e := .call _ _) rfl, WT_pl (e := .bi _ _) rfl, WT_pl (e := .isi _ _) rfl, WT_pl (e := .meth _ _ _) rfl, WT_pl (e := .ix _ _) rfl, WW_pl (e := .var _) rfl, WW_pl (e := .lst _) rfl, WW_pl (e := .tup _) rfl, WW_rng1, List.map_cons, List.map_nil, List.length_cons, List.length_nil, List.cons_append, List.nil_append, List.replicate, List.getElem?_cons_zero, List.getElem?_cons_succ, Fin_rt, Fin_nx, gc_self, asg, asgAll, List.set_cons_zero, List.set_cons_succ, Op_some, Opg_some, wkOf, Wk.items, Wk.ok, truth, isD, tyOf, bd_add, bd_sub, bd_mulr, bd_mull, bd_fdiv, bd_mod, bd_pow, cd_lt, cd_le, cd_gt, cd_ge, bi_abs, bi_max, bi_min, bi_lenS, bi_lenT, bi_lenR, bi_tupT, bi_listT, at20, at21, ixn20, ixn21, gc_set, Int.reduceLT, Int.reduceNeg, Int.reduceLE, Nat.reduceAdd, Nat.reduceLT, Nat.reduceLeDiff, pow_18, pow_9, pow_8, Op_addtup, sl_tup, Int.reduceToNat, Nat.zero_add, Nat.reduceSub, Int.reducePow, Int.reduceSub, Int.reduceMul, Int.reduceAdd, gc_int, gc_bl, gc_str, gc_tup, true_and, and_true, rowP_name, lookW_eq h1])
      exact by decide
    | num h1 h2 =>
      rw [WCs_cons, WC_asg, WE_var]
      (try simp only [WCs_cons, WCs_nil, WC_exp, WC_asg, WC_sto, WC_ret, WC_retN, WC_ife, WC_pass, WC_brk, WC_cnt, WE_var, WE_cst, WE_tup, WE_lst, WE_bin, WE_neg, WE_cmp, WE_chain, WE_is, WE_and, WE_or, WE_not, WE_ife, WE_bi, WE_isi, WE_meth, WE_ix, WE_sl, WE_rev, WO_none, WO_some, WT_and, WT_or, WT_not, WT_ife, WEs_nil, WEs_cons, WT_pl (e := .var _) rfl, WT_pl (e := .cst _) rfl, WT_pl (e := .cmp _ _ _) rfl, WT_pl (e := .chain _ _ _ _ _) rfl, WT_pl (e := .is_ _ _ _) rfl, WT_pl (e := .call _ _) rfl, WT_pl (e := .bi _ _) rfl, WT_pl (e := .isi _ _) rfl, WT_pl (e := .meth _ _ _) rfl, WT_pl (e := .ix _ _) rfl, WW_pl (e := .var _) rfl, WW_pl (e := .lst _) rfl, WW_pl (e := .tup _) rfl, WW_rng1, List.map_cons, List.map_nil, List.length_cons, List.length_nil, List.cons_append, List.nil_append, List.replicate, List.getElem?_cons_zero, List.getElem?_cons_succ, Fin_rt, Fin_nx, gc_self, asg, asgAll, List.set_cons_zero, List.set_cons_succ, Op_some, Opg_some, wkOf, Wk.items, Wk.ok, truth, isD, tyOf, bd_add, bd_sub, bd_mulr, bd_mull, bd_fdiv, bd_mod, bd_pow, cd_lt, cd_le, cd_gt, cd_ge, bi_abs, bi_max, bi_min, bi_lenS, bi_lenT, bi_lenR, bi_tupT, bi_listT, at20, at21, ixn20, ixn21, gc_set, Int.reduceLT, Int.reduceNeg, Int.reduceLE, Nat.reduceAdd, Nat.reduceLT, Nat.reduceLeDiff, pow_18, pow_9, pow_8, Op_addtup, sl_tup, Int.reduceToNat, Nat.zero_add, Nat.reduceSub, Int.reducePow, Int.reduceSub, Int.reduceMul, Int.reduceAdd, gc_int, gc_bl, gc_str, gc_tup, true_and, and_true, cd_eq_str, one_beq])
      rw [WE_call]
      (try simp only [WCs_cons, WCs_nil, WC_exp, WC_asg, WC_sto, WC_ret, WC_retN, WC_ife, WC_pass, WC_brk, WC_cnt, WE_var, WE_cst, WE_tup, WE_lst, WE_bin, WE_neg, WE_cmp, WE_chain, WE_is, WE_and, WE_or, WE_not, WE_ife, WE_bi, WE_isi, WE_meth, WE_ix, WE_sl, WE_rev, WO_none, WO_some, WT_and, WT_or, WT_not, WT_ife, WEs_nil, WEs_cons, WT_pl (e := .var _) rfl, WT_pl (e := .cst _) rfl, WT_pl (e := .cmp _ _ _) rfl, WT_pl (e := .chain _ _ _ _ _) rfl, WT_pl (e := .is_ _ _ _) rfl, WT_pl (e := .call _ _) rfl, WT_pl (e := .bi _ _) rfl, WT_pl (e := .isi _ _) rfl, WT_pl (e := .meth _ _ _) rfl, WT_pl (e := .ix _ _) rfl, WW_pl (e := .var _) rfl, WW_pl (e := .lst _) rfl, WW_pl (e := .tup _) rfl, WW_rng1, List.map_cons, List.map_nil, List.length_cons, List.length_nil, List.cons_append, List.nil_append, List.replicate, List.getElem?_cons_zero, List.getElem?_cons_succ, Fin_rt, Fin_nx, gc_self, asg, asgAll, List.set_cons_zero, List.set_cons_succ, Op_some, Opg_some, wkOf, Wk.items, Wk.ok, truth, isD, tyOf, bd_add, bd_sub, bd_mulr, bd_mull, bd_fdiv, bd_mod, bd_pow, cd_lt, cd_le, cd_gt, cd_ge, bi_abs, bi_max, bi_min, bi_lenS, bi_lenT, bi_lenR, bi_tupT, bi_listT, at20, at21, ixn20, ixn21, gc_set, Int.reduceLT, Int.reduceNeg, Int.reduceLE, Nat.reduceAdd, Nat.reduceLT, Nat.reduceLeDiff, pow_18, pow_9, pow_8, Op_addtup, sl_tup, Int.reduceToNat, Nat.zero_add, Nat.reduceSub, Int.reducePow, Int.reduceSub, Int.reduceMul, Int.reduceAdd, gc_int, gc_bl, gc_str, gc_tup, true_and, and_true])
      refine Op.of (number_of_ok e (.inl ⟨_, rfl, rfl⟩)) ?_
      (try simp only [WCs_cons, WCs_nil, WC_exp, WC_asg, WC_sto, WC_ret, WC_retN, WC_ife, WC_pass, WC_brk, WC_cnt, WE_var, WE_cst, WE_tup, WE_lst, WE_bin, WE_neg, WE_cmp, WE_chain, WE_is, WE_and, WE_or, WE_not, WE_ife, WE_bi, WE_isi, WE_meth, WE_ix, WE_sl, WE_rev, WO_none, WO_some, WT_and, WT_or, WT_not, WT_ife, WEs_nil, WEs_cons, WT_pl (e := .var _) rfl, WT_pl (e := .cst _) rfl, WT_pl (e := .cmp _ _ _) rfl, WT_pl (e := .chain _ _ _ _ _) rfl, WT_pl (e := .is_ _ _ _) rfl, WT_pl (e := .call _ _) rfl, WT_pl (e := .bi _ _) rfl, WT_pl (e := .isi _ _) rfl, WT_pl (e := .meth _ _ _) rfl, WT_pl (e := .ix _ _) rfl, WW_pl (e := .var _) rfl, WW_pl (e := .lst _) rfl, WW_pl (e := .tup _) rfl, WW_rng1, List.map_cons, List.map_nil, List.length_cons, List.length_nil, List.cons_append, List.nil_append, List.replicate, List.getElem?_cons_zero, List.getElem?_cons_succ, Fin_rt, Fin_nx, gc_self, asg, asgAll, List.set_cons_zero, List.set_cons_succ, Op_some, Opg_some, wkOf, Wk.items, Wk.ok, truth, isD, tyOf, bd_add, bd_sub, bd_mulr, bd_mull, bd_fdiv, bd_mod, bd_pow, cd_lt, cd_le, cd_gt, cd_ge, bi_abs, bi_max, bi_min, bi_lenS, bi_lenT, bi_lenR, bi_tupT, bi_listT, at20, at21, ixn20, ixn21, gc_set, Int.reduceLT, Int.reduceNeg, Int.reduceLE, Nat.reduceAdd, Nat.reduceLT, Nat.reduceLeDiff, pow_18, pow_9, pow_8, Op_addtup, sl_tup, Int.reduceToNat, Nat.zero_add, Nat.reduceSub, Int.reducePow, Int.reduceSub, Int.reduceMul, Int.reduceAdd, gc_int, gc_bl, gc_str, gc_tup, true_and, and_true, rowP_num])
      exact by decide
    | row h =>
      rw [WCs_cons, WC_asg, WE_var]
      (try simp only [WCs_cons, WCs_nil, WC_exp, WC_asg, WC_sto, WC_ret, WC_retN, WC_ife, WC_pass, WC_brk, WC_cnt, WE_var, WE_cst, WE_tup, WE_lst, WE_bin, WE_neg, WE_cmp, WE_chain, WE_is, WE_and, WE_or, WE_not, WE_ife, WE_bi, WE_isi, WE_meth, WE_ix, WE_sl, WE_rev, WO_none, WO_some, WT_and, WT_or, WT_not, WT_ife, WEs_nil, WEs_cons, WT_pl (e := .var _) rfl, WT_pl (e := .cst _) rfl, WT_pl (e := .cmp _ _ _) rfl, WT_pl (e := .chain _ _ _ _ _) rfl, WT_pl (e := .is_ _ _ _) rfl, WT_pl (e := .call _ _) rfl, WT_pl (e := .bi _ _) rfl, WT_pl (e := .isi _ _) rfl, WT_pl (e := .meth _ _ _) rfl, WT_pl (e := .ix _ _) rfl, WW_pl (e := .var _) rfl, WW_pl (e := .lst _) rfl, WW_pl (e := .tup _) rfl, WW_rng1, List.map_cons, List.map_nil, List.length_cons, List.length_nil, List.cons_append, List.nil_append, List.replicate, List.getElem?_cons_zero, List.getElem?_cons_succ, Fin_rt, Fin_nx, gc_self, asg, asgAll, List.set_cons_zero, List.set_cons_succ, Op_some, Opg_some, wkOf, Wk.items, Wk.ok, truth, isD, tyOf, bd_add, bd_sub, bd_mulr, bd_mull, bd_fdiv, bd_mod, bd_pow, cd_lt, cd_le, cd_gt, cd_ge, bi_abs, bi_max, bi_min, bi_lenS, bi_lenT, bi_lenR, bi_tupT, bi_listT, at20, at21, ixn20, ixn21, gc_set, Int.reduceLT, Int.reduceNeg, Int.reduceLE, Nat.reduceAdd, Nat.reduceLT, Nat.reduceLeDiff, pow_18, pow_9, pow_8, Op_addtup, sl_tup, Int.reduceToNat, Nat.zero_add, Nat.reduceSub, Int.reducePow, Int.reduceSub, Int.reduceMul, Int.reduceAdd, gc_int, gc_bl, gc_str, gc_tup, true_and, and_true])
      (try simp only [WCs_cons, WCs_nil, WC_exp, WC_asg, WC_sto, WC_ret, WC_retN, WC_ife, WC_pass, WC_brk, WC_cnt, WE_var, WE_cst, WE_tup, WE_lst, WE_bin, WE_neg, WE_cmp, WE_chain, WE_is, WE_and, WE_or, WE_not, WE_ife, WE_bi, WE_isi, WE_meth, WE_ix, WE_sl, WE_rev, WO_none, WO_some, WT_and, WT_or, WT_not, WT_ife, WEs_nil, WEs_cons, WT_pl (e := .var _) rfl, WT_pl (e := .cst _) rfl, WT_pl (e := .cmp _ _ _) rfl, WT_pl (e := .chain _ _ _ _ _) rfl, WT_pl (e := .is_ _ _ _) rfl, WT_pl (e := .call _ _) rfl, WT_pl (e := .bi _ _) rfl, WT_pl (e := .isi _ _) rfl, WT_pl (e := .meth _ _ _) rfl, WT_pl (e := .ix _ _) rfl, WW_pl (e := .var _) rfl, WW_pl (e := .lst _) rfl, WW_pl (e := .tup _) rfl, WW_rng1, List.map_cons, List.map_nil, List.length_cons, List.length_nil, List.cons_append, List.nil_append, List.replicate, List.getElem?_cons_zero, List.getElem?_cons_succ, Fin_rt, Fin_nx, gc_self, asg, asgAll, List.set_cons_zero, List.set_cons_succ, Op_some, Opg_some, wkOf, Wk.items, Wk.ok, truth, isD, tyOf, bd_add, bd_sub, bd_mulr, bd_mull, bd_fdiv, bd_mod, bd_pow, cd_lt, cd_le, cd_gt, cd_ge, bi_abs, bi_max, bi_min, bi_lenS, bi_lenT, bi_lenR, bi_tupT, bi_listT, at20, at21, ixn20, ixn21, gc_set, Int.reduceLT, Int.reduceNeg, Int.reduceLE, Nat.reduceAdd, Nat.reduceLT, Nat.reduceLeDiff, pow_18, pow_9, pow_8, Op_addtup, sl_tup, Int.reduceToNat, Nat.zero_add, Nat.reduceSub, Int.reducePow, Int.reduceSub, Int.reduceMul, Int.reduceAdd, gc_int, gc_bl, gc_str, gc_tup, true_and, and_true, cd_eq_str, row_beq1])
      (try simp only [WCs_cons, WCs_nil, WC_exp, WC_asg, WC_sto, WC_ret, WC_retN, WC_ife, WC_pass, WC_brk, WC_cnt, WE_var, WE_cst, WE_tup, WE_lst, WE_bin, WE_neg, WE_cmp, WE_chain, WE_is, WE_and, WE_or, WE_not, WE_ife, WE_bi, WE_isi, WE_meth, WE_ix, WE_sl, WE_rev, WO_none, WO_some, WT_and, WT_or, WT_not, WT_ife, WEs_nil, WEs_cons, WT_pl (e := .var _) rfl, WT_pl (e := .cst _) rfl, WT_pl (e := .cmp _ _ _) rfl, WT_pl (e := .chain _ _ _ _ _) rfl, WT_pl (e := .is_ _ _ _) rfl, WT_pl (e := .call _ _) rfl, WT_pl (e := .bi _ _) rfl, WT_pl (e := .isi _ _) rfl, WT_pl (e := .meth _ _ _) rfl, WT_pl (e := .ix _ _) rfl, WW_pl (e := .var _) rfl, WW_pl (e := .lst _) rfl, WW_pl (e := .tup _) rfl, WW_rng1, List.map_cons, List.map_nil, List.length_cons, List.length_nil, List.cons_append, List.nil_append, List.replicate, List.getElem?_cons_zero, List.getElem?_cons_succ, Fin_rt, Fin_nx, gc_self, asg, asgAll, List.set_cons_zero, List.set_cons_succ, Op_some, Opg_some, wkOf, Wk.items, Wk.ok, truth, isD, tyOf, bd_add, bd_sub, bd_mulr, bd_mull, bd_fdiv, bd_mod, bd_pow, cd_lt, cd_le, cd_gt, cd_ge, bi_abs, bi_max, bi_min, bi_lenS, bi_lenT, bi_lenR, bi_tupT, bi_listT, at20, at21, ixn20, ixn21, gc_set, Int.reduceLT, Int.reduceNeg, Int.reduceLE, Nat.reduceAdd, Nat.reduceLT, Nat.reduceLeDiff, pow_18, pow_9, pow_8, Op_addtup, sl_tup, Int.reduceToNat, Nat.zero_add, Nat.reduceSub, Int.reducePow, Int.reduceSub, Int.reduceMul, Int.reduceAdd, gc_int, gc_bl, gc_str, gc_tup, true_and, and_true, cd_eq_str, row_beq, ix_dct e, h.row.1, rowP_row])
    | back h =>
      rw [WCs_cons, WC_asg, WE_var]
      (try simp only [WCs_cons, WCs_nil, WC_exp, WC_asg, WC_sto, WC_ret, WC_retN, WC_ife, WC_pass, WC_brk, WC_cnt, WE_var, WE_cst, WE_tup, WE_lst, WE_bin, WE_neg, WE_cmp, WE_chain, WE_is, WE_and, WE_or, WE_not, WE_ife, WE_bi, WE_isi, WE_meth, WE_ix, WE_sl, WE_rev, WO_none, WO_some, WT_and, WT_or, WT_not, WT_ife, WEs_nil, WEs_cons, WT_pl (e := .var _) rfl, WT_pl (e := .cst _) rfl, WT_pl (e := .cmp _ _ _) rfl, WT_pl (e := .chain _ _ _ _ _) rfl, WT_pl (e := .is_ _ _ _) rfl, WT_pl (e := .call _ _) rfl, WT_pl (e := .bi _ _) rfl, WT_pl (e := .isi _ _) rfl, WT_pl (e := .meth _ _ _) rfl, WT_pl (e := .ix _ _) rfl, WW_pl (e := .var _) rfl, WW_pl (e := .lst _) rfl, WW_pl (e := .tup _) rfl, WW_rng1, List.map_cons, List.map_nil, List.length_cons, List.length_nil, List.cons_append, List.nil_append, List.replicate, List.getElem?_cons_zero, List.getElem?_cons_succ, Fin_rt, Fin_nx, gc_self, asg, asgAll, List.set_cons_zero, List.set_cons_succ, Op_some, Opg_some, wkOf, Wk.items, Wk.ok, truth, isD, tyOf, bd_add, bd_sub, bd_mulr, bd_mull, bd_fdiv, bd_mod, bd_pow, cd_lt, cd_le, cd_gt, cd_ge, bi_abs, bi_max, bi_min, bi_lenS, bi_lenT, bi_lenR, bi_tupT, bi_listT, at20, at21, ixn20, ixn21, gc_set, Int.reduceLT, Int.reduceNeg, Int.reduceLE, Nat.reduceAdd, Nat.reduceLT, Nat.reduceLeDiff, pow_18, pow_9, pow_8, Op_addtup, sl_tup, Int.reduceToNat, Nat.zero_add, Nat.reduceSub, Int.reducePow, Int.reduceSub, Int.reduceMul, Int.reduceAdd, gc_int, gc_bl, gc_str, gc_tup, true_and, and_true])
      (try simp only [WCs_cons, WCs_nil, WC_exp, WC_asg, WC_sto, WC_ret, WC_retN, WC_ife, WC_pass, WC_brk, WC_cnt, WE_var, WE_cst, WE_tup, WE_lst, WE_bin, WE_neg, WE_cmp, WE_chain, WE_is, WE_and, WE_or, WE_not, WE_ife, WE_bi, WE_isi, WE_meth, WE_ix, WE_sl, WE_rev, WO_none, WO_some, WT_and, WT_or, WT_not, WT_ife, WEs_nil, WEs_cons, WT_pl (e := .var _) rfl, WT_pl (e := .cst _) rfl, WT_pl (e := .cmp _ _ _) rfl, WT_pl (e := .chain _ _ _ _ _) rfl, WT_pl (e := .is_ _ _ _) rfl, WT_pl (e := .call _ _) rfl, WT_pl (e := .bi _ _) rfl, WT_pl (e := .isi _ _) rfl, WT_pl (e := .meth _ _ _) rfl, WT_pl (e := .ix _ _) rfl, WW_pl (e := .var _) rfl, WW_pl (e := .lst _) rfl, WW_pl (e := .tup _) rfl, WW_rng1, List.map_cons, List.map_nil, List.length_cons, List.length_nil, List.cons_append, List.nil_append, List.replicate, List.getElem?_cons_zero, List.getElem?_cons_succ, Fin_rt, Fin_nx, gc_self, asg, asgAll, List.set_cons_zero, List.set_cons_succ, Op_some, Opg_some, wkOf, Wk.items, Wk.ok, truth, isD, tyOf, bd_add, bd_sub, bd_mulr, bd_mull, bd_fdiv, bd_mod, bd_pow, cd_lt, cd_le, cd_gt, cd_ge, bi_abs, bi_max, bi_min, bi_lenS, bi_lenT, bi_lenR, bi_tupT, bi_listT, at20, at21, ixn20, ixn21, gc_set, Int.reduceLT, Int.reduceNeg, Int.reduceLE, Nat.reduceAdd, Nat.reduceLT, Nat.reduceLeDiff, pow_18, pow_9, pow_8, Op_addtup, sl_tup, Int.reduceToNat, Nat.zero_add, Nat.reduceSub, Int.reducePow, Int.reduceSub, Int.reduceMul, Int.reduceAdd, gc_int, gc_bl, gc_str, gc_tup, true_and, and_true, cd_eq_str, back_beq1])
      (try simp only [WCs_cons, WCs_nil, WC_exp, WC_asg, WC_sto, WC_ret, WC_retN, WC_ife, WC_pass, WC_brk, WC_cnt, WE_var, WE_cst, WE_tup, WE_lst, WE_bin, WE_neg, WE_cmp, WE_chain, WE_is, WE_and, WE_or, WE_not, WE_ife, WE_bi, WE_isi, WE_meth, WE_ix, WE_sl, WE_rev, WO_none, WO_some, WT_and, WT_or, WT_not, WT_ife, WEs_nil, WEs_cons, WT_pl (e := .var _) rfl, WT_pl (e := .cst _) rfl, WT_pl (e := .cmp _ _ _) rfl, WT_pl (e := .chain _ _ _ _ _) rfl, WT_pl (e := .is_ _ _ _) rfl, WT_pl (e := .call _ _) rfl, WT_pl (e := .bi _ _) rfl, WT_pl (e := .isi _ _) rfl, WT_pl (e := .meth _ _ _) rfl, WT_pl (e := .ix _ _) rfl, WW_pl (e := .var _) rfl, WW_pl (e := .lst _) rfl, WW_pl (e := .tup _) rfl, WW_rng1, List.map_cons, List.map_nil, List.length_cons, List.length_nil, List.cons_append, List.nil_append, List.replicate, List.getElem?_cons_zero, List.getElem?_cons_succ, Fin_rt, Fin_nx, gc_self, asg, asgAll, List.set_cons_zero, List.set_cons_succ, Op_some, Opg_some, wkOf, Wk.items, Wk.ok, truth, isD, tyOf, bd_add, bd_sub, bd_mulr, bd_mull, bd_fdiv, bd_mod, bd_pow, cd_lt, cd_le, cd_gt, cd_ge, bi_abs, bi_max, bi_min, bi_lenS, bi_lenT, bi_lenR, bi_tupT, bi_listT, at20, at21, ixn20, ixn21, gc_set, Int.reduceLT, Int.reduceNeg, Int.reduceLE, Nat.reduceAdd, Nat.reduceLT, Nat.reduceLeDiff, pow_18, pow_9, pow_8, Op_addtup, sl_tup, Int.reduceToNat, Nat.zero_add, Nat.reduceSub, Int.reducePow, Int.reduceSub, Int.reduceMul, Int.reduceAdd, gc_int, gc_bl, gc_str, gc_tup, true_and, and_true, cd_eq_str, back_beq, ix_dct e, h.row.1, rowP_back, revD])
  obtain ⟨d, S1, e1, rfl, rfl⟩ := Op.ex this
  exact e1
theorem row_of_ok {m : Nat} (e : S[m]? = some (.dct kvs)) {ws : List D} (hx : ∀ x ∈ ws, PcW kvs x) (hl : ws.length ≤ 100) : callN g fs fuel (k + 3) f_row_of.nm [.tup ws, .loc .dct m] S = some (.tup (rowW kvs ws), S) := by
  have : Op (callN g fs fuel (k + 3) f_row_of.nm [.tup ws, .loc .dct m] S) fun d S1 => d = .tup (rowW kvs ws) ∧ S1 = S := by
    refine callN_at fd_row_of rfl ?_
    simp only [f_row_of]
    (try simp only [WCs_cons, WCs_nil, WC_exp, WC_asg, WC_sto, WC_ret, WC_retN, WC_ife, WC_pass, WC_brk, WC_cnt, WE_var, WE_cst, WE_tup, WE_lst, WE_bin, WE_neg, WE_cmp, WE_chain, WE_is, WE_and, WE_or, WE_not, WE_ife, WE_bi, WE_isi, WE_meth, WE_ix, WE_sl, WE_rev, WO_none, WO_some, WT_and, WT_or, WT_not, WT_ife, WEs_nil, WEs_cons, WT_pl (e := .var _) rfl, WT_pl (e := .cst _) rfl, WT_pl (e := .cmp _ _ _) rfl, WT_pl (e := .chain _ _ _ _ _) rfl, WT_pl (e := .is_ _ _ _) rfl, WT_pl (e := .call _ _) rfl, WT_pl (e := .bi _ _) rfl, WT_pl (e := .isi _ _) rfl, WT_pl (e := .meth _ _ _) rfl, WT_pl (e := .ix _ _) rfl, WW_pl (e := .var _) rfl, WW_pl (e := .lst _) rfl, WW_pl (e := .tup _) rfl, WW_rng1, List.map_cons, List.map_nil, List.length_cons, List.length_nil, List.cons_append, List.nil_append, List.replicate, List.getElem?_cons_zero, List.getElem?_cons_succ, Fin_rt, Fin_nx, gc_self, asg, asgAll, List.set_cons_zero, List.set_cons_succ, Op_some, Opg_some, wkOf, Wk.items, Wk.ok, truth, isD, tyOf, bd_add, bd_sub, bd_mulr, bd_mull, bd_fdiv, bd_mod, bd_pow, cd_lt, cd_le, cd_gt, cd_ge, bi_abs, bi_max, bi_min, bi_lenS, bi_lenT, bi_lenR, bi_tupT, bi_listT, at20, at21, ixn20, ixn21, gc_set, Int.reduceLT, Int.reduceNeg, Int.reduceLE, Nat.reduceAdd, Nat.reduceLT, Nat.reduceLeDiff, pow_18, pow_9, pow_8, Op_addtup, sl_tup, Int.reduceToNat, Nat.zero_add, Nat.reduceSub, Int.reducePow, Int.reduceSub, Int.reduceMul, Int.reduceAdd, gc_int, gc_bl, gc_str, gc_tup, true_and, and_true])
    refine ⟨Nat.zero_le _, ?_⟩
    refine WC_for ?_
    (try simp only [WCs_cons, WCs_nil, WC_exp, WC_asg, WC_sto, WC_ret, WC_retN, WC_ife, WC_pass, WC_brk, WC_cnt, WE_var, WE_cst, WE_tup, WE_lst, WE_bin, WE_neg, WE_cmp, WE_chain, WE_is, WE_and, WE_or, WE_not, WE_ife, WE_bi, WE_isi, WE_meth, WE_ix, WE_sl, WE_rev, WO_none, WO_some, WT_and, WT_or, WT_not, WT_ife, WEs_nil, WEs_cons, WT_pl (e := .var _) rfl, WT_pl (e := .cst _) rfl, WT_pl (e := .cmp _ _ _) rfl, WT_pl (e := .chain _ _ _ _ _) rfl, WT_pl (e := .is_ _ _ _) rfl, WT_pl (e := .call _ _) rfl, WT_pl (e := .bi _ _) rfl, WT_pl (e := .isi _ _) rfl, WT_pl (e := .meth _ _ _) rfl, WT_pl (e := .ix _ _) rfl, WW_pl (e := .var _) rfl, WW_pl (e := .lst _) rfl, WW_pl (e := .tup _) rfl, WW_rng1, List.map_cons, List.map_nil, List.length_cons, List.length_nil, List.cons_append, List.nil_append, List.replicate, List.getElem?_cons_zero, List.getElem?_cons_succ, Fin_rt, Fin_nx, gc_self, asg, asgAll, List.set_cons_zero, List.set_cons_succ, Op_some, Opg_some, wkOf, Wk.items, Wk.ok, truth, isD, tyOf, bd_add, bd_sub, bd_mulr, bd_mull, bd_fdiv, bd_mod, bd_pow, cd_lt, cd_le, cd_gt, cd_ge, bi_abs, bi_max, bi_min, bi_lenS, bi_lenT, bi_lenR, bi_tupT, bi_listT, at20, at21, ixn20, ixn21, gc_set, Int.reduceLT, Int.reduceNeg, Int.reduceLE, Nat.reduceAdd, Nat.reduceLT, Nat.reduceLeDiff, pow_18, pow_9, pow_8, Op_addtup, sl_tup, Int.reduceToNat, Nat.zero_add, Nat.reduceSub, Int.reducePow, Int.reduceSub, Int.reduceMul, Int.reduceAdd, gc_int, gc_bl, gc_str, gc_tup, true_and, and_true])
    refine ⟨fun i env S' => S' = S ∧ ∃ o, env = [some (.tup ws), some (.loc .dct m), some (.tup (rowW kvs (ws.take i))), o], ⟨rfl, _, rfl⟩, fun _ _ _ _ => trivial, ?_, ?_⟩
    · rintro i x env S' hi ⟨rfl, o, rfl⟩
      have hx1 := hx x (List.mem_of_getElem? hi)
      refine ⟨_, rfl, ?_⟩
      (try simp only [WCs_cons, WCs_nil, WC_exp, WC_asg, WC_sto, WC_ret, WC_retN, WC_ife, WC_pass, WC_brk, WC_cnt, WE_var, WE_cst, WE_tup, WE_lst, WE_bin, WE_neg, WE_cmp, WE_chain, WE_is, WE_and, WE_or, WE_not, WE_ife, WE_bi, WE_isi, WE_meth, WE_ix, WE_sl, WE_rev, WO_none, WO_some, WT_and, WT_or, WT_not, WT_ife, WEs_nil, WEs_cons, WT_pl (e := .var _) rfl, WT_pl (e := .cst _) rfl, WT_pl (e := .cmp _ _ _) rfl, WT_pl (e := .chain _ _ _ _ _) rfl, WT_pl (e := .is_ _ _ _) rfl, WT_pl (e := .call _ _) rfl, WT_pl (e := .bi _ _) rfl, WT_pl (e := .isi _ _) rfl, WT_pl (e := .meth _ _ _) rfl, WT_pl (e := .ix _ _) rfl, WW_pl (e := .var _) rfl, WW_pl (e := .lst _) rfl, WW_pl (e := .tup _) rfl, WW_rng1, List.map_cons, List.map_nil, List.length_cons, List.length_nil, List.cons_append, List.nil_append, List.replicate, List.getElem?_cons_zero, List.getElem?_cons_succ, Fin_rt, Fin_nx, gc_self, asg, asgAll, List.set_cons_zero, List.set_cons_succ, Op_some, Opg_some, wkOf, Wk.items, Wk.ok, truth, isD, tyOf, bd_add, bd_sub, bd_mulr, bd_mull, bd_fdiv, bd_mod, bd_pow, cd_lt, cd_le, cd_gt, cd_ge, bi_abs, bi_max, bi_min, bi_lenS, bi_lenT, bi_lenR, bi_tupT, bi_listT, at20, at21, ixn20, ixn21, gc_set, Int.reduceLT, Int.reduceNeg, Int.reduceLE, Nat.reduceAdd, Nat.reduceLT, Nat.reduceLeDiff, pow_18, pow_9, pow_8, Op_addtup, sl_tup, Int.reduceToNat, Nat.zero_add, Nat.reduceSub, Int.reducePow, Int.reduceSub, Int.reduceMul, Int.reduceAdd, gc_int, gc_bl, gc_str, gc_tup, true_and, and_true])
      rw [WE_call]
      (try simp only [WCs_cons, WCs_nil, WC_exp, WC_asg, WC_sto, WC_ret, WC_retN, WC_ife, WC_pass, WC_brk, WC_cnt, WE_var, WE_cst, WE_tup, WE_lst, WE_bin, WE_neg, WE_cmp, WE_chain, WE_is, WE_and, WE_or, WE_not, WE_ife, WE_bi, WE_isi, WE_meth, WE_ix, WE_sl, WE_rev, WO_none, WO_some, WT_and, WT_or, WT_not, WT_ife, WEs_nil, WEs_cons, WT_pl (e := .var _) rfl, WT_pl (e := .cst _) rfl, WT_pl (e := .cmp _ _ _) rfl, WT_pl (e := .chain _ _ _ _ _) rfl, WT_pl (e := .is_ _ _ _) rfl, WT_pl (e := .call _ _) rfl, WT_pl (e := .bi _ _) rfl, WT_pl (e := .isi _ _) rfl, WT_pl (e := .meth _ _ _) rfl, WT_pl (e := .ix _ _) rfl, WW_pl (e := .var _) rfl, WW_pl (e := .lst _) rfl, WW_pl (e := .tup _) rfl, WW_rng1, List.map_cons, List.map_nil, List.length_cons, List.length_nil, List.cons_append, List.nil_append, List.replicate, List.getElem?_cons_zero, List.getElem?_cons_succ, Fin_rt, Fin_nx, gc_self, asg, asgAll, List.set_cons_zero, List.set_cons_succ, Op_some, Opg_some, wkOf, Wk.items, Wk.ok, truth, isD, tyOf, bd_add, bd_sub, bd_mulr, bd_mull, bd_fdiv, bd_mod, bd_pow, cd_lt, cd_le, cd_gt, cd_ge, bi_abs, bi_max, bi_min, bi_lenS, bi_lenT, bi_lenR, bi_tupT, bi_listT, at20, at21, ixn20, ixn21, gc_set, Int.reduceLT, Int.reduceNeg, Int.reduceLE, Nat.reduceAdd, Nat.reduceLT, Nat.reduceLeDiff, pow_18, pow_9, pow_8, Op_addtup, sl_tup, Int.reduceToNat, Nat.zero_add, Nat.reduceSub, Int.reducePow, Int.reduceSub, Int.reduceMul, Int.reduceAdd, gc_int, gc_bl, gc_str, gc_tup, true_and, and_true])
      refine Op.of (piece_row_ok e hx1) ?_
      (try simp only [WCs_cons, WCs_nil, WC_exp, WC_asg, WC_sto, WC_ret, WC_retN, WC_ife, WC_pass, WC_brk, WC_cnt, WE_var, WE_cst, WE_tup, WE_lst, WE_bin, WE_neg, WE_cmp, WE_chain, WE_is, WE_and, WE_or, WE_not, WE_ife, WE_bi, WE_isi, WE_meth, WE_ix, WE_sl, WE_rev, WO_none, WO_some, WT_and, WT_or, WT_not, WT_ife, WEs_nil, WEs_cons, WT_pl (e := .var _) rfl, WT_pl (e := .cst _) rfl, WT_pl (e := .cmp _ _ _) rfl, WT_pl (e := .chain _ _ _ _ _) rfl, WT_pl (e := .is_ _ _ _) rfl, WT_pl (e := .call _ _) rfl, WT_pl (e := .bi _ _) rfl, WT_pl (e := .isi _ _) rfl, WT_pl (e := .meth _ _ _) rfl, WT_pl (e := .ix _ _) rfl, WW_pl (e := .var _) rfl, WW_pl (e := .lst _) rfl, WW_pl (e := .tup _) rfl, WW_rng1, List.map_cons, List.map_nil, List.length_cons, List.length_nil, List.cons_append, List.nil_append, List.replicate, List.getElem?_cons_zero, List.getElem?_cons_succ, Fin_rt, Fin_nx, gc_self, asg, asgAll, List.set_cons_zero, List.set_cons_succ, Op_some, Opg_some, wkOf, Wk.items, Wk.ok, truth, isD, tyOf, bd_add, bd_sub, bd_mulr, bd_mull, bd_fdiv, bd_mod, bd_pow, cd_lt, cd_le, cd_gt, cd_ge, bi_abs, bi_max, bi_min, bi_lenS, bi_lenT, bi_lenR, bi_tupT, bi_listT, at20, at21, ixn20, ixn21, gc_set, Int.reduceLT, Int.reduceNeg, Int.reduceLE, Nat.reduceAdd, Nat.reduceLT, Nat.reduceLeDiff, pow_18, pow_9, pow_8, Op_addtup, sl_tup, Int.reduceToNat, Nat.zero_add, Nat.reduceSub, Int.reducePow, Int.reduceSub, Int.reduceMul, Int.reduceAdd, gc_int, gc_bl, gc_str, gc_tup, true_and, and_true])
      have l1 := (rowW_len (ws := ws.take i) fun y hy => hx y (List.mem_of_mem_take hy)).1
      have l2 := (rowP_ok hx1).1
      have l3 : (ws.take i).length ≤ ws.length := by rw [List.length_take]; omega
      exact ⟨by unfold cap; omega, some x, by rw [rowW_take hi]⟩
    · rintro env S' ⟨rfl, o, rfl⟩
      (try simp only [WCs_cons, WCs_nil, WC_exp, WC_asg, WC_sto, WC_ret, WC_retN, WC_ife, WC_pass, WC_brk, WC_cnt, WE_var, WE_cst, WE_tup, WE_lst, WE_bin, WE_neg, WE_cmp, WE_chain, WE_is, WE_and, WE_or, WE_not, WE_ife, WE_bi, WE_isi, WE_meth, WE_ix, WE_sl, WE_rev, WO_none, WO_some, WT_and, WT_or, WT_not, WT_ife, WEs_nil, WEs_cons, WT_pl (e := .var _) rfl, WT_pl (e := .cst _) rfl, WT_pl (e := .cmp _ _ _) rfl, WT_pl (e := .chain _ _ _ _ _) rfl, WT_pl (e := .is_ _ _ _) rfl, WT_pl (e := .call _ _) rfl, WT_pl (e := .bi _ _) rfl, WT_pl (e := .isi _ _) rfl, WT_pl (e := .meth _ _ _) rfl, WT_pl (e := .ix _ _) rfl, WW_pl (e := .var _) rfl, WW_pl (e := .lst _) rfl, WW_pl (e := .tup _) rfl, WW_rng1, List.map_cons, List.map_nil, List.length_cons, List.length_nil, List.cons_append, List.nil_append, List.replicate, List.getElem?_cons_zero, List.getElem?_cons_succ, Fin_rt, Fin_nx, gc_self, asg, asgAll, List.set_cons_zero, List.set_cons_succ, Op_some, Opg_some, wkOf, Wk.items, Wk.ok, truth, isD, tyOf, bd_add, bd_sub, bd_mulr, bd_mull, bd_fdiv, bd_mod, bd_pow, cd_lt, cd_le, cd_gt, cd_ge, bi_abs, bi_max, bi_min, bi_lenS, bi_lenT, bi_lenR, bi_tupT, bi_listT, at20, at21, ixn20, ixn21, gc_set, Int.reduceLT, Int.reduceNeg, Int.reduceLE, Nat.reduceAdd, Nat.reduceLT, Nat.reduceLeDiff, pow_18, pow_9, pow_8, Op_addtup, sl_tup, Int.reduceToNat, Nat.zero_add, Nat.reduceSub, Int.reducePow, Int.reduceSub, Int.reduceMul, Int.reduceAdd, gc_int, gc_bl, gc_str, gc_tup, true_and, and_true, List.take_length])
  obtain ⟨d, S1, e1, rfl, rfl⟩ := Op.ex this
  exact e1
theorem ix_turned {s : Str} (h : s = sOne ∨ s = sRow ∨ s = sBack) : ixD g (.gd sTurned) (.str s) S = some (.str (if s = sOne then sOne else if s = sRow then sBack else sRow)) := by
  simp only [ixD, g_turned]
  rcases h with rfl | rfl | rfl <;> kernel_rfl
theorem PcG.at {A B : Str → Prop} {x : D} (h : PcG A B x) : ∃ s b, x = .tup [.str s, b] ∧ (s = sOne ∨ s = sRow ∨ s = sBack) := by
  cases h
  · exact ⟨_, _, rfl, .inl rfl⟩
  · exact ⟨_, _, rfl, .inl rfl⟩
  · exact ⟨_, _, rfl, .inr (.inl rfl)⟩
  · exact ⟨_, _, rfl, .inr (.inr rfl)⟩
theorem PcW.under {x : D} {n : Nat} (h : PcW kvs x) : D.under n x = true := by
  cases h <;> rfl
theorem under_all {n : Nat} : ∀ {xs : List D}, (∀ x ∈ xs, D.under n x = true) → D.underAll n xs = true
  | [], _ => rfl
  | x :: xs, h => by
    rw [D.underAll, h x List.mem_cons_self, under_all fun y hy => h y (List.mem_cons_of_mem _ hy)]
    rfl
theorem turned_ok {ws : List D} (hx : ∀ x ∈ ws, PcW kvs x) (hl : ws.length ≤ 100) : callN g fs fuel (k + 1) f_turned.nm [.tup ws] S = some (.tup (turnW ws), S) := by
  have : Op (callN g fs fuel (k + 1) f_turned.nm [.tup ws] S) fun d S1 => d = .tup (turnW ws) ∧ S1 = S := by
    refine callN_at fd_turned rfl ?_
    simp only [f_turned]
    (try simp only [WCs_cons, WCs_nil, WC_exp, WC_asg, WC_sto, WC_ret, WC_retN, WC_ife, WC_pass, WC_brk, WC_cnt, WE_var, WE_cst, WE_tup, WE_lst, WE_bin, WE_neg, WE_cmp, WE_chain, WE_is, WE_and, WE_or, WE_not, WE_ife, WE_bi, WE_isi, WE_meth, WE_ix, WE_sl, WE_rev, WO_none, WO_some, WT_and, WT_or, WT_not, WT_ife, WEs_nil, WEs_cons, WT_pl (e := .var _) rfl, WT_pl (e := .cst _) rfl, WT_pl (e := .cmp _ _ _) rfl, WT_pl (e := .chain _ _ _ _ _) rfl, WT_pl (e := .is_ _ _ _) rfl, WT_pl (e := .call _ _) rfl, WT_pl (e := .bi _ _) rfl, WT_pl (e := .isi _ _) rfl, WT_pl (e := .meth _ _ _) rfl, WT_pl (e := .ix _ _) rfl, WW_pl (e := .var _) rfl, WW_pl (e := .lst _) rfl, WW_pl (e := .tup _) rfl, WW_rng1, List.map_cons, List.map_nil, List.length_cons, List.length_nil, List.cons_append, List.nil_append, List.replicate, List.getElem?_cons_zero, List.getElem?_cons_succ, Fin_rt, Fin_nx, gc_self, asg, asgAll, List.set_cons_zero, List.set_cons_succ, Op_some, Opg_some, wkOf, Wk.items, Wk.ok, truth, isD, tyOf, bd_add, bd_sub, bd_mulr, bd_mull, bd_fdiv, bd_mod, bd_pow, cd_lt, cd_le, cd_gt, cd_ge, bi_abs, bi_max, bi_min, bi_lenS, bi_lenT, bi_lenR, bi_tupT, bi_listT, at20, at21, ixn20, ixn21, gc_set, Int.reduceLT, Int.reduceNeg, Int.reduceLE, Nat.reduceAdd, Nat.reduceLT, Nat.reduceLeDiff, pow_18, pow_9, pow_8, Op_addtup, sl_tup, Int.reduceToNat, Nat.zero_add, Nat.reduceSub, Int.reducePow, Int.reduceSub, Int.reduceMul, Int.reduceAdd, gc_int, gc_bl, gc_str, gc_tup, true_and, and_true])
    refine WE_lc_pure (fun _ => true) turnP ?_
    rw [WW_pl rfl, WE_rev, WE_var]
    simp only [List.getElem?_cons_zero, revD, Op_some, gc_self, wkOf, Wk.items, Wk.ok, true_and, List.map_cons, List.map_nil, List.length_cons, List.length_nil, List.cons_append, List.nil_append]
    refine ⟨fun x hi => ?_, by rw [List.length_reverse]; unfold cap; omega, ?_⟩
    · have hx1 := hx x (by simpa using hi)
      obtain ⟨s, b, rfl, hs⟩ := PcG.at hx1
      refine ⟨_, rfl, ifs_nil, fun _ => ?_⟩
      (try simp only [WCs_cons, WCs_nil, WC_exp, WC_asg, WC_sto, WC_ret, WC_retN, WC_ife, WC_pass, WC_brk, WC_cnt, WE_var, WE_cst, WE_tup, WE_lst, WE_bin, WE_neg, WE_cmp, WE_chain, WE_is, WE_and, WE_or, WE_not, WE_ife, WE_bi, WE_isi, WE_meth, WE_ix, WE_sl, WE_rev, WO_none, WO_some, WT_and, WT_or, WT_not, WT_ife, WEs_nil, WEs_cons, WT_pl (e := .var _) rfl, WT_pl (e := .cst _) rfl, WT_pl (e := .cmp _ _ _) rfl, WT_pl (e := .chain _ _ _ _ _) rfl, WT_pl (e := .is_ _ _ _) rfl, WT_pl (e := .call _ _) rfl, WT_pl (e := .bi _ _) rfl, WT_pl (e := .isi _ _) rfl, WT_pl (e := .meth _ _ _) rfl, WT_pl (e := .ix _ _) rfl, WW_pl (e := .var _) rfl, WW_pl (e := .lst _) rfl, WW_pl (e := .tup _) rfl, WW_rng1, List.map_cons, List.map_nil, List.length_cons, List.length_nil, List.cons_append, List.nil_append, List.replicate, List.getElem?_cons_zero, List.getElem?_cons_succ, Fin_rt, Fin_nx, gc_self, asg, asgAll, List.set_cons_zero, List.set_cons_succ, Op_some, Opg_some, wkOf, Wk.items, Wk.ok, truth, isD, tyOf, bd_add, bd_sub, bd_mulr, bd_mull, bd_fdiv, bd_mod, bd_pow, cd_lt, cd_le, cd_gt, cd_ge, bi_abs, bi_max, bi_min, bi_lenS, bi_lenT, bi_lenR, bi_tupT, bi_listT, at20, at21, ixn20, ixn21, gc_set, Int.reduceLT, Int.reduceNeg, Int.reduceLE, Nat.reduceAdd, Nat.reduceLT, Nat.reduceLeDiff, pow_18, pow_9, pow_8, Op_addtup, sl_tup, Int.reduceToNat, Nat.zero_add, Nat.reduceSub, Int.reducePow, Int.reduceSub, Int.reduceMul, Int.reduceAdd, gc_int, gc_bl, gc_str, gc_tup, true_and, and_true, wipeD])
      rw [ix_turned hs]
      (try simp only [WCs_cons, WCs_nil, WC_exp, WC_asg, WC_sto, WC_ret, WC_retN, WC_ife, WC_pass, WC_brk, WC_cnt, WE_var, WE_cst, WE_tup, WE_lst, WE_bin, WE_neg, WE_cmp, WE_chain, WE_is, WE_and, WE_or, WE_not, WE_ife, WE_bi, WE_isi, WE_meth, WE_ix, WE_sl, WE_rev, WO_none, WO_some, WT_and, WT_or, WT_not, WT_ife, WEs_nil, WEs_cons, WT_pl (e := .var _) rfl, WT_pl (e := .cst _) rfl, WT_pl (e := .cmp _ _ _) rfl, WT_pl (e := .chain _ _ _ _ _) rfl, WT_pl (e := .is_ _ _ _) rfl, WT_pl (e := .call _ _) rfl, WT_pl (e := .bi _ _) rfl, WT_pl (e := .isi _ _) rfl, WT_pl (e := .meth _ _ _) rfl, WT_pl (e := .ix _ _) rfl, WW_pl (e := .var _) rfl, WW_pl (e := .lst _) rfl, WW_pl (e := .tup _) rfl, WW_rng1, List.map_cons, List.map_nil, List.length_cons, List.length_nil, List.cons_append, List.nil_append, List.replicate, List.getElem?_cons_zero, List.getElem?_cons_succ, Fin_rt, Fin_nx, gc_self, asg, asgAll, List.set_cons_zero, List.set_cons_succ, Op_some, Opg_some, wkOf, Wk.items, Wk.ok, truth, isD, tyOf, bd_add, bd_sub, bd_mulr, bd_mull, bd_fdiv, bd_mod, bd_pow, cd_lt, cd_le, cd_gt, cd_ge, bi_abs, bi_max, bi_min, bi_lenS, bi_lenT, bi_lenR, bi_tupT, bi_listT, at20, at21, ixn20, ixn21, gc_set, Int.reduceLT, Int.reduceNeg, Int.reduceLE, Nat.reduceAdd, Nat.reduceLT, Nat.reduceLeDiff, pow_18, pow_9, pow_8, Op_addtup, sl_tup, Int.reduceToNat, Nat.zero_add, Nat.reduceSub, Int.reducePow, Int.reduceSub, Int.reduceMul, Int.reduceAdd, gc_int, gc_bl, gc_str, gc_tup, true_and, and_true])
      exact ⟨by decide, rfl⟩
    · have e2 : List.map turnP (List.filter (fun _ => true) ws.reverse) = turnW ws := by
        rw [List.filter_eq_self.mpr (fun _ _ => rfl)]
        rfl
      have e3 : D.under S.length (.tup (turnW ws)) = true := under_all fun x h => (PcW.under ((turnW_ok hx).1 x h))
      rw [e2, gc_last, bi_tupL (xs := turnW ws) (by simp)]
      simp only [Op_some, gc_app e3, gc_self, and_self]
  obtain ⟨d, S1, e1, rfl, rfl⟩ := Op.ex this
  exact e1
end
end
end CV.k02

set_option Elab.async false
set_option linter.all false
set_option maxRecDepth 100000
set_option maxHeartbeats 4000000
namespace CV.k02
open PySem CV
section
variable {fuel k : Nat} {S : Sto} {kvs : Kvs}
theorem me_rev {S : Sto} {m : Nat} {xs : List D} (h : S[m]? = some (.lst xs)) : meD .reverse (.loc .lst m) [] S = some (.non, S.set m (.lst xs.reverse)) := by
  simp [meD, h]
theorem gc_non {S S1 : Sto} : (gc S (.non, S1)).1 = .non := by
  rcases gc_cases S .non S1 with e | ⟨e, _⟩ | ⟨k, m, o, h, _⟩
  · rw [e]
  · rw [e]
  · cases h
theorem law_row_ok {n m : Nat} (hS : FeedAt n S) (e : S[m]? = some (.dct kvs)) (hmn : m ≠ n) {ws : List D} (hx : ∀ x ∈ ws, PcW kvs x) (hl : ws.length ≤ 100) :
    Op (callN g fs fuel (k + 1) f__law_row.nm [.tup ws, .loc .dct m] S) fun d S1 => d = .tup (rowW kvs ws) ∧ Ex n S S1 := by
  refine callN_at fd__law_row rfl ?_
  simp only [f__law_row]
  (try simp only [WCs_cons, WCs_nil, WC_exp, WC_asg, WC_sto, WC_ret, WC_retN, WC_ife, WC_pass, WC_brk, WC_cnt, WE_var, WE_cst, WE_tup, WE_lst, WE_bin, WE_neg, WE_cmp, WE_chain, WE_is, WE_and, WE_or, WE_not, WE_ife, WE_bi, WE_isi, WE_meth, WE_ix, WE_sl, WE_rev, WO_none, WO_some, WT_and, WT_or, WT_not, WT_ife, WEs_nil, WEs_cons, WT_pl (e := .var _) rfl, WT_pl (e := .cst _) rfl, WT_pl (e := .cmp _ _ _) rfl, WT_pl (e := .chain _ _ _ _ _) rfl, WT_pl (e := .is_ _ _ _) rfl, WT_pl (e := .call _ _) rfl, WT_pl (e := .bi _ _) rfl, WT_pl (e := .isi _ _) rfl, WT_pl (e := .meth _ _ _) rfl, WT_pl (e := .ix _ _) rfl, WW_pl (e := .var _) rfl, WW_pl (e := .lst _) rfl, WW_pl (e := .tup _) rfl, WW_rng1, List.map_cons, List.map_nil, List.length_cons, List.length_nil, List.cons_append, List.nil_append, List.replicate, List.getElem?_cons_zero, List.getElem?_cons_succ, Fin_rt, Fin_nx, gc_self, asg, asgAll, List.set_cons_zero, List.set_cons_succ, Op_some, Opg_some, wkOf, Wk.items, Wk.ok, truth, isD, tyOf, bd_add, bd_sub, bd_mulr, bd_mull, bd_fdiv, bd_mod, bd_pow, cd_lt, cd_le, cd_gt, cd_ge, bi_abs, bi_max, bi_min, bi_lenS, bi_lenT, bi_lenR, bi_tupT, bi_listT, at20, at21, ixn20, ixn21, gc_set, Int.reduceLT, Int.reduceNeg, Int.reduceLE, Nat.reduceAdd, Nat.reduceLT, Nat.reduceLeDiff, pow_18, pow_9, pow_8, Op_addtup, sl_tup, Int.reduceToNat, Nat.zero_add, Nat.reduceSub, Int.reducePow, Int.reduceSub, Int.reduceMul, Int.reduceAdd, gc_int, gc_bl, gc_str, gc_tup, true_and, and_true])
  refine ⟨Nat.zero_le _, ?_⟩
  have x0 : Ex n S (S ++ [Ob.lst []]) := (Ex.refl hS).app
  have ef : (S ++ [Ob.lst []])[S.length]? = some (.lst []) := by simp
  generalize S ++ [Ob.lst []] = T at x0 ef ⊢
  refine WC_for ?_
  rw [WW_pl rfl, WE_var]
  simp only [List.getElem?_cons_zero, wkOf, Wk.items, Wk.ok]
  refine ⟨fun i env S' => Ex n S S' ∧ ∃ f o3 o4 o5, env = [some (.tup ws), some (.loc .dct m), some (.loc .lst f), o3, o4, o5] ∧ S.length ≤ f ∧ S'[f]? = some (.lst (rowW kvs (ws.take i))),
    ⟨x0, _, _, _, _, rfl, Nat.le_refl _, ef⟩, fun _ _ _ _ => trivial, ?_, ?_⟩
  · rintro i x env S' hi ⟨y0, f, o3, o4, o5, rfl, hf, ef'⟩
    have hx1 := hx x (List.mem_of_getElem? hi)
    have em : S'[m]? = some (.dct kvs) := y0.lst hmn e
    have hlt := (List.getElem?_eq_some_iff.mp ef').1
    have l1 := (rowW_len (ws := ws.take i) fun y hy => hx y (List.mem_of_mem_take hy)).1
    have l2 := (rowP_ok hx1).1
    have l3 : (ws.take i).length ≤ ws.length := by rw [List.length_take]; omega
    have small : (rowW kvs (ws.take i)).length < cap := by unfold cap; omega
    have one : ∀ v : D, rowP kvs x = [v] → Ex n S (S'.set f (.lst (rowW kvs (ws.take i) ++ [v]))) ∧ (S'.set f (.lst (rowW kvs (ws.take i) ++ [v])))[f]? = some (.lst (rowW kvs (ws.take (i + 1)))) := fun v hv => by
      refine ⟨y0.setNew hf hS.lt, ?_⟩
      rw [rowW_take hi, hv]
      simp [hlt]
    have many : ∀ (ys : List D), rowP kvs x = ys → ∀ T3 : Sto, Ex n S T3 → S'.length ≤ T3.length → T3[f]? = some (.lst (rowW kvs (ws.take i))) → T3[S'.length]? = some (.lst ys) →
        Opg T3 (binD .add (.loc .lst f) (.loc .lst S'.length) T3) fun d S1 => ∃ f', d = .loc .lst f' ∧ S.length ≤ f' ∧ S1[f']? = some (.lst (rowW kvs (ws.take (i + 1)))) ∧ Ex n S S1 := fun ys hy T3 z0 z1 z2 z3 => by
      rw [add_lst z2 z3 (by rw [← hy]; unfold cap; omega), Opg_some, gc_last]
      refine ⟨_, rfl, z0.len, ?_, z0.app⟩
      rw [rowW_take hi, hy]
      simp
    cases hx1 with
    | name h =>
      obtain ⟨v, h1, h2⟩ := h
      refine ⟨_, rfl, ?_⟩
      (try simp only [WCs_cons, WCs_nil, WC_exp, WC_asg, WC_sto, WC_ret, WC_retN, WC_ife, WC_pass, WC_brk, WC_cnt, WE_var, WE_cst, WE_tup, WE_lst, WE_bin, WE_neg, WE_cmp, WE_chain, WE_is, WE_and, WE_or, WE_not, WE_ife, WE_bi, WE_isi, WE_meth, WE_ix, WE_sl, WE_rev, WO_none, WO_some, WT_and, WT_or, WT_not, WT_ife, WEs_nil, WEs_cons, WT_pl (e := .var _) rfl, WT_pl (e := .cst _) rfl, WT_pl (e := .cmp _ _ _) rfl, WT_pl (e := .chain _ _ _ _ _) rfl, WT_pl (e := .is_ _ _ _) rfl, WT_pl (e := .call _ _) rfl, WT_pl (e := .bi _ _) rfl, WT_pl (e := .isi _ _) rfl, WT_pl (e := .meth _ _ _) rfl, WT_pl (e := .ix _ _) rfl, WW_pl (e := .var _) rfl, WW_pl (e := .lst _) rfl, WW_pl (e := .tup _) rfl, WW_rng1, List.map_cons, List.map_nil, List.length_cons, List.length_nil, List.cons_append, List.nil_append, List.replicate, List.getElem?_cons_zero, List.getElem?_cons_succ, Fin_rt, Fin_nx, gc_self, asg, asgAll, List.set_cons_zero, List.set_cons_succ, Op_some, Opg_some, wkOf, Wk.items, Wk.ok, truth, isD, tyOf, bd_add, bd_sub, bd_mulr, bd_mull, bd_fdiv, bd_mod, bd_pow, cd_lt, cd_le, cd_gt, cd_ge, bi_abs, bi_max, bi_min, bi_lenS, bi_lenT, bi_lenR, bi_tupT, bi_listT, at20, at21, ixn20, ixn21, gc_set, Int.reduceLT, Int.reduceNeg, Int.reduceLE, Nat.reduceAdd, Nat.reduceLT, Nat.reduceLeDiff, pow_18, pow_9, pow_8, Op_addtup, sl_tup, Int.reduceToNat, Nat.zero_add, Nat.reduceSub, Int.reducePow, Int.reduceSub, Int.reduceMul, Int.reduceAdd, gc_int, gc_bl, gc_str, gc_tup, true_and, and_true, cd_eq_str, one_beq, kit_NoneType_int, kit_NoneType_bool, kit_NoneType_str, kit_NoneType_tuple, kit_NoneType_list, kit_bool_int, kit_bool_bool, kit_bool_str, kit_bool_tuple, kit_bool_list, kit_int_int, kit_int_bool, kit_int_str, kit_int_tuple, kit_int_list, kit_str_int, kit_str_bool, kit_str_str, kit_str_tuple, kit_str_list, kit_tuple_int, kit_tuple_bool, kit_tuple_str, kit_tuple_tuple, kit_tuple_list, kit_list_int, kit_list_bool, kit_list_str, kit_list_tuple, kit_list_list, ix_dct em, h1, me_append ef' small, gc_non])
      obtain ⟨r1, r2⟩ := one v (by rw [rowP_name, lookW_eq h1])
      exact ⟨r1, _, _, _, _, rfl, hf, r2⟩
    | num h1 h2 =>
      refine ⟨_, rfl, ?_⟩
      (try simp only [WCs_cons, WCs_nil, WC_exp, WC_asg, WC_sto, WC_ret, WC_retN, WC_ife, WC_pass, WC_brk, WC_cnt, WE_var, WE_cst, WE_tup, WE_lst, WE_bin, WE_neg, WE_cmp, WE_chain, WE_is, WE_and, WE_or, WE_not, WE_ife, WE_bi, WE_isi, WE_meth, WE_ix, WE_sl, WE_rev, WO_none, WO_some, WT_and, WT_or, WT_not, WT_ife, WEs_nil, WEs_cons, WT_pl (e := .var _) rfl, WT_pl (e := .cst _) rfl, WT_pl (e := .cmp _ _ _) rfl, WT_pl (e := .chain _ _ _ _ _) rfl, WT_pl (e := .is_ _ _ _) rfl, WT_pl (e := .call _ _) rfl, WT_pl (e := .bi _ _) rfl, WT_pl (e := .isi _ _) rfl, WT_pl (e := .meth _ _ _) rfl, WT_pl (e := .ix _ _) rfl, WW_pl (e := .var _) rfl, WW_pl (e := .lst _) rfl, WW_pl (e := .tup _) rfl, WW_rng1, List.map_cons, List.map_nil, List.length_cons, List.length_nil, List.cons_append, List.nil_append, List.replicate, List.getElem?_cons_zero, List.getElem?_cons_succ, Fin_rt, Fin_nx, gc_self, asg, asgAll, List.set_cons_zero, List.set_cons_succ, Op_some, Opg_some, wkOf, Wk.items, Wk.ok, truth, isD, tyOf, bd_add, bd_sub, bd_mulr, bd_mull, bd_fdiv, bd_mod, bd_pow, cd_lt, cd_le, cd_gt, cd_ge, bi_abs, bi_max, bi_min, bi_lenS, bi_lenT, bi_lenR, bi_tupT, bi_listT, at20, at21, ixn20, ixn21, gc_set, Int.reduceLT, Int.reduceNeg, Int.reduceLE, Nat.reduceAdd, Nat.reduceLT, Nat.reduceLeDiff, pow_18, pow_9, pow_8, Op_addtup, sl_tup, Int.reduceToNat, Nat.zero_add, Nat.reduceSub, Int.reducePow, Int.reduceSub, Int.reduceMul, Int.reduceAdd, gc_int, gc_bl, gc_str, gc_tup, true_and, and_true, cd_eq_str, one_beq, kit_NoneType_int, kit_NoneType_bool, kit_NoneType_str, kit_NoneType_tuple, kit_NoneType_list, kit_bool_int, kit_bool_bool, kit_bool_str, kit_bool_tuple, kit_bool_list, kit_int_int, kit_int_bool, kit_int_str, kit_int_tuple, kit_int_list, kit_str_int, kit_str_bool, kit_str_str, kit_str_tuple, kit_str_list, kit_tuple_int, kit_tuple_bool, kit_tuple_str, kit_tuple_tuple, kit_tuple_list, kit_list_int, kit_list_bool, kit_list_str, kit_list_tuple, kit_list_list, me_append ef' small, gc_non])
      obtain ⟨r1, r2⟩ := one _ rowP_num
      exact ⟨r1, _, _, _, _, rfl, hf, r2⟩
    | row h =>
      rename_i z
      refine ⟨_, rfl, ?_⟩
      have e5 : (S' ++ [Ob.lst (rowI kvs z)])[f]? = some (.lst (rowW kvs (ws.take i))) := by rw [List.getElem?_append_left hlt]; exact ef'
      (try simp only [WCs_cons, WCs_nil, WC_exp, WC_asg, WC_sto, WC_ret, WC_retN, WC_ife, WC_pass, WC_brk, WC_cnt, WE_var, WE_cst, WE_tup, WE_lst, WE_bin, WE_neg, WE_cmp, WE_chain, WE_is, WE_and, WE_or, WE_not, WE_ife, WE_bi, WE_isi, WE_meth, WE_ix, WE_sl, WE_rev, WO_none, WO_some, WT_and, WT_or, WT_not, WT_ife, WEs_nil, WEs_cons, WT_pl (e := .var _) rfl, WT_pl (e := .cst _) rfl, WT_pl (e := .cmp _ _ _) rfl, WT_pl (e := .chain _ _ _ _ _) rfl, WT_pl (e := .is_ _ _ _) rfl, WT_pl (e := .call _ _) rfl, WT_pl (e := .bi _ _) rfl, WT_pl (e := .isi _ _) rfl, WT_pl (e := .meth _ _ _) rfl, WT_pl (e := .ix _ _) rfl, WW_pl (e := .var _) rfl, WW_pl (e := .lst _) rfl, WW_pl (e := .tup _) rfl, WW_rng1, List.map_cons, List.map_nil, List.length_cons, List.length_nil, List.cons_append, List.nil_append, List.replicate, List.getElem?_cons_zero, List.getElem?_cons_succ, Fin_rt, Fin_nx, gc_self, asg, asgAll, List.set_cons_zero, List.set_cons_succ, Op_some, Opg_some, wkOf, Wk.items, Wk.ok, truth, isD, tyOf, bd_add, bd_sub, bd_mulr, bd_mull, bd_fdiv, bd_mod, bd_pow, cd_lt, cd_le, cd_gt, cd_ge, bi_abs, bi_max, bi_min, bi_lenS, bi_lenT, bi_lenR, bi_tupT, bi_listT, at20, at21, ixn20, ixn21, gc_set, Int.reduceLT, Int.reduceNeg, Int.reduceLE, Nat.reduceAdd, Nat.reduceLT, Nat.reduceLeDiff, pow_18, pow_9, pow_8, Op_addtup, sl_tup, Int.reduceToNat, Nat.zero_add, Nat.reduceSub, Int.reducePow, Int.reduceSub, Int.reduceMul, Int.reduceAdd, gc_int, gc_bl, gc_str, gc_tup, true_and, and_true, cd_eq_str, row_beq1, ix_dct em, h.row.1, gc_last, row_beqb])
      refine Op.imp (many _ rowP_row (S' ++ [Ob.lst _]) y0.app (by simp) e5 (by simp)) ?_
      rintro d S1 ⟨f', q1, q2, q3, q4⟩
      rw [q1]
      exact ⟨q4, _, _, _, _, rfl, q2, q3⟩
    | back h =>
      rename_i z
      refine ⟨_, rfl, ?_⟩
      have e6 : (S' ++ [Ob.lst (rowI kvs z)])[S'.length]? = some (.lst (rowI kvs z)) := by simp
      (try simp only [WCs_cons, WCs_nil, WC_exp, WC_asg, WC_sto, WC_ret, WC_retN, WC_ife, WC_pass, WC_brk, WC_cnt, WE_var, WE_cst, WE_tup, WE_lst, WE_bin, WE_neg, WE_cmp, WE_chain, WE_is, WE_and, WE_or, WE_not, WE_ife, WE_bi, WE_isi, WE_meth, WE_ix, WE_sl, WE_rev, WO_none, WO_some, WT_and, WT_or, WT_not, WT_ife, WEs_nil, WEs_cons, WT_pl (e := .var _) rfl, WT_pl (e := .cst _) rfl, WT_pl (e := .cmp _ _ _) rfl, WT_pl (e := .chain _ _ _ _ _) rfl, WT_pl (e := .is_ _ _ _) rfl, WT_pl (e := .call _ _) rfl, WT_pl (e := .bi _ _) rfl, WT_pl (e := .isi _ _) rfl, WT_pl (e := .meth _ _ _) rfl, WT_pl (e := .ix _ _) rfl, WW_pl (e := .var _) rfl, WW_pl (e := .lst _) rfl, WW_pl (e := .tup _) rfl, WW_rng1, List.map_cons, List.map_nil, List.length_cons, List.length_nil, List.cons_append, List.nil_append, List.replicate, List.getElem?_cons_zero, List.getElem?_cons_succ, Fin_rt, Fin_nx, gc_self, asg, asgAll, List.set_cons_zero, List.set_cons_succ, Op_some, Opg_some, wkOf, Wk.items, Wk.ok, truth, isD, tyOf, bd_add, bd_sub, bd_mulr, bd_mull, bd_fdiv, bd_mod, bd_pow, cd_lt, cd_le, cd_gt, cd_ge, bi_abs, bi_max, bi_min, bi_lenS, bi_lenT, bi_lenR, bi_tupT, bi_listT, at20, at21, ixn20, ixn21, gc_set, Int.reduceLT, Int.reduceNeg, Int.reduceLE, Nat.reduceAdd, Nat.reduceLT, Nat.reduceLeDiff, pow_18, pow_9, pow_8, Op_addtup, sl_tup, Int.reduceToNat, Nat.zero_add, Nat.reduceSub, Int.reducePow, Int.reduceSub, Int.reduceMul, Int.reduceAdd, gc_int, gc_bl, gc_str, gc_tup, true_and, and_true, cd_eq_str, back_beq1, ix_dct em, h.row.1, gc_last, back_beqb])
      rw [me_rev e6]
      (try simp only [WCs_cons, WCs_nil, WC_exp, WC_asg, WC_sto, WC_ret, WC_retN, WC_ife, WC_pass, WC_brk, WC_cnt, WE_var, WE_cst, WE_tup, WE_lst, WE_bin, WE_neg, WE_cmp, WE_chain, WE_is, WE_and, WE_or, WE_not, WE_ife, WE_bi, WE_isi, WE_meth, WE_ix, WE_sl, WE_rev, WO_none, WO_some, WT_and, WT_or, WT_not, WT_ife, WEs_nil, WEs_cons, WT_pl (e := .var _) rfl, WT_pl (e := .cst _) rfl, WT_pl (e := .cmp _ _ _) rfl, WT_pl (e := .chain _ _ _ _ _) rfl, WT_pl (e := .is_ _ _ _) rfl, WT_pl (e := .call _ _) rfl, WT_pl (e := .bi _ _) rfl, WT_pl (e := .isi _ _) rfl, WT_pl (e := .meth _ _ _) rfl, WT_pl (e := .ix _ _) rfl, WW_pl (e := .var _) rfl, WW_pl (e := .lst _) rfl, WW_pl (e := .tup _) rfl, WW_rng1, List.map_cons, List.map_nil, List.length_cons, List.length_nil, List.cons_append, List.nil_append, List.replicate, List.getElem?_cons_zero, List.getElem?_cons_succ, Fin_rt, Fin_nx, gc_self, asg, asgAll, List.set_cons_zero, List.set_cons_succ, Op_some, Opg_some, wkOf, Wk.items, Wk.ok, truth, isD, tyOf, bd_add, bd_sub, bd_mulr, bd_mull, bd_fdiv, bd_mod, bd_pow, cd_lt, cd_le, cd_gt, cd_ge, bi_abs, bi_max, bi_min, bi_lenS, bi_lenT, bi_lenR, bi_tupT, bi_listT, at20, at21, ixn20, ixn21, gc_set, Int.reduceLT, Int.reduceNeg, Int.reduceLE, Nat.reduceAdd, Nat.reduceLT, Nat.reduceLeDiff, pow_18, pow_9, pow_8, Op_addtup, sl_tup, Int.reduceToNat, Nat.zero_add, Nat.reduceSub, Int.reducePow, Int.reduceSub, Int.reduceMul, Int.reduceAdd, gc_int, gc_bl, gc_str, gc_tup, true_and, and_true, gc_non])
      have e7 : (S' ++ [Ob.lst (rowI kvs z)]).set S'.length (Ob.lst (rowI kvs z).reverse) = S' ++ [Ob.lst (rowI kvs z).reverse] := by simp
      rw [e7]
      refine Op.imp (many _ rowP_back (S' ++ [Ob.lst _]) y0.app (by simp) (by rw [List.getElem?_append_left hlt]; exact ef') (by simp)) ?_
      rintro d S1 ⟨f', q1, q2, q3, q4⟩
      rw [q1]
      exact ⟨q4, _, _, _, _, rfl, q2, q3⟩
  · rintro env S' ⟨y0, f, o3, o4, o5, rfl, hf, ef'⟩
    rw [List.take_length] at ef'
    (try simp only [WCs_cons, WCs_nil, WC_exp, WC_asg, WC_sto, WC_ret, WC_retN, WC_ife, WC_pass, WC_brk, WC_cnt, WE_var, WE_cst, WE_tup, WE_lst, WE_bin, WE_neg, WE_cmp, WE_chain, WE_is, WE_and, WE_or, WE_not, WE_ife, WE_bi, WE_isi, WE_meth, WE_ix, WE_sl, WE_rev, WO_none, WO_some, WT_and, WT_or, WT_not, WT_ife, WEs_nil, WEs_cons, WT_pl (e := .var _) rfl, WT_pl (e := .cst _) rfl, WT_pl (e := .cmp _ _ _) rfl, WT_pl (e := .chain _ _ _ _ _) rfl, WT_pl (e := .is_ _ _ _) rfl, WT_pl (e := .call _ _) rfl, WT_pl (e := .bi _ _) rfl, WT_pl (e := .isi _ _) rfl, WT_pl (e := .meth _ _ _) rfl, WT_pl (e := .ix _ _) rfl, WW_pl (e := .var _) rfl, WW_pl (e := .lst _) rfl, WW_pl (e := .tup _) rfl, WW_rng1, List.map_cons, List.map_nil, List.length_cons, List.length_nil, List.cons_append, List.nil_append, List.replicate, List.getElem?_cons_zero, List.getElem?_cons_succ, Fin_rt, Fin_nx, gc_self, asg, asgAll, List.set_cons_zero, List.set_cons_succ, Op_some, Opg_some, wkOf, Wk.items, Wk.ok, truth, isD, tyOf, bd_add, bd_sub, bd_mulr, bd_mull, bd_fdiv, bd_mod, bd_pow, cd_lt, cd_le, cd_gt, cd_ge, bi_abs, bi_max, bi_min, bi_lenS, bi_lenT, bi_lenR, bi_tupT, bi_listT, at20, at21, ixn20, ixn21, gc_set, Int.reduceLT, Int.reduceNeg, Int.reduceLE, Nat.reduceAdd, Nat.reduceLT, Nat.reduceLeDiff, pow_18, pow_9, pow_8, Op_addtup, sl_tup, Int.reduceToNat, Nat.zero_add, Nat.reduceSub, Int.reducePow, Int.reduceSub, Int.reduceMul, Int.reduceAdd, gc_int, gc_bl, gc_str, gc_tup, true_and, and_true, bi_tupL ef'])
    exact gc_Ex hS.lt y0

/-! ### worths -/
def Kok (kvs : Kvs) : Prop := ∀ x ∈ kvs, ∃ z, x.1 = .inr z ∧ IsNm z ∧ VW x.2
theorem Kok.put {z : Str} {v : D} (h : Kok kvs) (hz : IsNm z) (hv : VW v) : Kok (putD kvs (.inr z) v) := fun x hx => by
  rcases put_mem hx with hx | rfl
  · exact h x hx
  · exact ⟨z, rfl, hz, hv⟩
theorem An.put {z y : Str} {v : D} (h : An kvs y) (hv : VW v) : An (putD kvs (.inr z) v) y := by
  obtain ⟨u, e, hu⟩ := h
  unfold An
  rw [valD_put]
  by_cases c : (Sum.inr y : L2.Key) = .inr z
  · rw [if_pos c]; exact ⟨v, rfl, hv⟩
  · rw [if_neg c]; exact ⟨u, e, hu⟩
theorem An.self {z : Str} {v : D} (hv : VW v) : An (putD kvs (.inr z) v) z := ⟨v, by rw [valD_put, if_pos rfl], hv⟩
theorem Bn.put {z y : Str} {v : D} (h : Bn kvs y) (hv : VT v) : Bn (putD kvs (.inr z) v) y := by
  obtain ⟨u, e, hu⟩ := h
  unfold Bn
  rw [valD_put]
  by_cases c : (Sum.inr y : L2.Key) = .inr z
  · rw [if_pos c]; exact ⟨v, rfl, hv⟩
  · rw [if_neg c]; exact ⟨u, e, hu⟩
theorem Bn.self {z : Str} {v : D} (hv : VT v) : Bn (putD kvs (.inr z) v) z := ⟨v, by rw [valD_put, if_pos rfl], hv⟩
theorem worths_ok {n m1 m2 : Nat} {ns rs : List D} (hS : FeedAt n S) (e1 : S[m1]? = some (.lst ns)) (e2 : S[m2]? = some (.lst rs)) (d1 : m1 ≠ n) (d2 : m2 ≠ n) (hn : ∀ x ∈ ns, ∃ z, x = .str z ∧ IsNm z) (hr : ∀ x ∈ rs, ∃ z, x = .str z ∧ IsNm z) (l1 : ns.length ≤ 100) (l2 : rs.length ≤ 100) :
    Op (callN g fs fuel (k + 4) f__law_worths.nm [.loc .lst n, .loc .lst m1, .loc .lst m2] S) fun d S1 => ∃ w kvs, d = .loc .dct w ∧ S.length ≤ w ∧ S1[w]? = some (.dct kvs) ∧ Ex n S S1 ∧ Kok kvs ∧ kvs.length ≤ ns.length + rs.length ∧
      (∀ x ∈ ns, ∃ z, x = .str z ∧ An kvs z) ∧ ∀ x ∈ rs, ∃ z, x = .str z ∧ Bn kvs z := by
  refine callN_at fd__law_worths rfl ?_
  simp only [f__law_worths]
  (try simp only [WCs_cons, WCs_nil, WC_exp, WC_asg, WC_sto, WC_ret, WC_retN, WC_ife, WC_pass, WC_brk, WC_cnt, WE_var, WE_cst, WE_tup, WE_lst, WE_bin, WE_neg, WE_cmp, WE_chain, WE_is, WE_and, WE_or, WE_not, WE_ife, WE_bi, WE_isi, WE_meth, WE_ix, WE_sl, WE_rev, WO_none, WO_some, WT_and, WT_or, WT_not, WT_ife, WEs_nil, WEs_cons, WT_pl (e := .var _) rfl, WT_pl (e := .cst _) rfl, WT_pl (e := .cmp _ _ _) rfl, WT_pl (e := .chain _ _ _ _ _) rfl, WT_pl (e := .is_ _ _ _) rfl, WT_pl (e := .call _ _) rfl, WT_pl (e := .bi _ _) rfl, WT_pl (e := .isi _ _) rfl, WT_pl (e := .meth _ _ _) rfl, WT_pl (e := .ix _ _) rfl, WW_pl (e := .var _) rfl, WW_pl (e := .lst _) rfl, WW_pl (e := .tup _) rfl, WW_rng1, List.map_cons, List.map_nil, List.length_cons, List.length_nil, List.cons_append, List.nil_append, List.replicate, List.getElem?_cons_zero, List.getElem?_cons_succ, Fin_rt, Fin_nx, gc_self, asg, asgAll, List.set_cons_zero, List.set_cons_succ, Op_some, Opg_some, wkOf, Wk.items, Wk.ok, truth, isD, tyOf, bd_add, bd_sub, bd_mulr, bd_mull, bd_fdiv, bd_mod, bd_pow, cd_lt, cd_le, cd_gt, cd_ge, bi_abs, bi_max, bi_min, bi_lenS, bi_lenT, bi_lenR, bi_tupT, bi_listT, at20, at21, ixn20, ixn21, gc_set, Int.reduceLT, Int.reduceNeg, Int.reduceLE, Nat.reduceAdd, Nat.reduceLT, Nat.reduceLeDiff, pow_18, pow_9, pow_8, Op_addtup, sl_tup, Int.reduceToNat, Nat.zero_add, Nat.reduceSub, Int.reducePow, Int.reduceSub, Int.reduceMul, Int.reduceAdd, gc_int, gc_bl, gc_str, gc_tup, true_and, and_true, WE_dct])
  refine ⟨by decide, ?_⟩
  have x0 : Ex n S (S ++ [Ob.dct []]) := (Ex.refl hS).app
  have ef : (S ++ [Ob.dct []])[S.length]? = some (.dct []) := by simp
  change WC g (callN g fs fuel (k + 3)) fuel _ _ (S ++ [Ob.dct []]) _
  generalize S ++ [Ob.dct []] = T at x0 ef ⊢
  have hfn : S.length ≠ n := by have := hS.lt; omega
  refine WC_for ?_
  rw [WW_pl rfl, WE_var]
  simp only [List.getElem?_cons_zero, List.getElem?_cons_succ, wkOf, x0.lst d1 e1, Wk.items]
  have wok : ∀ {S' : Sto}, Ex n S S' → Wk.ok (.lst m1 ns) S' = true := fun y => by
    simp only [Wk.ok, y.lst d1 e1, Ob_beq_self]
  have wok2 : ∀ {S' : Sto}, Ex n S S' → Wk.ok (.lst m2 rs) S' = true := fun y => by
    simp only [Wk.ok, y.lst d2 e2, Ob_beq_self]
  refine ⟨fun i env S' => Ex n S S' ∧ ∃ kvs o4 o5, env = [some (.loc .lst n), some (.loc .lst m1), some (.loc .lst m2), some (.loc .dct S.length), o4, o5] ∧ S'[S.length]? = some (.dct kvs) ∧ Kok kvs ∧ kvs.length ≤ i ∧ i ≤ ns.length ∧ ∀ j x, j < i → ns[j]? = some x → ∃ z, x = .str z ∧ An kvs z,
    ⟨x0, [], _, _, rfl, ef, fun x hx => (by cases hx), Nat.le_refl _, Nat.zero_le _, fun j x hj => absurd hj (Nat.not_lt_zero _)⟩, fun i env S' h => wok h.1, ?_, ?_⟩
  · rintro i x env S' hi ⟨y0, kvs, o4, o5, rfl, ek, hk, hki, hin, hdone⟩
    obtain ⟨z, rfl, hz⟩ := hn x (List.mem_of_getElem? hi)
    have hi2 := (List.getElem?_eq_some_iff.mp hi).1
    refine ⟨_, rfl, ?_⟩
    (try simp only [WCs_cons, WCs_nil, WC_exp, WC_asg, WC_sto, WC_ret, WC_retN, WC_ife, WC_pass, WC_brk, WC_cnt, WE_var, WE_cst, WE_tup, WE_lst, WE_bin, WE_neg, WE_cmp, WE_chain, WE_is, WE_and, WE_or, WE_not, WE_ife, WE_bi, WE_isi, WE_meth, WE_ix, WE_sl, WE_rev, WO_none, WO_some, WT_and, WT_or, WT_not, WT_ife, WEs_nil, WEs_cons, WT_pl (e := .var _) rfl, WT_pl (e := .cst _) rfl, WT_pl (e := .cmp _ _ _) rfl, WT_pl (e := .chain _ _ _ _ _) rfl, WT_pl (e := .is_ _ _ _) rfl, WT_pl (e := .call _ _) rfl, WT_pl (e := .bi _ _) rfl, WT_pl (e := .isi _ _) rfl, WT_pl (e := .meth _ _ _) rfl, WT_pl (e := .ix _ _) rfl, WW_pl (e := .var _) rfl, WW_pl (e := .lst _) rfl, WW_pl (e := .tup _) rfl, WW_rng1, List.map_cons, List.map_nil, List.length_cons, List.length_nil, List.cons_append, List.nil_append, List.replicate, List.getElem?_cons_zero, List.getElem?_cons_succ, Fin_rt, Fin_nx, gc_self, asg, asgAll, List.set_cons_zero, List.set_cons_succ, Op_some, Opg_some, wkOf, Wk.items, Wk.ok, truth, isD, tyOf, bd_add, bd_sub, bd_mulr, bd_mull, bd_fdiv, bd_mod, bd_pow, cd_lt, cd_le, cd_gt, cd_ge, bi_abs, bi_max, bi_min, bi_lenS, bi_lenT, bi_lenR, bi_tupT, bi_listT, at20, at21, ixn20, ixn21, gc_set, Int.reduceLT, Int.reduceNeg, Int.reduceLE, Nat.reduceAdd, Nat.reduceLT, Nat.reduceLeDiff, pow_18, pow_9, pow_8, Op_addtup, sl_tup, Int.reduceToNat, Nat.zero_add, Nat.reduceSub, Int.reducePow, Int.reduceSub, Int.reduceMul, Int.reduceAdd, gc_int, gc_bl, gc_str, gc_tup, true_and, and_true])
    refine WE_number (n := n) fd_take fd_pick fd_number ?_
    (try simp only [WCs_cons, WCs_nil, WC_exp, WC_asg, WC_sto, WC_ret, WC_retN, WC_ife, WC_pass, WC_brk, WC_cnt, WE_var, WE_cst, WE_tup, WE_lst, WE_bin, WE_neg, WE_cmp, WE_chain, WE_is, WE_and, WE_or, WE_not, WE_ife, WE_bi, WE_isi, WE_meth, WE_ix, WE_sl, WE_rev, WO_none, WO_some, WT_and, WT_or, WT_not, WT_ife, WEs_nil, WEs_cons, WT_pl (e := .var _) rfl, WT_pl (e := .cst _) rfl, WT_pl (e := .cmp _ _ _) rfl, WT_pl (e := .chain _ _ _ _ _) rfl, WT_pl (e := .is_ _ _ _) rfl, WT_pl (e := .call _ _) rfl, WT_pl (e := .bi _ _) rfl, WT_pl (e := .isi _ _) rfl, WT_pl (e := .meth _ _ _) rfl, WT_pl (e := .ix _ _) rfl, WW_pl (e := .var _) rfl, WW_pl (e := .lst _) rfl, WW_pl (e := .tup _) rfl, WW_rng1, List.map_cons, List.map_nil, List.length_cons, List.length_nil, List.cons_append, List.nil_append, List.replicate, List.getElem?_cons_zero, List.getElem?_cons_succ, Fin_rt, Fin_nx, gc_self, asg, asgAll, List.set_cons_zero, List.set_cons_succ, Op_some, Opg_some, wkOf, Wk.items, Wk.ok, truth, isD, tyOf, bd_add, bd_sub, bd_mulr, bd_mull, bd_fdiv, bd_mod, bd_pow, cd_lt, cd_le, cd_gt, cd_ge, bi_abs, bi_max, bi_min, bi_lenS, bi_lenT, bi_lenR, bi_tupT, bi_listT, at20, at21, ixn20, ixn21, gc_set, Int.reduceLT, Int.reduceNeg, Int.reduceLE, Nat.reduceAdd, Nat.reduceLT, Nat.reduceLeDiff, pow_18, pow_9, pow_8, Op_addtup, sl_tup, Int.reduceToNat, Nat.zero_add, Nat.reduceSub, Int.reducePow, Int.reduceSub, Int.reduceMul, Int.reduceAdd, gc_int, gc_bl, gc_str, gc_tup, true_and, and_true])
    refine ⟨y0.fd.lt, .refl y0.fd, fun v S2 hv x2 => ?_⟩
    have z0 := y0.trans x2
    have ek2 : S2[S.length]? = some (.dct kvs) := x2.lst hfn ek
    rw [set_dct ek2 (by unfold cap; omega)]
    simp only
    refine ⟨z0.setNew (Nat.le_refl _) hS.lt, _, _, _, rfl, by simp [(List.getElem?_eq_some_iff.mp ek2).1], hk.put hz (.inl hv), Nat.le_trans put_len (by omega), by omega, fun j x hj hx => ?_⟩
    by_cases c : j = i
    · subst c
      rw [hi] at hx
      cases hx
      exact ⟨z, rfl, .self (.inl hv)⟩
    · obtain ⟨y, q1, q2⟩ := hdone j x (by omega) hx
      exact ⟨y, q1, q2.put (.inl hv)⟩
  · rintro env S' ⟨y0, kvs, o4, o5, rfl, ek, hk, hki, hin, hdone⟩
    have hA : ∀ x ∈ ns, ∃ z, x = .str z ∧ An kvs z := fun x hx => by
      obtain ⟨j, hj⟩ := List.mem_iff_getElem?.mp hx
      exact hdone j x (List.getElem?_eq_some_iff.mp hj).1 hj
    refine WC_for ?_
    rw [WW_pl rfl, WE_var]
    simp only [List.getElem?_cons_zero, List.getElem?_cons_succ, wkOf, y0.lst d2 e2, Wk.items]
    refine ⟨fun i env S' => Ex n S S' ∧ ∃ kvs o4 o5, env = [some (.loc .lst n), some (.loc .lst m1), some (.loc .lst m2), some (.loc .dct S.length), o4, o5] ∧ S'[S.length]? = some (.dct kvs) ∧ Kok kvs ∧ kvs.length ≤ ns.length + i ∧ i ≤ rs.length ∧ (∀ x ∈ ns, ∃ z, x = .str z ∧ An kvs z) ∧ ∀ j x, j < i → rs[j]? = some x → ∃ z, x = .str z ∧ Bn kvs z,
      ⟨y0, kvs, _, _, rfl, ek, hk, by simpa using hki, Nat.zero_le _, hA, fun j x hj => absurd hj (Nat.not_lt_zero _)⟩, fun i env S' h => wok2 h.1, ?_, ?_⟩
    · clear y0 ek hk hki hA hdone
      rintro i x env S' hi ⟨y0, kvs, o4, o5, rfl, ek, hk, hki, hin, hA, hdone⟩
      obtain ⟨z, rfl, hz⟩ := hr x (List.mem_of_getElem? hi)
      have hi2 := (List.getElem?_eq_some_iff.mp hi).1
      refine ⟨_, rfl, ?_⟩
      (try simp only [WCs_cons, WCs_nil, WC_exp, WC_asg, WC_sto, WC_ret, WC_retN, WC_ife, WC_pass, WC_brk, WC_cnt, WE_var, WE_cst, WE_tup, WE_lst, WE_bin, WE_neg, WE_cmp, WE_chain, WE_is, WE_and, WE_or, WE_not, WE_ife, WE_bi, WE_isi, WE_meth, WE_ix, WE_sl, WE_rev, WO_none, WO_some, WT_and, WT_or, WT_not, WT_ife, WEs_nil, WEs_cons, WT_pl (e := .var _) rfl, WT_pl (e := .cst _) rfl, WT_pl (e := .cmp _ _ _) rfl, WT_pl (e := .chain _ _ _ _ _) rfl, WT_pl (e := .is_ _ _ _) rfl, WT_pl (e := .call _ _) rfl, WT_pl (e := .bi _ _) rfl, WT_pl (e := .isi _ _) rfl, WT_pl (e := .meth _ _ _) rfl, WT_pl (e := .ix _ _) rfl, WW_pl (e := .var _) rfl, WW_pl (e := .lst _) rfl, WW_pl (e := .tup _) rfl, WW_rng1, List.map_cons, List.map_nil, List.length_cons, List.length_nil, List.cons_append, List.nil_append, List.replicate, List.getElem?_cons_zero, List.getElem?_cons_succ, Fin_rt, Fin_nx, gc_self, asg, asgAll, List.set_cons_zero, List.set_cons_succ, Op_some, Opg_some, wkOf, Wk.items, Wk.ok, truth, isD, tyOf, bd_add, bd_sub, bd_mulr, bd_mull, bd_fdiv, bd_mod, bd_pow, cd_lt, cd_le, cd_gt, cd_ge, bi_abs, bi_max, bi_min, bi_lenS, bi_lenT, bi_lenR, bi_tupT, bi_listT, at20, at21, ixn20, ixn21, gc_set, Int.reduceLT, Int.reduceNeg, Int.reduceLE, Nat.reduceAdd, Nat.reduceLT, Nat.reduceLeDiff, pow_18, pow_9, pow_8, Op_addtup, sl_tup, Int.reduceToNat, Nat.zero_add, Nat.reduceSub, Int.reducePow, Int.reduceSub, Int.reduceMul, Int.reduceAdd, gc_int, gc_bl, gc_str, gc_tup, true_and, and_true])
      refine WE_lc_inv ?_
      rw [WW_rng1]
      refine WE_take (n := n) fd_take ?_
      (try simp only [WCs_cons, WCs_nil, WC_exp, WC_asg, WC_sto, WC_ret, WC_retN, WC_ife, WC_pass, WC_brk, WC_cnt, WE_var, WE_cst, WE_tup, WE_lst, WE_bin, WE_neg, WE_cmp, WE_chain, WE_is, WE_and, WE_or, WE_not, WE_ife, WE_bi, WE_isi, WE_meth, WE_ix, WE_sl, WE_rev, WO_none, WO_some, WT_and, WT_or, WT_not, WT_ife, WEs_nil, WEs_cons, WT_pl (e := .var _) rfl, WT_pl (e := .cst _) rfl, WT_pl (e := .cmp _ _ _) rfl, WT_pl (e := .chain _ _ _ _ _) rfl, WT_pl (e := .is_ _ _ _) rfl, WT_pl (e := .call _ _) rfl, WT_pl (e := .bi _ _) rfl, WT_pl (e := .isi _ _) rfl, WT_pl (e := .meth _ _ _) rfl, WT_pl (e := .ix _ _) rfl, WW_pl (e := .var _) rfl, WW_pl (e := .lst _) rfl, WW_pl (e := .tup _) rfl, WW_rng1, List.map_cons, List.map_nil, List.length_cons, List.length_nil, List.cons_append, List.nil_append, List.replicate, List.getElem?_cons_zero, List.getElem?_cons_succ, Fin_rt, Fin_nx, gc_self, asg, asgAll, List.set_cons_zero, List.set_cons_succ, Op_some, Opg_some, wkOf, Wk.items, Wk.ok, truth, isD, tyOf, bd_add, bd_sub, bd_mulr, bd_mull, bd_fdiv, bd_mod, bd_pow, cd_lt, cd_le, cd_gt, cd_ge, bi_abs, bi_max, bi_min, bi_lenS, bi_lenT, bi_lenR, bi_tupT, bi_listT, at20, at21, ixn20, ixn21, gc_set, Int.reduceLT, Int.reduceNeg, Int.reduceLE, Nat.reduceAdd, Nat.reduceLT, Nat.reduceLeDiff, pow_18, pow_9, pow_8, Op_addtup, sl_tup, Int.reduceToNat, Nat.zero_add, Nat.reduceSub, Int.reducePow, Int.reduceSub, Int.reduceMul, Int.reduceAdd, gc_int, gc_bl, gc_str, gc_tup, true_and, and_true])
      refine WE_pick (n := n) fd_take fd_pick ?_
      (try simp only [WCs_cons, WCs_nil, WC_exp, WC_asg, WC_sto, WC_ret, WC_retN, WC_ife, WC_pass, WC_brk, WC_cnt, WE_var, WE_cst, WE_tup, WE_lst, WE_bin, WE_neg, WE_cmp, WE_chain, WE_is, WE_and, WE_or, WE_not, WE_ife, WE_bi, WE_isi, WE_meth, WE_ix, WE_sl, WE_rev, WO_none, WO_some, WT_and, WT_or, WT_not, WT_ife, WEs_nil, WEs_cons, WT_pl (e := .var _) rfl, WT_pl (e := .cst _) rfl, WT_pl (e := .cmp _ _ _) rfl, WT_pl (e := .chain _ _ _ _ _) rfl, WT_pl (e := .is_ _ _ _) rfl, WT_pl (e := .call _ _) rfl, WT_pl (e := .bi _ _) rfl, WT_pl (e := .isi _ _) rfl, WT_pl (e := .meth _ _ _) rfl, WT_pl (e := .ix _ _) rfl, WW_pl (e := .var _) rfl, WW_pl (e := .lst _) rfl, WW_pl (e := .tup _) rfl, WW_rng1, List.map_cons, List.map_nil, List.length_cons, List.length_nil, List.cons_append, List.nil_append, List.replicate, List.getElem?_cons_zero, List.getElem?_cons_succ, Fin_rt, Fin_nx, gc_self, asg, asgAll, List.set_cons_zero, List.set_cons_succ, Op_some, Opg_some, wkOf, Wk.items, Wk.ok, truth, isD, tyOf, bd_add, bd_sub, bd_mulr, bd_mull, bd_fdiv, bd_mod, bd_pow, cd_lt, cd_le, cd_gt, cd_ge, bi_abs, bi_max, bi_min, bi_lenS, bi_lenT, bi_lenR, bi_tupT, bi_listT, at20, at21, ixn20, ixn21, gc_set, Int.reduceLT, Int.reduceNeg, Int.reduceLE, Nat.reduceAdd, Nat.reduceLT, Nat.reduceLeDiff, pow_18, pow_9, pow_8, Op_addtup, sl_tup, Int.reduceToNat, Nat.zero_add, Nat.reduceSub, Int.reducePow, Int.reduceSub, Int.reduceMul, Int.reduceAdd, gc_int, gc_bl, gc_str, gc_tup, true_and, and_true])
      have x1 : Ex n S' (S' ++ [Ob.lst [.int 2, .int 4, .int 10]]) := (Ex.refl y0.fd).app
      have sm : ∀ x ∈ [D.int 2, .int 4, .int 10], ∃ r : Int, x = .int r ∧ 2 ≤ r ∧ r ≤ 10 := by
        intro x hx
        simp only [List.mem_cons, List.not_mem_nil, or_false] at hx
        rcases hx with rfl | rfl | rfl
        · exact ⟨_, rfl, by omega, by omega⟩
        · exact ⟨_, rfl, by omega, by omega⟩
        · exact ⟨_, rfl, by omega, by omega⟩
      refine ⟨by decide, S'.length, [.int 2, .int 4, .int 10], rfl, by have := y0.fd.lt; omega, by simp, by simp, by simp, fun x hx j => ?_, y0.fd.lt, x1, fun x d S2 hx hs x2 => ?_⟩
      · obtain ⟨r, rfl, _⟩ := sm x hx
        intro q
        cases q
      obtain ⟨r, rfl, h2, h10⟩ := sm x hx
      have ed : d = .int r := by
        rcases hs with e | ⟨a, b, e, _⟩
        · exact e
        · cases e
      subst ed
      refine ⟨r, rfl, by omega, by omega, y0.fd.lt, x2, fun q S3 h0 hq x3 => ?_⟩
      refine ⟨⟨by omega, by omega⟩, ?_⟩
      refine ⟨fun acc S4 => Ex n S' S4 ∧ ∀ y ∈ acc, Num y, fun _ _ _ => trivial, ?_, ?_, ⟨x3, fun y hy => (by cases hy)⟩, ?_⟩
      · rintro x hx acc S4 ⟨z0, hacc⟩
        unfold rngItems at hx
        obtain ⟨a, _, rfl⟩ := List.mem_map.mp hx
        refine ⟨_, rfl, ?_⟩
        refine WE_number (n := n) fd_take fd_pick fd_number ?_
        (try simp only [WCs_cons, WCs_nil, WC_exp, WC_asg, WC_sto, WC_ret, WC_retN, WC_ife, WC_pass, WC_brk, WC_cnt, WE_var, WE_cst, WE_tup, WE_lst, WE_bin, WE_neg, WE_cmp, WE_chain, WE_is, WE_and, WE_or, WE_not, WE_ife, WE_bi, WE_isi, WE_meth, WE_ix, WE_sl, WE_rev, WO_none, WO_some, WT_and, WT_or, WT_not, WT_ife, WEs_nil, WEs_cons, WT_pl (e := .var _) rfl, WT_pl (e := .cst _) rfl, WT_pl (e := .cmp _ _ _) rfl, WT_pl (e := .chain _ _ _ _ _) rfl, WT_pl (e := .is_ _ _ _) rfl, WT_pl (e := .call _ _) rfl, WT_pl (e := .bi _ _) rfl, WT_pl (e := .isi _ _) rfl, WT_pl (e := .meth _ _ _) rfl, WT_pl (e := .ix _ _) rfl, WW_pl (e := .var _) rfl, WW_pl (e := .lst _) rfl, WW_pl (e := .tup _) rfl, WW_rng1, List.map_cons, List.map_nil, List.length_cons, List.length_nil, List.cons_append, List.nil_append, List.replicate, List.getElem?_cons_zero, List.getElem?_cons_succ, Fin_rt, Fin_nx, gc_self, asg, asgAll, List.set_cons_zero, List.set_cons_succ, Op_some, Opg_some, wkOf, Wk.items, Wk.ok, truth, isD, tyOf, bd_add, bd_sub, bd_mulr, bd_mull, bd_fdiv, bd_mod, bd_pow, cd_lt, cd_le, cd_gt, cd_ge, bi_abs, bi_max, bi_min, bi_lenS, bi_lenT, bi_lenR, bi_tupT, bi_listT, at20, at21, ixn20, ixn21, gc_set, Int.reduceLT, Int.reduceNeg, Int.reduceLE, Nat.reduceAdd, Nat.reduceLT, Nat.reduceLeDiff, pow_18, pow_9, pow_8, Op_addtup, sl_tup, Int.reduceToNat, Nat.zero_add, Nat.reduceSub, Int.reducePow, Int.reduceSub, Int.reduceMul, Int.reduceAdd, gc_int, gc_bl, gc_str, gc_tup, true_and, and_true, wipeD])
        refine ⟨z0.fd.lt, .refl z0.fd, fun v S5 hv x5 => ⟨z0.trans x5, fun y hy => ?_⟩⟩
        rcases List.mem_append.mp hy with hy | hy
        · exact hacc y hy
        · simp at hy
          subst hy
          exact hv
      · unfold rngItems
        simp [cap]
        omega
      · rintro ds S4 ⟨z0, hds⟩ hlen
        have hln : ds.length ≤ 9 := by
          rw [hlen]
          unfold rngItems
          simp
          omega
        have x4 : Ex n S' (S4 ++ [Ob.lst ds]) := z0.app
        obtain ⟨j, q1, q2, q3, q4⟩ := gc_lst (m := S4.length) (xs := ds) y0.fd.lt x4 (by simp) z0.len
        rw [q1]
        generalize (gc S' (.loc .lst S4.length, S4 ++ [Ob.lst ds])).2 = S5 at q3 q4 ⊢
        (try simp only [WCs_cons, WCs_nil, WC_exp, WC_asg, WC_sto, WC_ret, WC_retN, WC_ife, WC_pass, WC_brk, WC_cnt, WE_var, WE_cst, WE_tup, WE_lst, WE_bin, WE_neg, WE_cmp, WE_chain, WE_is, WE_and, WE_or, WE_not, WE_ife, WE_bi, WE_isi, WE_meth, WE_ix, WE_sl, WE_rev, WO_none, WO_some, WT_and, WT_or, WT_not, WT_ife, WEs_nil, WEs_cons, WT_pl (e := .var _) rfl, WT_pl (e := .cst _) rfl, WT_pl (e := .cmp _ _ _) rfl, WT_pl (e := .chain _ _ _ _ _) rfl, WT_pl (e := .is_ _ _ _) rfl, WT_pl (e := .call _ _) rfl, WT_pl (e := .bi _ _) rfl, WT_pl (e := .isi _ _) rfl, WT_pl (e := .meth _ _ _) rfl, WT_pl (e := .ix _ _) rfl, WW_pl (e := .var _) rfl, WW_pl (e := .lst _) rfl, WW_pl (e := .tup _) rfl, WW_rng1, List.map_cons, List.map_nil, List.length_cons, List.length_nil, List.cons_append, List.nil_append, List.replicate, List.getElem?_cons_zero, List.getElem?_cons_succ, Fin_rt, Fin_nx, gc_self, asg, asgAll, List.set_cons_zero, List.set_cons_succ, Op_some, Opg_some, wkOf, Wk.items, Wk.ok, truth, isD, tyOf, bd_add, bd_sub, bd_mulr, bd_mull, bd_fdiv, bd_mod, bd_pow, cd_lt, cd_le, cd_gt, cd_ge, bi_abs, bi_max, bi_min, bi_lenS, bi_lenT, bi_lenR, bi_tupT, bi_listT, at20, at21, ixn20, ixn21, gc_set, Int.reduceLT, Int.reduceNeg, Int.reduceLE, Nat.reduceAdd, Nat.reduceLT, Nat.reduceLeDiff, pow_18, pow_9, pow_8, Op_addtup, sl_tup, Int.reduceToNat, Nat.zero_add, Nat.reduceSub, Int.reducePow, Int.reduceSub, Int.reduceMul, Int.reduceAdd, gc_int, gc_bl, gc_str, gc_tup, true_and, and_true, bi_tupL q3])
        have q5 : Ex n S' (gc S' (.tup ds, S5)).2 := gc_Ex y0.fd.lt q4
        generalize (gc S' (.tup ds, S5)).2 = S6 at q5 ⊢
        have ek2 : S6[S.length]? = some (.dct kvs) := q5.lst hfn ek
        rw [set_dct ek2 (by unfold cap; omega)]
        simp only
        have hv : VT (.tup ds) := ⟨ds, rfl, hln, hds⟩
        refine ⟨(y0.trans q5).setNew (Nat.le_refl _) hS.lt, _, _, _, rfl, by simp [(List.getElem?_eq_some_iff.mp ek2).1], hk.put hz (.inr hv), Nat.le_trans put_len (by omega), by omega, fun x hx => ?_, fun j x hj hx => ?_⟩
        · obtain ⟨y, p1, p2⟩ := hA x hx
          exact ⟨y, p1, p2.put (.inr hv)⟩
        · by_cases c : j = i
          · subst c
            rw [hi] at hx
            cases hx
            exact ⟨z, rfl, .self hv⟩
          · obtain ⟨y, p1, p2⟩ := hdone j x (by omega) hx
            exact ⟨y, p1, p2.put hv⟩
    · clear y0 ek hk hki hA hdone
      rintro env S' ⟨y0, kvs, o4, o5, rfl, ek, hk, hki, hin, hA, hdone⟩
      (try simp only [WCs_cons, WCs_nil, WC_exp, WC_asg, WC_sto, WC_ret, WC_retN, WC_ife, WC_pass, WC_brk, WC_cnt, WE_var, WE_cst, WE_tup, WE_lst, WE_bin, WE_neg, WE_cmp, WE_chain, WE_is, WE_and, WE_or, WE_not, WE_ife, WE_bi, WE_isi, WE_meth, WE_ix, WE_sl, WE_rev, WO_none, WO_some, WT_and, WT_or, WT_not, WT_ife, WEs_nil, WEs_cons, WT_pl (e := .var _) rfl, WT_pl (e := .cst _) rfl, WT_pl (e := .cmp _ _ _) rfl, WT_pl (e := .chain _ _ _ _ _) rfl, WT_pl (e := .is_ _ _ _) rfl, WT_pl (e := .call _ _) rfl, WT_pl (e := .bi _ _) rfl, WT_pl (e := .isi _ _) rfl, WT_pl (e := .meth _ _ _) rfl, WT_pl (e := .ix _ _) rfl, WW_pl (e := .var _) rfl, WW_pl (e := .lst _) rfl, WW_pl (e := .tup _) rfl, WW_rng1, List.map_cons, List.map_nil, List.length_cons, List.length_nil, List.cons_append, List.nil_append, List.replicate, List.getElem?_cons_zero, List.getElem?_cons_succ, Fin_rt, Fin_nx, gc_self, asg, asgAll, List.set_cons_zero, List.set_cons_succ, Op_some, Opg_some, wkOf, Wk.items, Wk.ok, truth, isD, tyOf, bd_add, bd_sub, bd_mulr, bd_mull, bd_fdiv, bd_mod, bd_pow, cd_lt, cd_le, cd_gt, cd_ge, bi_abs, bi_max, bi_min, bi_lenS, bi_lenT, bi_lenR, bi_tupT, bi_listT, at20, at21, ixn20, ixn21, gc_set, Int.reduceLT, Int.reduceNeg, Int.reduceLE, Nat.reduceAdd, Nat.reduceLT, Nat.reduceLeDiff, pow_18, pow_9, pow_8, Op_addtup, sl_tup, Int.reduceToNat, Nat.zero_add, Nat.reduceSub, Int.reducePow, Int.reduceSub, Int.reduceMul, Int.reduceAdd, gc_int, gc_bl, gc_str, gc_tup, true_and, and_true])
      obtain ⟨w, q1, q2, q3, q4⟩ := gc_dct hS.lt y0 ek (Nat.le_refl _)
      refine ⟨w, kvs, q1, q2, q3, q4, hk, hki, hA, fun x hx => ?_⟩
      obtain ⟨j, hj⟩ := List.mem_iff_getElem?.mp hx
      exact hdone j x (List.getElem?_eq_some_iff.mp hj).1 hj
end
end CV.k02

set_option Elab.async false
set_option linter.all false
set_option maxRecDepth 100000
set_option maxHeartbeats 4000000
namespace CV.k02
open PySem CV
def la2 : List C := []
def la1 : List C := (.ret (.and_ (.cmp .eq (.call (sx [114,111,119,95,111,102]) [(.tup []), (.dct [] [])]) (.tup [])) (.cmp .eq (.call (sx [116,117,114,110,101,100]) [(.tup [])]) (.tup [])))) :: la2
theorem la1_eq : la1 = (.ret (.and_ (.cmp .eq (.call (sx [114,111,119,95,111,102]) [(.tup []), (.dct [] [])]) (.tup [])) (.cmp .eq (.call (sx [116,117,114,110,101,100]) [(.tup [])]) (.tup [])))) :: la2 := rfl
def la0 : List C := (.for_ (.nm 1) (.rng [(.bi .max [(.cst (.int 2)), (.bi .min [(.cst (.int 8)), (.bi .len [(.var 0)])])])]) [(.asg (.nm 2) (.call (sx [95,108,97,119,95,102,101,101,100]) [(.var 0), (.var 1)])), (.asg (.nm 3) (.call (sx [95,108,97,119,95,110,97,109,101,115]) [(.var 2), (.cst (.int 6))])), (.asg (.nm 4) (.call (sx [95,108,97,119,95,119,111,114,116,104,115]) [(.var 2), (.sl (.var 3) none (some (.cst (.int 3)))), (.sl (.var 3) (some (.cst (.int 3))) none)])), (.asg (.nm 5) (.call (sx [95,108,97,119,95,119,111,114,100]) [(.var 2), (.sl (.var 3) none (some (.cst (.int 3)))), (.sl (.var 3) (some (.cst (.int 3))) none), (.cst (.int 6))])), (.asg (.nm 6) (.bi .repr [(.var 4)])), (.asg (.nm 7) (.call (sx [95,108,97,119,95,114,111,119]) [(.var 5), (.var 4)])), (.asg (.nm 8) (.call (sx [114,111,119,95,111,102]) [(.var 5), (.var 4)])), (.ife (.or_ (.not_ (.isi (.var 8) ["tuple"])) (.or_ (.cmp .ne (.var 8) (.var 7)) (.cmp .ne (.bi .repr [(.var 4)]) (.var 6)))) [(.ret (.cst (.bl false)))] []), (.asg (.nm 9) (.call (sx [116,117,114,110,101,100]) [(.var 5)])), (.asg (.nm 10) (.lc (.tup [(.ix (.dct [(.inr (sx [111,110,101])), (.inr (sx [114,111,119])), (.inr (sx [98,97,99,107]))] [(.cst (.str (sx [111,110,101]))), (.cst (.str (sx [98,97,99,107]))), (.cst (.str (sx [114,111,119])))]) (.var 11)), (.var 12)]) (.tup [(.nm 11), (.nm 12)]) (.var 5) [] [11, 12])), (.ife (.or_ (.not_ (.isi (.var 9) ["tuple"])) (.cmp .ne (.var 9) (.bi .tuple [(.rev (.var 10))]))) [(.ret (.cst (.bl false)))] []), (.ife (.or_ (.cmp .ne (.call (sx [114,111,119,95,111,102]) [(.var 9), (.var 4)]) (.rev (.var 7))) (.cmp .ne (.call (sx [116,117,114,110,101,100]) [(.var 9)]) (.var 5))) [(.ret (.cst (.bl false)))] [])]) :: la1
theorem la0_eq : la0 = (.for_ (.nm 1) (.rng [(.bi .max [(.cst (.int 2)), (.bi .min [(.cst (.int 8)), (.bi .len [(.var 0)])])])]) [(.asg (.nm 2) (.call (sx [95,108,97,119,95,102,101,101,100]) [(.var 0), (.var 1)])), (.asg (.nm 3) (.call (sx [95,108,97,119,95,110,97,109,101,115]) [(.var 2), (.cst (.int 6))])), (.asg (.nm 4) (.call (sx [95,108,97,119,95,119,111,114,116,104,115]) [(.var 2), (.sl (.var 3) none (some (.cst (.int 3)))), (.sl (.var 3) (some (.cst (.int 3))) none)])), (.asg (.nm 5) (.call (sx [95,108,97,119,95,119,111,114,100]) [(.var 2), (.sl (.var 3) none (some (.cst (.int 3)))), (.sl (.var 3) (some (.cst (.int 3))) none), (.cst (.int 6))])), (.asg (.nm 6) (.bi .repr [(.var 4)])), (.asg (.nm 7) (.call (sx [95,108,97,119,95,114,111,119]) [(.var 5), (.var 4)])), (.asg (.nm 8) (.call (sx [114,111,119,95,111,102]) [(.var 5), (.var 4)])), (.ife (.or_ (.not_ (.isi (.var 8) ["tuple"])) (.or_ (.cmp .ne (.var 8) (.var 7)) (.cmp .ne (.bi .repr [(.var 4)]) (.var 6)))) [(.ret (.cst (.bl false)))] []), (.asg (.nm 9) (.call (sx [116,117,114,110,101,100]) [(.var 5)])), (.asg (.nm 10) (.lc (.tup [(.ix (.dct [(.inr (sx [111,110,101])), (.inr (sx [114,111,119])), (.inr (sx [98,97,99,107]))] [(.cst (.str (sx [111,110,101]))), (.cst (.str (sx [98,97,99,107]))), (.cst (.str (sx [114,111,119])))]) (.var 11)), (.var 12)]) (.tup [(.nm 11), (.nm 12)]) (.var 5) [] [11, 12])), (.ife (.or_ (.not_ (.isi (.var 9) ["tuple"])) (.cmp .ne (.var 9) (.bi .tuple [(.rev (.var 10))]))) [(.ret (.cst (.bl false)))] []), (.ife (.or_ (.cmp .ne (.call (sx [114,111,119,95,111,102]) [(.var 9), (.var 4)]) (.rev (.var 7))) (.cmp .ne (.call (sx [116,117,114,110,101,100]) [(.var 9)]) (.var 5))) [(.ret (.cst (.bl false)))] [])]) :: la1 := rfl
theorem la_body : f_law.body = la0 := rfl
def lo12 : List C := []
theorem lo12_eq : lo12 = [] := rfl
def lo11 : List C := (.ife (.or_ (.cmp .ne (.call (sx [114,111,119,95,111,102]) [(.var 9), (.var 4)]) (.rev (.var 7))) (.cmp .ne (.call (sx [116,117,114,110,101,100]) [(.var 9)]) (.var 5))) [(.ret (.cst (.bl false)))] []) :: lo12
theorem lo11_eq : lo11 = (.ife (.or_ (.cmp .ne (.call (sx [114,111,119,95,111,102]) [(.var 9), (.var 4)]) (.rev (.var 7))) (.cmp .ne (.call (sx [116,117,114,110,101,100]) [(.var 9)]) (.var 5))) [(.ret (.cst (.bl false)))] []) :: lo12 := rfl
def lo10 : List C := (.ife (.or_ (.not_ (.isi (.var 9) ["tuple"])) (.cmp .ne (.var 9) (.bi .tuple [(.rev (.var 10))]))) [(.ret (.cst (.bl false)))] []) :: lo11
theorem lo10_eq : lo10 = (.ife (.or_ (.not_ (.isi (.var 9) ["tuple"])) (.cmp .ne (.var 9) (.bi .tuple [(.rev (.var 10))]))) [(.ret (.cst (.bl false)))] []) :: lo11 := rfl
def lo9 : List C := (.asg (.nm 10) (.lc (.tup [(.ix (.dct [(.inr (sx [111,110,101])), (.inr (sx [114,111,119])), (.inr (sx [98,97,99,107]))] [(.cst (.str (sx [111,110,101]))), (.cst (.str (sx [98,97,99,107]))), (.cst (.str (sx [114,111,119])))]) (.var 11)), (.var 12)]) (.tup [(.nm 11), (.nm 12)]) (.var 5) [] [11, 12])) :: lo10
theorem lo9_eq : lo9 = (.asg (.nm 10) (.lc (.tup [(.ix (.dct [(.inr (sx [111,110,101])), (.inr (sx [114,111,119])), (.inr (sx [98,97,99,107]))] [(.cst (.str (sx [111,110,101]))), (.cst (.str (sx [98,97,99,107]))), (.cst (.str (sx [114,111,119])))]) (.var 11)), (.var 12)]) (.tup [(.nm 11), (.nm 12)]) (.var 5) [] [11, 12])) :: lo10 := rfl
def lo8 : List C := (.asg (.nm 9) (.call (sx [116,117,114,110,101,100]) [(.var 5)])) :: lo9
theorem lo8_eq : lo8 = (.asg (.nm 9) (.call (sx [116,117,114,110,101,100]) [(.var 5)])) :: lo9 := rfl
def lo7 : List C := (.ife (.or_ (.not_ (.isi (.var 8) ["tuple"])) (.or_ (.cmp .ne (.var 8) (.var 7)) (.cmp .ne (.bi .repr [(.var 4)]) (.var 6)))) [(.ret (.cst (.bl false)))] []) :: lo8
theorem lo7_eq : lo7 = (.ife (.or_ (.not_ (.isi (.var 8) ["tuple"])) (.or_ (.cmp .ne (.var 8) (.var 7)) (.cmp .ne (.bi .repr [(.var 4)]) (.var 6)))) [(.ret (.cst (.bl false)))] []) :: lo8 := rfl
def lo6 : List C := (.asg (.nm 8) (.call (sx [114,111,119,95,111,102]) [(.var 5), (.var 4)])) :: lo7
theorem lo6_eq : lo6 = (.asg (.nm 8) (.call (sx [114,111,119,95,111,102]) [(.var 5), (.var 4)])) :: lo7 := rfl
def lo5 : List C := (.asg (.nm 7) (.call (sx [95,108,97,119,95,114,111,119]) [(.var 5), (.var 4)])) :: lo6
theorem lo5_eq : lo5 = (.asg (.nm 7) (.call (sx [95,108,97,119,95,114,111,119]) [(.var 5), (.var 4)])) :: lo6 := rfl
def lo4 : List C := (.asg (.nm 6) (.bi .repr [(.var 4)])) :: lo5
theorem lo4_eq : lo4 = (.asg (.nm 6) (.bi .repr [(.var 4)])) :: lo5 := rfl
def lo3 : List C := (.asg (.nm 5) (.call (sx [95,108,97,119,95,119,111,114,100]) [(.var 2), (.sl (.var 3) none (some (.cst (.int 3)))), (.sl (.var 3) (some (.cst (.int 3))) none), (.cst (.int 6))])) :: lo4
theorem lo3_eq : lo3 = (.asg (.nm 5) (.call (sx [95,108,97,119,95,119,111,114,100]) [(.var 2), (.sl (.var 3) none (some (.cst (.int 3)))), (.sl (.var 3) (some (.cst (.int 3))) none), (.cst (.int 6))])) :: lo4 := rfl
def lo2 : List C := (.asg (.nm 4) (.call (sx [95,108,97,119,95,119,111,114,116,104,115]) [(.var 2), (.sl (.var 3) none (some (.cst (.int 3)))), (.sl (.var 3) (some (.cst (.int 3))) none)])) :: lo3
theorem lo2_eq : lo2 = (.asg (.nm 4) (.call (sx [95,108,97,119,95,119,111,114,116,104,115]) [(.var 2), (.sl (.var 3) none (some (.cst (.int 3)))), (.sl (.var 3) (some (.cst (.int 3))) none)])) :: lo3 := rfl
def lo1 : List C := (.asg (.nm 3) (.call (sx [95,108,97,119,95,110,97,109,101,115]) [(.var 2), (.cst (.int 6))])) :: lo2
theorem lo1_eq : lo1 = (.asg (.nm 3) (.call (sx [95,108,97,119,95,110,97,109,101,115]) [(.var 2), (.cst (.int 6))])) :: lo2 := rfl
def lo0 : List C := (.asg (.nm 2) (.call (sx [95,108,97,119,95,102,101,101,100]) [(.var 0), (.var 1)])) :: lo1
theorem lo0_eq : lo0 = (.asg (.nm 2) (.call (sx [95,108,97,119,95,102,101,101,100]) [(.var 0), (.var 1)])) :: lo1 := rfl
section
variable {fuel k : Nat} {S : Sto} {kvs : Kvs}
theorem sl_lst {S : Sto} {m : Nat} {xs : List D} {l h : Option Int} (e : S[m]? = some (.lst xs)) : slD (.loc .lst m) l h S = some (.loc .lst S.length, S ++ [.lst (cutD xs l h)]) := by
  simp only [slD, lstOf, e]
theorem cut_lo {xs : List D} (h : xs.length = 6) : 0 < (cutD xs none (some 3)).length ∧ (cutD xs none (some 3)).length < 100 := by
  refine ⟨?_, Nat.lt_of_le_of_lt cut_len (by omega)⟩
  simp only [cutD, List.length_take, List.length_drop, h]
  decide
theorem cut_hi {xs : List D} (h : xs.length = 6) : 0 < (cutD xs (some 3) none).length ∧ (cutD xs (some 3) none).length < 100 := by
  refine ⟨?_, Nat.lt_of_le_of_lt cut_len (by omega)⟩
  simp only [cutD, List.length_take, List.length_drop, h]
  decide
/-- one turn of the inner loop -/
theorem Kok.repr (h : Kok kvs) (hl : kvs.length ≤ 100) : ∃ r : Str, ∀ (S : Sto) (m : Nat), S[m]? = some (.dct kvs) → biD .repr [.loc .dct m] S = some (.str r, S) := by
  refine repr_dct (N := 200) (fun x hx => ?_) (by omega) (by unfold cap; omega)
  obtain ⟨z, h1, h2, h3⟩ := h x hx
  rcases h3 with h3 | ⟨ys, e, hy, hn⟩
  · obtain ⟨p, e1, e2⟩ := shw_num (k := 50) h3
    exact ⟨z, p, h1, h2, e1, e2.le (by omega)⟩
  · obtain ⟨p, e1, e2⟩ := shw_tupD (N := 10) (M := 200) (k := 49) (xs := ys) (fun y hy => shw_num (hn y hy)) (by omega)
    exact ⟨z, p, h1, h2, by rw [e]; exact e1, e2⟩
theorem vw_pd {v : D} (h : VW v) : ∃ p, pdT 20 v = some p := by
  rcases h with h | ⟨ys, rfl, _, hn⟩
  · obtain ⟨p, e, _⟩ := shw_num (k := 20) h
    exact ⟨p, e⟩
  · obtain ⟨ps, e, _⟩ := pdT_tup (k := 19) (xs := ys) fun y hy => by
      obtain ⟨p, e, _⟩ := shw_num (k := 19) (hn y hy)
      exact ⟨p, e⟩
    exact ⟨_, e⟩
theorem row_pd {ws : List D} (h : ∀ x ∈ ws, PcW kvs x) : ∃ p, pdT 21 (.tup (rowW kvs ws)) = some p := by
  obtain ⟨ps, e, _⟩ := pdT_tup (k := 20) (xs := rowW kvs ws) fun y hy => vw_pd ((rowW_len h).2 y hy)
  exact ⟨_, e⟩
theorem word_pd {ws : List D} (h : ∀ x ∈ ws, PcW kvs x) : ∃ p, pdT 21 (.tup ws) = some p := by
  obtain ⟨ps, e, _⟩ := pdT_tup (k := 20) (xs := ws) fun y hy => by
    have hy := h y hy
    cases hy <;> exact ⟨_, rfl⟩
  exact ⟨_, e⟩
theorem turned_lc {ws : List D} {env : Env} {Q : D → Sto → Prop} (hx : ∀ x ∈ ws, PcW kvs x) (hl : ws.length ≤ 100) (he : ∃ o0 o1 o2 o3 o4 o6 o7 o8 o9 o10 o11 o12, env = [o0, o1, o2, o3, o4, some (.tup ws), o6, o7, o8, o9, o10, o11, o12])
    (q : Q (.loc .lst S.length) (S ++ [.lst (ws.map turnP)])) : WE g (callN g fs fuel k) (.lc (.tup [(.ix (.dct [(.inr (sx [111,110,101])), (.inr (sx [114,111,119])), (.inr (sx [98,97,99,107]))] [(.cst (.str (sx [111,110,101]))), (.cst (.str (sx [98,97,99,107]))), (.cst (.str (sx [114,111,119])))]) (.var 11)), (.var 12)]) (.tup [(.nm 11), (.nm 12)]) (.var 5) [] [11, 12]) env S Q := by
  obtain ⟨o0, o1, o2, o3, o4, o6, o7, o8, o9, o10, o11, o12, rfl⟩ := he
  refine WE_lc_pure (fun _ => true) turnP ?_
  rw [WW_pl rfl, WE_var]
  simp only [List.getElem?_cons_zero, List.getElem?_cons_succ, wkOf, Wk.items, Wk.ok, true_and]
  refine ⟨fun x hi => ?_, by unfold cap; omega, ?_⟩
  · have hx1 := hx x hi
    obtain ⟨s, b, rfl, hs⟩ := PcG.at hx1
    refine ⟨_, rfl, ifs_nil, fun _ => ?_⟩
    (try simp only [WCs_cons, WCs_nil, WC_exp, WC_asg, WC_sto, WC_ret, WC_retN, WC_ife, WC_pass, WC_brk, WC_cnt, WE_var, WE_cst, WE_tup, WE_lst, WE_bin, WE_neg, WE_cmp, WE_chain, WE_is, WE_and, WE_or, WE_not, WE_ife, WE_bi, WE_isi, WE_meth, WE_ix, WE_sl, WE_rev, WO_none, WO_some, WT_and, WT_or, WT_not, WT_ife, WEs_nil, WEs_cons, WT_pl (e := .var _) rfl, WT_pl (e := .cst _) rfl, WT_pl (e := .cmp _ _ _) rfl, WT_pl (e := .chain _ _ _ _ _) rfl, WT_pl (e := .is_ _ _ _) rfl, WT_pl (e := .call _ _) rfl, WT_pl (e := .bi _ _) rfl, WT_pl (e := .isi _ _) rfl, WT_pl (e := .meth _ _ _) rfl, WT_pl (e := .ix _ _) rfl, WW_pl (e := .var _) rfl, WW_pl (e := .lst _) rfl, WW_pl (e := .tup _) rfl, WW_rng1, List.map_cons, List.map_nil, List.length_cons, List.length_nil, List.cons_append, List.nil_append, List.replicate, List.getElem?_cons_zero, List.getElem?_cons_succ, Fin_rt, Fin_nx, gc_self, asg, asgAll, List.set_cons_zero, List.set_cons_succ, Op_some, Opg_some, wkOf, Wk.items, Wk.ok, truth, isD, tyOf, bd_add, bd_sub, bd_mulr, bd_mull, bd_fdiv, bd_mod, bd_pow, cd_lt, cd_le, cd_gt, cd_ge, bi_abs, bi_max, bi_min, bi_lenS, bi_lenT, bi_lenR, bi_tupT, bi_listT, at20, at21, ixn20, ixn21, gc_set, Int.reduceLT, Int.reduceNeg, Int.reduceLE, Nat.reduceAdd, Nat.reduceLT, Nat.reduceLeDiff, pow_18, pow_9, pow_8, Op_addtup, sl_tup, Int.reduceToNat, Nat.zero_add, Nat.reduceSub, Int.reducePow, Int.reduceSub, Int.reduceMul, Int.reduceAdd, gc_int, gc_bl, gc_str, gc_tup, true_and, and_true, wipeD, WE_dct])
    refine ⟨by decide, ?_⟩
    have e1 : ∀ kvs2 : Kvs, ixD g (.loc .dct S.length) (.str s) (S ++ [.dct kvs2]) = valD kvs2 (.inr s) := fun kvs2 => ix_dct (by simp)
    rw [e1]
    have e2 : valD ([(Sum.inr (sx [111,110,101]), D.str (sx [111,110,101])), (Sum.inr (sx [114,111,119]), .str (sx [98,97,99,107])), (Sum.inr (sx [98,97,99,107]), .str (sx [114,111,119]))].foldl (fun acc kv => putD acc kv.1 kv.2) []) (.inr s) = some (.str (if s = sOne then sOne else if s = sRow then sBack else sRow)) := by
      rcases hs with rfl | rfl | rfl <;> kernel_rfl
    have e3 : ∀ (t : Str) (u : Sto), gc S (.str t, S ++ u) = (.str t, S) := fun t u => gc_app rfl
    change match valD ([(Sum.inr (sx [111,110,101]), D.str (sx [111,110,101])), (Sum.inr (sx [114,111,119]), .str (sx [98,97,99,107])), (Sum.inr (sx [98,97,99,107]), .str (sx [114,111,119]))].foldl (fun acc kv => putD acc kv.1 kv.2) []) (.inr s) with
      | some d => _
      | none => False
    rw [e2]
    simp only [e3]
    exact ⟨by decide, rfl, trivial⟩
  · have e2 : List.map turnP (List.filter (fun _ => true) ws) = ws.map turnP := by
      rw [List.filter_eq_self.mpr (fun _ _ => rfl)]
    rw [e2, gc_last]
    exact q
theorem law_ok {ns : List Int} (hns : ns.length ≤ 63) : Op (callN g fs fuel (k + 6) f_law.nm [.scr ns] S) fun d S1 => d = .bl true := by
  refine callN_at fd_law rfl ?_
  rw [la_body]
  simp only [f_law, List.map_cons, List.map_nil, List.length_cons, List.length_nil, List.cons_append, List.nil_append, List.replicate, Nat.reduceAdd, Nat.reduceSub]
  rw [la0_eq, WCs_cons]
  change WC g (callN g fs fuel (k + 5)) fuel (.for_ (.nm 1) (.rng [(.bi .max [(.cst (.int 2)), (.bi .min [(.cst (.int 8)), (.bi .len [(.var 0)])])])]) lo0) _ S _
  refine WC_for ?_
  (try simp only [WCs_cons, WCs_nil, WC_exp, WC_asg, WC_sto, WC_ret, WC_retN, WC_ife, WC_pass, WC_brk, WC_cnt, WE_var, WE_cst, WE_tup, WE_lst, WE_bin, WE_neg, WE_cmp, WE_chain, WE_is, WE_and, WE_or, WE_not, WE_ife, WE_bi, WE_isi, WE_meth, WE_ix, WE_sl, WE_rev, WO_none, WO_some, WT_and, WT_or, WT_not, WT_ife, WEs_nil, WEs_cons, WT_pl (e := .var _) rfl, WT_pl (e := .cst _) rfl, WT_pl (e := .cmp _ _ _) rfl, WT_pl (e := .chain _ _ _ _ _) rfl, WT_pl (e := .is_ _ _ _) rfl, WT_pl (e := .call _ _) rfl, WT_pl (e := .bi _ _) rfl, WT_pl (e := .isi _ _) rfl, WT_pl (e := .meth _ _ _) rfl, WT_pl (e := .ix _ _) rfl, WW_pl (e := .var _) rfl, WW_pl (e := .lst _) rfl, WW_pl (e := .tup _) rfl, WW_rng1, List.map_cons, List.map_nil, List.length_cons, List.length_nil, List.cons_append, List.nil_append, List.replicate, List.getElem?_cons_zero, List.getElem?_cons_succ, Fin_rt, Fin_nx, gc_self, asg, asgAll, List.set_cons_zero, List.set_cons_succ, Op_some, Opg_some, wkOf, Wk.items, Wk.ok, truth, isD, tyOf, bd_add, bd_sub, bd_mulr, bd_mull, bd_fdiv, bd_mod, bd_pow, cd_lt, cd_le, cd_gt, cd_ge, bi_abs, bi_max, bi_min, bi_lenS, bi_lenT, bi_lenR, bi_tupT, bi_listT, at20, at21, ixn20, ixn21, gc_set, Int.reduceLT, Int.reduceNeg, Int.reduceLE, Nat.reduceAdd, Nat.reduceLT, Nat.reduceLeDiff, pow_18, pow_9, pow_8, Op_addtup, sl_tup, Int.reduceToNat, Nat.zero_add, Nat.reduceSub, Int.reducePow, Int.reduceSub, Int.reduceMul, Int.reduceAdd, gc_int, gc_bl, gc_str, gc_tup, true_and, and_true])
  refine ⟨⟨by split <;> (try split) <;> omega, by split <;> (try split) <;> omega⟩, ?_⟩
  refine ⟨fun i env S' => ∃ o1 o2 o3 o4 o5 o6 o7 o8 o9 o10 o11 o12, env = [some (.scr ns), o1, o2, o3, o4, o5, o6, o7, o8, o9, o10, o11, o12], ⟨_, _, _, _, _, _, _, _, _, _, _, _, rfl⟩, fun _ _ _ _ => trivial, ?_, ?_⟩
  · rintro i x env S1 hx ⟨o1, o2, o3, o4, o5, o6, o7, o8, o9, o10, o11, o12, rfl⟩
    have hk : ∃ j : Int, x = .int j ∧ 0 ≤ j := by
      have := List.mem_of_getElem? hx
      unfold rngItems at this
      obtain ⟨j, _, rfl⟩ := List.mem_map.mp this
      exact ⟨_, rfl, by omega⟩
    obtain ⟨j, rfl, hj⟩ := hk
    refine ⟨_, rfl, ?_⟩
    (try simp only [WCs_cons, WCs_nil, WC_exp, WC_asg, WC_sto, WC_ret, WC_retN, WC_ife, WC_pass, WC_brk, WC_cnt, WE_var, WE_cst, WE_tup, WE_lst, WE_bin, WE_neg, WE_cmp, WE_chain, WE_is, WE_and, WE_or, WE_not, WE_ife, WE_bi, WE_isi, WE_meth, WE_ix, WE_sl, WE_rev, WO_none, WO_some, WT_and, WT_or, WT_not, WT_ife, WEs_nil, WEs_cons, WT_pl (e := .var _) rfl, WT_pl (e := .cst _) rfl, WT_pl (e := .cmp _ _ _) rfl, WT_pl (e := .chain _ _ _ _ _) rfl, WT_pl (e := .is_ _ _ _) rfl, WT_pl (e := .call _ _) rfl, WT_pl (e := .bi _ _) rfl, WT_pl (e := .isi _ _) rfl, WT_pl (e := .meth _ _ _) rfl, WT_pl (e := .ix _ _) rfl, WW_pl (e := .var _) rfl, WW_pl (e := .lst _) rfl, WW_pl (e := .tup _) rfl, WW_rng1, List.map_cons, List.map_nil, List.length_cons, List.length_nil, List.cons_append, List.nil_append, List.replicate, List.getElem?_cons_zero, List.getElem?_cons_succ, Fin_rt, Fin_nx, gc_self, asg, asgAll, List.set_cons_zero, List.set_cons_succ, Op_some, Opg_some, wkOf, Wk.items, Wk.ok, truth, isD, tyOf, bd_add, bd_sub, bd_mulr, bd_mull, bd_fdiv, bd_mod, bd_pow, cd_lt, cd_le, cd_gt, cd_ge, bi_abs, bi_max, bi_min, bi_lenS, bi_lenT, bi_lenR, bi_tupT, bi_listT, at20, at21, ixn20, ixn21, gc_set, Int.reduceLT, Int.reduceNeg, Int.reduceLE, Nat.reduceAdd, Nat.reduceLT, Nat.reduceLeDiff, pow_18, pow_9, pow_8, Op_addtup, sl_tup, Int.reduceToNat, Nat.zero_add, Nat.reduceSub, Int.reducePow, Int.reduceSub, Int.reduceMul, Int.reduceAdd, gc_int, gc_bl, gc_str, gc_tup, true_and, and_true])
    rw [lo0_eq, WCs_cons, WC_asg, WE_call]
    (try simp only [WCs_cons, WCs_nil, WC_exp, WC_asg, WC_sto, WC_ret, WC_retN, WC_ife, WC_pass, WC_brk, WC_cnt, WE_var, WE_cst, WE_tup, WE_lst, WE_bin, WE_neg, WE_cmp, WE_chain, WE_is, WE_and, WE_or, WE_not, WE_ife, WE_bi, WE_isi, WE_meth, WE_ix, WE_sl, WE_rev, WO_none, WO_some, WT_and, WT_or, WT_not, WT_ife, WEs_nil, WEs_cons, WT_pl (e := .var _) rfl, WT_pl (e := .cst _) rfl, WT_pl (e := .cmp _ _ _) rfl, WT_pl (e := .chain _ _ _ _ _) rfl, WT_pl (e := .is_ _ _ _) rfl, WT_pl (e := .call _ _) rfl, WT_pl (e := .bi _ _) rfl, WT_pl (e := .isi _ _) rfl, WT_pl (e := .meth _ _ _) rfl, WT_pl (e := .ix _ _) rfl, WW_pl (e := .var _) rfl, WW_pl (e := .lst _) rfl, WW_pl (e := .tup _) rfl, WW_rng1, List.map_cons, List.map_nil, List.length_cons, List.length_nil, List.cons_append, List.nil_append, List.replicate, List.getElem?_cons_zero, List.getElem?_cons_succ, Fin_rt, Fin_nx, gc_self, asg, asgAll, List.set_cons_zero, List.set_cons_succ, Op_some, Opg_some, wkOf, Wk.items, Wk.ok, truth, isD, tyOf, bd_add, bd_sub, bd_mulr, bd_mull, bd_fdiv, bd_mod, bd_pow, cd_lt, cd_le, cd_gt, cd_ge, bi_abs, bi_max, bi_min, bi_lenS, bi_lenT, bi_lenR, bi_tupT, bi_listT, at20, at21, ixn20, ixn21, gc_set, Int.reduceLT, Int.reduceNeg, Int.reduceLE, Nat.reduceAdd, Nat.reduceLT, Nat.reduceLeDiff, pow_18, pow_9, pow_8, Op_addtup, sl_tup, Int.reduceToNat, Nat.zero_add, Nat.reduceSub, Int.reducePow, Int.reduceSub, Int.reduceMul, Int.reduceAdd, gc_int, gc_bl, gc_str, gc_tup, true_and, and_true])
    refine (feed_ok fd_feed hj).imp ?_
    rintro d T ⟨a, b, ha, rfl, rfl⟩
    rw [gc_last]
    try simp only
    have hF : FeedAt S1.length (S1 ++ [Ob.lst [.int a, .int b]]) := ⟨a, b, by simp, ha⟩
    generalize hn : S1.length = n at hF ⊢
    generalize S1 ++ [Ob.lst [.int a, .int b]] = T at hF ⊢
    -- names
    rw [lo1_eq, WCs_cons, WC_asg, WE_call]
    (try simp only [WCs_cons, WCs_nil, WC_exp, WC_asg, WC_sto, WC_ret, WC_retN, WC_ife, WC_pass, WC_brk, WC_cnt, WE_var, WE_cst, WE_tup, WE_lst, WE_bin, WE_neg, WE_cmp, WE_chain, WE_is, WE_and, WE_or, WE_not, WE_ife, WE_bi, WE_isi, WE_meth, WE_ix, WE_sl, WE_rev, WO_none, WO_some, WT_and, WT_or, WT_not, WT_ife, WEs_nil, WEs_cons, WT_pl (e := .var _) rfl, WT_pl (e := .cst _) rfl, WT_pl (e := .cmp _ _ _) rfl, WT_pl (e := .chain _ _ _ _ _) rfl, WT_pl (e := .is_ _ _ _) rfl, WT_pl (e := .call _ _) rfl, WT_pl (e := .bi _ _) rfl, WT_pl (e := .isi _ _) rfl, WT_pl (e := .meth _ _ _) rfl, WT_pl (e := .ix _ _) rfl, WW_pl (e := .var _) rfl, WW_pl (e := .lst _) rfl, WW_pl (e := .tup _) rfl, WW_rng1, List.map_cons, List.map_nil, List.length_cons, List.length_nil, List.cons_append, List.nil_append, List.replicate, List.getElem?_cons_zero, List.getElem?_cons_succ, Fin_rt, Fin_nx, gc_self, asg, asgAll, List.set_cons_zero, List.set_cons_succ, Op_some, Opg_some, wkOf, Wk.items, Wk.ok, truth, isD, tyOf, bd_add, bd_sub, bd_mulr, bd_mull, bd_fdiv, bd_mod, bd_pow, cd_lt, cd_le, cd_gt, cd_ge, bi_abs, bi_max, bi_min, bi_lenS, bi_lenT, bi_lenR, bi_tupT, bi_listT, at20, at21, ixn20, ixn21, gc_set, Int.reduceLT, Int.reduceNeg, Int.reduceLE, Nat.reduceAdd, Nat.reduceLT, Nat.reduceLeDiff, pow_18, pow_9, pow_8, Op_addtup, sl_tup, Int.reduceToNat, Nat.zero_add, Nat.reduceSub, Int.reducePow, Int.reduceSub, Int.reduceMul, Int.reduceAdd, gc_int, gc_bl, gc_str, gc_tup, true_and, and_true])
    refine (names_ok fd_take fd_names hF (by omega) (by omega)).imp ?_
    rintro d T1 ⟨m, xs, rfl, hm, em, lx, nx, x1⟩
    obtain ⟨m2, q1, q2, q3, q4⟩ := gc_lst hF.lt x1 em hm
    rw [q1]
    generalize (gc T (.loc .lst m, T1)).2 = T2 at q3 q4 ⊢
    try simp only
    have lx6 : xs.length = 6 := by simpa using lx
    have cl1 : (cutD xs none (some 3)).length ≤ 100 := Nat.le_trans cut_len (by omega)
    have cl2 : (cutD xs (some 3) none).length ≤ 100 := Nat.le_trans cut_len (by omega)
    have cl3 := cut_lo lx6
    have cl4 := cut_hi lx6
    have hn2 : n < T2.length := q4.fd.lt
    have slices : ∀ T2 : Sto, FeedAt n T2 → T2[m2]? = some (.lst xs) → (T2 ++ [Ob.lst (cutD xs none (some 3))])[m2]? = some (.lst xs) ∧ FeedAt n (T2 ++ [Ob.lst (cutD xs none (some 3))] ++ [Ob.lst (cutD xs (some 3) none)]) ∧
        (T2 ++ [Ob.lst (cutD xs none (some 3))] ++ [Ob.lst (cutD xs (some 3) none)])[T2.length]? = some (.lst (cutD xs none (some 3))) ∧
        (T2 ++ [Ob.lst (cutD xs none (some 3))] ++ [Ob.lst (cutD xs (some 3) none)])[(T2 ++ [Ob.lst (cutD xs none (some 3))]).length]? = some (.lst (cutD xs (some 3) none)) ∧ n < T2.length := fun T2 f q => by
      refine ⟨?_, f.app.app, ?_, ?_, f.lt⟩
      · rw [List.getElem?_append_left (List.getElem?_eq_some_iff.mp q).1]
        exact q
      · rw [List.getElem?_append_left (by simp)]
        simp
      · rw [List.getElem?_append_right (Nat.le_refl _)]
        simp
    -- worths
    rw [lo2_eq, WCs_cons, WC_asg, WE_call]
    obtain ⟨q3b, f4, a1, a2, _⟩ := slices T2 q4.fd q3
    (try simp only [WCs_cons, WCs_nil, WC_exp, WC_asg, WC_sto, WC_ret, WC_retN, WC_ife, WC_pass, WC_brk, WC_cnt, WE_var, WE_cst, WE_tup, WE_lst, WE_bin, WE_neg, WE_cmp, WE_chain, WE_is, WE_and, WE_or, WE_not, WE_ife, WE_bi, WE_isi, WE_meth, WE_ix, WE_sl, WE_rev, WO_none, WO_some, WT_and, WT_or, WT_not, WT_ife, WEs_nil, WEs_cons, WT_pl (e := .var _) rfl, WT_pl (e := .cst _) rfl, WT_pl (e := .cmp _ _ _) rfl, WT_pl (e := .chain _ _ _ _ _) rfl, WT_pl (e := .is_ _ _ _) rfl, WT_pl (e := .call _ _) rfl, WT_pl (e := .bi _ _) rfl, WT_pl (e := .isi _ _) rfl, WT_pl (e := .meth _ _ _) rfl, WT_pl (e := .ix _ _) rfl, WW_pl (e := .var _) rfl, WW_pl (e := .lst _) rfl, WW_pl (e := .tup _) rfl, WW_rng1, List.map_cons, List.map_nil, List.length_cons, List.length_nil, List.cons_append, List.nil_append, List.replicate, List.getElem?_cons_zero, List.getElem?_cons_succ, Fin_rt, Fin_nx, gc_self, asg, asgAll, List.set_cons_zero, List.set_cons_succ, Op_some, Opg_some, wkOf, Wk.items, Wk.ok, truth, isD, tyOf, bd_add, bd_sub, bd_mulr, bd_mull, bd_fdiv, bd_mod, bd_pow, cd_lt, cd_le, cd_gt, cd_ge, bi_abs, bi_max, bi_min, bi_lenS, bi_lenT, bi_lenR, bi_tupT, bi_listT, at20, at21, ixn20, ixn21, gc_set, Int.reduceLT, Int.reduceNeg, Int.reduceLE, Nat.reduceAdd, Nat.reduceLT, Nat.reduceLeDiff, pow_18, pow_9, pow_8, Op_addtup, sl_tup, Int.reduceToNat, Nat.zero_add, Nat.reduceSub, Int.reducePow, Int.reduceSub, Int.reduceMul, Int.reduceAdd, gc_int, gc_bl, gc_str, gc_tup, true_and, and_true, sl_lst q3, sl_lst q3b, gc_last])
    refine (worths_ok f4 a1 a2 (by omega) (by simp; omega) (fun x hx => nx x (cut_mem hx)) (fun x hx => nx x (cut_mem hx)) cl1 cl2).imp ?_
    rintro d T5 ⟨w, kvs, rfl, hw, ew, x5, hk, hkl, hA, hB⟩
    have x5' : Ex n T2 T5 := ((Ex.refl q4.fd).app.app).trans x5
    have hw2 : T2.length ≤ w := by simp at hw; omega
    obtain ⟨w2, r1, r2, r3, r4⟩ := gc_dct hn2 x5' ew hw2
    rw [r1]
    generalize (gc T2 (.loc .dct w, T5)).2 = T6 at r3 r4 ⊢
    have hkl2 : kvs.length ≤ 100 := by
      have l1 := cut_len (xs := xs) (l := none) (h := some 3)
      have l2 := cut_len (xs := xs) (l := some 3) (h := none)
      omega
    have hwn : w2 ≠ n := by omega
    have hm2n : m2 ≠ n := by have := hF.lt; omega
    try simp only
    -- word
    rw [lo3_eq, WCs_cons, WC_asg, WE_call]
    obtain ⟨u3b, f7, b1, b2, hn6⟩ := slices T6 r4.fd (r4.lst hm2n q3)
    (try simp only [WCs_cons, WCs_nil, WC_exp, WC_asg, WC_sto, WC_ret, WC_retN, WC_ife, WC_pass, WC_brk, WC_cnt, WE_var, WE_cst, WE_tup, WE_lst, WE_bin, WE_neg, WE_cmp, WE_chain, WE_is, WE_and, WE_or, WE_not, WE_ife, WE_bi, WE_isi, WE_meth, WE_ix, WE_sl, WE_rev, WO_none, WO_some, WT_and, WT_or, WT_not, WT_ife, WEs_nil, WEs_cons, WT_pl (e := .var _) rfl, WT_pl (e := .cst _) rfl, WT_pl (e := .cmp _ _ _) rfl, WT_pl (e := .chain _ _ _ _ _) rfl, WT_pl (e := .is_ _ _ _) rfl, WT_pl (e := .call _ _) rfl, WT_pl (e := .bi _ _) rfl, WT_pl (e := .isi _ _) rfl, WT_pl (e := .meth _ _ _) rfl, WT_pl (e := .ix _ _) rfl, WW_pl (e := .var _) rfl, WW_pl (e := .lst _) rfl, WW_pl (e := .tup _) rfl, WW_rng1, List.map_cons, List.map_nil, List.length_cons, List.length_nil, List.cons_append, List.nil_append, List.replicate, List.getElem?_cons_zero, List.getElem?_cons_succ, Fin_rt, Fin_nx, gc_self, asg, asgAll, List.set_cons_zero, List.set_cons_succ, Op_some, Opg_some, wkOf, Wk.items, Wk.ok, truth, isD, tyOf, bd_add, bd_sub, bd_mulr, bd_mull, bd_fdiv, bd_mod, bd_pow, cd_lt, cd_le, cd_gt, cd_ge, bi_abs, bi_max, bi_min, bi_lenS, bi_lenT, bi_lenR, bi_tupT, bi_listT, at20, at21, ixn20, ixn21, gc_set, Int.reduceLT, Int.reduceNeg, Int.reduceLE, Nat.reduceAdd, Nat.reduceLT, Nat.reduceLeDiff, pow_18, pow_9, pow_8, Op_addtup, sl_tup, Int.reduceToNat, Nat.zero_add, Nat.reduceSub, Int.reducePow, Int.reduceSub, Int.reduceMul, Int.reduceAdd, gc_int, gc_bl, gc_str, gc_tup, true_and, and_true, sl_lst (r4.lst hm2n q3), sl_lst u3b, gc_last])
    refine (word_okG fd_take fd_pick fd_number fd_word (A := An kvs) (B := Bn kvs) (by omega) (by omega) f7 b1 b2 (by omega) (by simp; omega) hA hB cl3 cl4).imp ?_
    rintro d T7 ⟨ws, rfl, lw, pw, x7⟩
    have x8 : Ex n T6 (gc T6 (.tup ws, T7)).2 := gc_Ex hn6 (((Ex.refl r4.fd).app.app).trans x7)
    rw [gc_tup]
    generalize (gc T6 (.tup ws, T7)).2 = T8 at x8 ⊢
    have ew8 : T8[w2]? = some (.dct kvs) := x8.lst hwn r3
    have lw2 : ws.length ≤ 100 := by simp at lw; omega
    try simp only
    -- seen
    obtain ⟨r, hr⟩ := hk.repr hkl2
    rw [lo4_eq, WCs_cons, WC_asg]
    (try simp only [WCs_cons, WCs_nil, WC_exp, WC_asg, WC_sto, WC_ret, WC_retN, WC_ife, WC_pass, WC_brk, WC_cnt, WE_var, WE_cst, WE_tup, WE_lst, WE_bin, WE_neg, WE_cmp, WE_chain, WE_is, WE_and, WE_or, WE_not, WE_ife, WE_bi, WE_isi, WE_meth, WE_ix, WE_sl, WE_rev, WO_none, WO_some, WT_and, WT_or, WT_not, WT_ife, WEs_nil, WEs_cons, WT_pl (e := .var _) rfl, WT_pl (e := .cst _) rfl, WT_pl (e := .cmp _ _ _) rfl, WT_pl (e := .chain _ _ _ _ _) rfl, WT_pl (e := .is_ _ _ _) rfl, WT_pl (e := .call _ _) rfl, WT_pl (e := .bi _ _) rfl, WT_pl (e := .isi _ _) rfl, WT_pl (e := .meth _ _ _) rfl, WT_pl (e := .ix _ _) rfl, WW_pl (e := .var _) rfl, WW_pl (e := .lst _) rfl, WW_pl (e := .tup _) rfl, WW_rng1, List.map_cons, List.map_nil, List.length_cons, List.length_nil, List.cons_append, List.nil_append, List.replicate, List.getElem?_cons_zero, List.getElem?_cons_succ, Fin_rt, Fin_nx, gc_self, asg, asgAll, List.set_cons_zero, List.set_cons_succ, Op_some, Opg_some, wkOf, Wk.items, Wk.ok, truth, isD, tyOf, bd_add, bd_sub, bd_mulr, bd_mull, bd_fdiv, bd_mod, bd_pow, cd_lt, cd_le, cd_gt, cd_ge, bi_abs, bi_max, bi_min, bi_lenS, bi_lenT, bi_lenR, bi_tupT, bi_listT, at20, at21, ixn20, ixn21, gc_set, Int.reduceLT, Int.reduceNeg, Int.reduceLE, Nat.reduceAdd, Nat.reduceLT, Nat.reduceLeDiff, pow_18, pow_9, pow_8, Op_addtup, sl_tup, Int.reduceToNat, Nat.zero_add, Nat.reduceSub, Int.reducePow, Int.reduceSub, Int.reduceMul, Int.reduceAdd, gc_int, gc_bl, gc_str, gc_tup, true_and, and_true, hr T8 w2 ew8])
    -- due
    rw [lo5_eq, WCs_cons, WC_asg, WE_call]
    (try simp only [WCs_cons, WCs_nil, WC_exp, WC_asg, WC_sto, WC_ret, WC_retN, WC_ife, WC_pass, WC_brk, WC_cnt, WE_var, WE_cst, WE_tup, WE_lst, WE_bin, WE_neg, WE_cmp, WE_chain, WE_is, WE_and, WE_or, WE_not, WE_ife, WE_bi, WE_isi, WE_meth, WE_ix, WE_sl, WE_rev, WO_none, WO_some, WT_and, WT_or, WT_not, WT_ife, WEs_nil, WEs_cons, WT_pl (e := .var _) rfl, WT_pl (e := .cst _) rfl, WT_pl (e := .cmp _ _ _) rfl, WT_pl (e := .chain _ _ _ _ _) rfl, WT_pl (e := .is_ _ _ _) rfl, WT_pl (e := .call _ _) rfl, WT_pl (e := .bi _ _) rfl, WT_pl (e := .isi _ _) rfl, WT_pl (e := .meth _ _ _) rfl, WT_pl (e := .ix _ _) rfl, WW_pl (e := .var _) rfl, WW_pl (e := .lst _) rfl, WW_pl (e := .tup _) rfl, WW_rng1, List.map_cons, List.map_nil, List.length_cons, List.length_nil, List.cons_append, List.nil_append, List.replicate, List.getElem?_cons_zero, List.getElem?_cons_succ, Fin_rt, Fin_nx, gc_self, asg, asgAll, List.set_cons_zero, List.set_cons_succ, Op_some, Opg_some, wkOf, Wk.items, Wk.ok, truth, isD, tyOf, bd_add, bd_sub, bd_mulr, bd_mull, bd_fdiv, bd_mod, bd_pow, cd_lt, cd_le, cd_gt, cd_ge, bi_abs, bi_max, bi_min, bi_lenS, bi_lenT, bi_lenR, bi_tupT, bi_listT, at20, at21, ixn20, ixn21, gc_set, Int.reduceLT, Int.reduceNeg, Int.reduceLE, Nat.reduceAdd, Nat.reduceLT, Nat.reduceLeDiff, pow_18, pow_9, pow_8, Op_addtup, sl_tup, Int.reduceToNat, Nat.zero_add, Nat.reduceSub, Int.reducePow, Int.reduceSub, Int.reduceMul, Int.reduceAdd, gc_int, gc_bl, gc_str, gc_tup, true_and, and_true])
    refine (law_row_ok x8.fd ew8 hwn pw lw2).imp ?_
    rintro d T9 ⟨rfl, x9⟩
    rw [gc_tup]
    have x10 : Ex n T8 (gc T8 (.tup (rowW kvs ws), T9)).2 := gc_Ex x8.fd.lt x9
    generalize (gc T8 (.tup (rowW kvs ws), T9)).2 = T10 at x10 ⊢
    have ew10 : T10[w2]? = some (.dct kvs) := x10.lst hwn ew8
    try simp only
    -- told
    rw [lo6_eq, WCs_cons, WC_asg, WE_call]
    (try simp only [WCs_cons, WCs_nil, WC_exp, WC_asg, WC_sto, WC_ret, WC_retN, WC_ife, WC_pass, WC_brk, WC_cnt, WE_var, WE_cst, WE_tup, WE_lst, WE_bin, WE_neg, WE_cmp, WE_chain, WE_is, WE_and, WE_or, WE_not, WE_ife, WE_bi, WE_isi, WE_meth, WE_ix, WE_sl, WE_rev, WO_none, WO_some, WT_and, WT_or, WT_not, WT_ife, WEs_nil, WEs_cons, WT_pl (e := .var _) rfl, WT_pl (e := .cst _) rfl, WT_pl (e := .cmp _ _ _) rfl, WT_pl (e := .chain _ _ _ _ _) rfl, WT_pl (e := .is_ _ _ _) rfl, WT_pl (e := .call _ _) rfl, WT_pl (e := .bi _ _) rfl, WT_pl (e := .isi _ _) rfl, WT_pl (e := .meth _ _ _) rfl, WT_pl (e := .ix _ _) rfl, WW_pl (e := .var _) rfl, WW_pl (e := .lst _) rfl, WW_pl (e := .tup _) rfl, WW_rng1, List.map_cons, List.map_nil, List.length_cons, List.length_nil, List.cons_append, List.nil_append, List.replicate, List.getElem?_cons_zero, List.getElem?_cons_succ, Fin_rt, Fin_nx, gc_self, asg, asgAll, List.set_cons_zero, List.set_cons_succ, Op_some, Opg_some, wkOf, Wk.items, Wk.ok, truth, isD, tyOf, bd_add, bd_sub, bd_mulr, bd_mull, bd_fdiv, bd_mod, bd_pow, cd_lt, cd_le, cd_gt, cd_ge, bi_abs, bi_max, bi_min, bi_lenS, bi_lenT, bi_lenR, bi_tupT, bi_listT, at20, at21, ixn20, ixn21, gc_set, Int.reduceLT, Int.reduceNeg, Int.reduceLE, Nat.reduceAdd, Nat.reduceLT, Nat.reduceLeDiff, pow_18, pow_9, pow_8, Op_addtup, sl_tup, Int.reduceToNat, Nat.zero_add, Nat.reduceSub, Int.reducePow, Int.reduceSub, Int.reduceMul, Int.reduceAdd, gc_int, gc_bl, gc_str, gc_tup, true_and, and_true])
    refine Op.of (row_of_ok ew10 pw lw2) ?_
    rw [gc_self]
    try simp only
    obtain ⟨p1, hp1⟩ := row_pd pw
    obtain ⟨tp, t2, t3⟩ := turnW_ok pw
    have lt2 : (turnW ws).length ≤ 100 := by unfold turnW; simpa using lw2
    have ne1 : ∀ S : Sto, cmpD g .ne (.tup (rowW kvs ws)) (.tup (rowW kvs ws)) S = some false := fun S => cd_ne_self hp1 (by omega)
    rw [lo7_eq]
    (try simp only [WCs_cons, WCs_nil, WC_exp, WC_asg, WC_sto, WC_ret, WC_retN, WC_ife, WC_pass, WC_brk, WC_cnt, WE_var, WE_cst, WE_tup, WE_lst, WE_bin, WE_neg, WE_cmp, WE_chain, WE_is, WE_and, WE_or, WE_not, WE_ife, WE_bi, WE_isi, WE_meth, WE_ix, WE_sl, WE_rev, WO_none, WO_some, WT_and, WT_or, WT_not, WT_ife, WEs_nil, WEs_cons, WT_pl (e := .var _) rfl, WT_pl (e := .cst _) rfl, WT_pl (e := .cmp _ _ _) rfl, WT_pl (e := .chain _ _ _ _ _) rfl, WT_pl (e := .is_ _ _ _) rfl, WT_pl (e := .call _ _) rfl, WT_pl (e := .bi _ _) rfl, WT_pl (e := .isi _ _) rfl, WT_pl (e := .meth _ _ _) rfl, WT_pl (e := .ix _ _) rfl, WW_pl (e := .var _) rfl, WW_pl (e := .lst _) rfl, WW_pl (e := .tup _) rfl, WW_rng1, List.map_cons, List.map_nil, List.length_cons, List.length_nil, List.cons_append, List.nil_append, List.replicate, List.getElem?_cons_zero, List.getElem?_cons_succ, Fin_rt, Fin_nx, gc_self, asg, asgAll, List.set_cons_zero, List.set_cons_succ, Op_some, Opg_some, wkOf, Wk.items, Wk.ok, truth, isD, tyOf, bd_add, bd_sub, bd_mulr, bd_mull, bd_fdiv, bd_mod, bd_pow, cd_lt, cd_le, cd_gt, cd_ge, bi_abs, bi_max, bi_min, bi_lenS, bi_lenT, bi_lenR, bi_tupT, bi_listT, at20, at21, ixn20, ixn21, gc_set, Int.reduceLT, Int.reduceNeg, Int.reduceLE, Nat.reduceAdd, Nat.reduceLT, Nat.reduceLeDiff, pow_18, pow_9, pow_8, Op_addtup, sl_tup, Int.reduceToNat, Nat.zero_add, Nat.reduceSub, Int.reducePow, Int.reduceSub, Int.reduceMul, Int.reduceAdd, gc_int, gc_bl, gc_str, gc_tup, true_and, and_true, kit_NoneType_int, kit_NoneType_bool, kit_NoneType_str, kit_NoneType_tuple, kit_NoneType_list, kit_bool_int, kit_bool_bool, kit_bool_str, kit_bool_tuple, kit_bool_list, kit_int_int, kit_int_bool, kit_int_str, kit_int_tuple, kit_int_list, kit_str_int, kit_str_bool, kit_str_str, kit_str_tuple, kit_str_list, kit_tuple_int, kit_tuple_bool, kit_tuple_str, kit_tuple_tuple, kit_tuple_list, kit_list_int, kit_list_bool, kit_list_str, kit_list_tuple, kit_list_list, Bool.not_true, ne1, hr T10 w2 ew10, cd_ne_str, beq_self_eq_true])
    -- other
    rw [lo8_eq, WCs_cons, WC_asg, WE_call]
    (try simp only [WCs_cons, WCs_nil, WC_exp, WC_asg, WC_sto, WC_ret, WC_retN, WC_ife, WC_pass, WC_brk, WC_cnt, WE_var, WE_cst, WE_tup, WE_lst, WE_bin, WE_neg, WE_cmp, WE_chain, WE_is, WE_and, WE_or, WE_not, WE_ife, WE_bi, WE_isi, WE_meth, WE_ix, WE_sl, WE_rev, WO_none, WO_some, WT_and, WT_or, WT_not, WT_ife, WEs_nil, WEs_cons, WT_pl (e := .var _) rfl, WT_pl (e := .cst _) rfl, WT_pl (e := .cmp _ _ _) rfl, WT_pl (e := .chain _ _ _ _ _) rfl, WT_pl (e := .is_ _ _ _) rfl, WT_pl (e := .call _ _) rfl, WT_pl (e := .bi _ _) rfl, WT_pl (e := .isi _ _) rfl, WT_pl (e := .meth _ _ _) rfl, WT_pl (e := .ix _ _) rfl, WW_pl (e := .var _) rfl, WW_pl (e := .lst _) rfl, WW_pl (e := .tup _) rfl, WW_rng1, List.map_cons, List.map_nil, List.length_cons, List.length_nil, List.cons_append, List.nil_append, List.replicate, List.getElem?_cons_zero, List.getElem?_cons_succ, Fin_rt, Fin_nx, gc_self, asg, asgAll, List.set_cons_zero, List.set_cons_succ, Op_some, Opg_some, wkOf, Wk.items, Wk.ok, truth, isD, tyOf, bd_add, bd_sub, bd_mulr, bd_mull, bd_fdiv, bd_mod, bd_pow, cd_lt, cd_le, cd_gt, cd_ge, bi_abs, bi_max, bi_min, bi_lenS, bi_lenT, bi_lenR, bi_tupT, bi_listT, at20, at21, ixn20, ixn21, gc_set, Int.reduceLT, Int.reduceNeg, Int.reduceLE, Nat.reduceAdd, Nat.reduceLT, Nat.reduceLeDiff, pow_18, pow_9, pow_8, Op_addtup, sl_tup, Int.reduceToNat, Nat.zero_add, Nat.reduceSub, Int.reducePow, Int.reduceSub, Int.reduceMul, Int.reduceAdd, gc_int, gc_bl, gc_str, gc_tup, true_and, and_true])
    refine Op.of (turned_ok pw lw2) ?_
    rw [gc_self]
    try simp only
    -- pairs
    rw [lo9_eq, WCs_cons, WC_asg]
    refine turned_lc pw lw2 ⟨_, _, _, _, _, _, _, _, _, _, _, _, rfl⟩ ?_
    (try simp only [WCs_cons, WCs_nil, WC_exp, WC_asg, WC_sto, WC_ret, WC_retN, WC_ife, WC_pass, WC_brk, WC_cnt, WE_var, WE_cst, WE_tup, WE_lst, WE_bin, WE_neg, WE_cmp, WE_chain, WE_is, WE_and, WE_or, WE_not, WE_ife, WE_bi, WE_isi, WE_meth, WE_ix, WE_sl, WE_rev, WO_none, WO_some, WT_and, WT_or, WT_not, WT_ife, WEs_nil, WEs_cons, WT_pl (e := .var _) rfl, WT_pl (e := .cst _) rfl, WT_pl (e := .cmp _ _ _) rfl, WT_pl (e := .chain _ _ _ _ _) rfl, WT_pl (e := .is_ _ _ _) rfl, WT_pl (e := .call _ _) rfl, WT_pl (e := .bi _ _) rfl, WT_pl (e := .isi _ _) rfl, WT_pl (e := .meth _ _ _) rfl, WT_pl (e := .ix _ _) rfl, WW_pl (e := .var _) rfl, WW_pl (e := .lst _) rfl, WW_pl (e := .tup _) rfl, WW_rng1, List.map_cons, List.map_nil, List.length_cons, List.length_nil, List.cons_append, List.nil_append, List.replicate, List.getElem?_cons_zero, List.getElem?_cons_succ, Fin_rt, Fin_nx, gc_self, asg, asgAll, List.set_cons_zero, List.set_cons_succ, Op_some, Opg_some, wkOf, Wk.items, Wk.ok, truth, isD, tyOf, bd_add, bd_sub, bd_mulr, bd_mull, bd_fdiv, bd_mod, bd_pow, cd_lt, cd_le, cd_gt, cd_ge, bi_abs, bi_max, bi_min, bi_lenS, bi_lenT, bi_lenR, bi_tupT, bi_listT, at20, at21, ixn20, ixn21, gc_set, Int.reduceLT, Int.reduceNeg, Int.reduceLE, Nat.reduceAdd, Nat.reduceLT, Nat.reduceLeDiff, pow_18, pow_9, pow_8, Op_addtup, sl_tup, Int.reduceToNat, Nat.zero_add, Nat.reduceSub, Int.reducePow, Int.reduceSub, Int.reduceMul, Int.reduceAdd, gc_int, gc_bl, gc_str, gc_tup, true_and, and_true])
    rw [lo10_eq]
    have el : (T10 ++ [Ob.lst (ws.map turnP)])[T10.length]? = some (.lst (ws.map turnP)) := by simp
    have erev : revD (.loc .lst T10.length) (T10 ++ [Ob.lst (ws.map turnP)]) = some (.loc .lst (T10 ++ [Ob.lst (ws.map turnP)]).length, T10 ++ [Ob.lst (ws.map turnP)] ++ [.lst (ws.map turnP).reverse]) := by
      simp only [revD, lstOf, el]
    have el2 : (T10 ++ [Ob.lst (ws.map turnP)] ++ [Ob.lst (ws.map turnP).reverse])[(T10 ++ [Ob.lst (ws.map turnP)]).length]? = some (.lst (ws.map turnP).reverse) := by
      rw [List.getElem?_append_right (Nat.le_refl _)]
      simp
    have erw : (ws.map turnP).reverse = turnW ws := by
      unfold turnW
      rw [List.map_reverse]
    rw [erw] at erev el2
    have und : ∀ S : Sto, D.under S.length (.tup (turnW ws)) = true := fun S => under_all fun x h => (PcW.under (tp x h))
    obtain ⟨p2, hp2⟩ := word_pd tp
    have ne2 : ∀ S : Sto, cmpD g .ne (.tup (turnW ws)) (.tup (turnW ws)) S = some false := fun S => cd_ne_self hp2 (by omega)
    (try simp only [WCs_cons, WCs_nil, WC_exp, WC_asg, WC_sto, WC_ret, WC_retN, WC_ife, WC_pass, WC_brk, WC_cnt, WE_var, WE_cst, WE_tup, WE_lst, WE_bin, WE_neg, WE_cmp, WE_chain, WE_is, WE_and, WE_or, WE_not, WE_ife, WE_bi, WE_isi, WE_meth, WE_ix, WE_sl, WE_rev, WO_none, WO_some, WT_and, WT_or, WT_not, WT_ife, WEs_nil, WEs_cons, WT_pl (e := .var _) rfl, WT_pl (e := .cst _) rfl, WT_pl (e := .cmp _ _ _) rfl, WT_pl (e := .chain _ _ _ _ _) rfl, WT_pl (e := .is_ _ _ _) rfl, WT_pl (e := .call _ _) rfl, WT_pl (e := .bi _ _) rfl, WT_pl (e := .isi _ _) rfl, WT_pl (e := .meth _ _ _) rfl, WT_pl (e := .ix _ _) rfl, WW_pl (e := .var _) rfl, WW_pl (e := .lst _) rfl, WW_pl (e := .tup _) rfl, WW_rng1, List.map_cons, List.map_nil, List.length_cons, List.length_nil, List.cons_append, List.nil_append, List.replicate, List.getElem?_cons_zero, List.getElem?_cons_succ, Fin_rt, Fin_nx, gc_self, asg, asgAll, List.set_cons_zero, List.set_cons_succ, Op_some, Opg_some, wkOf, Wk.items, Wk.ok, truth, isD, tyOf, bd_add, bd_sub, bd_mulr, bd_mull, bd_fdiv, bd_mod, bd_pow, cd_lt, cd_le, cd_gt, cd_ge, bi_abs, bi_max, bi_min, bi_lenS, bi_lenT, bi_lenR, bi_tupT, bi_listT, at20, at21, ixn20, ixn21, gc_set, Int.reduceLT, Int.reduceNeg, Int.reduceLE, Nat.reduceAdd, Nat.reduceLT, Nat.reduceLeDiff, pow_18, pow_9, pow_8, Op_addtup, sl_tup, Int.reduceToNat, Nat.zero_add, Nat.reduceSub, Int.reducePow, Int.reduceSub, Int.reduceMul, Int.reduceAdd, gc_int, gc_bl, gc_str, gc_tup, true_and, and_true, kit_NoneType_int, kit_NoneType_bool, kit_NoneType_str, kit_NoneType_tuple, kit_NoneType_list, kit_bool_int, kit_bool_bool, kit_bool_str, kit_bool_tuple, kit_bool_list, kit_int_int, kit_int_bool, kit_int_str, kit_int_tuple, kit_int_list, kit_str_int, kit_str_bool, kit_str_str, kit_str_tuple, kit_str_list, kit_tuple_int, kit_tuple_bool, kit_tuple_str, kit_tuple_tuple, kit_tuple_list, kit_list_int, kit_list_bool, kit_list_str, kit_list_tuple, kit_list_list, Bool.not_true, erev, gc_last, bi_tupL el2, gc_app (und _), ne2])
    -- the end
    rw [lo11_eq]
    have ew11 : (T10 ++ [Ob.lst (ws.map turnP)])[w2]? = some (.dct kvs) := by
      rw [List.getElem?_append_left (List.getElem?_eq_some_iff.mp ew10).1]
      exact ew10
    rw [WCs_cons, WC_ife, WT_or, WT_pl rfl, WE_cmp, WE_call]
    (try simp only [WCs_cons, WCs_nil, WC_exp, WC_asg, WC_sto, WC_ret, WC_retN, WC_ife, WC_pass, WC_brk, WC_cnt, WE_var, WE_cst, WE_tup, WE_lst, WE_bin, WE_neg, WE_cmp, WE_chain, WE_is, WE_and, WE_or, WE_not, WE_ife, WE_bi, WE_isi, WE_meth, WE_ix, WE_sl, WE_rev, WO_none, WO_some, WT_and, WT_or, WT_not, WT_ife, WEs_nil, WEs_cons, WT_pl (e := .var _) rfl, WT_pl (e := .cst _) rfl, WT_pl (e := .cmp _ _ _) rfl, WT_pl (e := .chain _ _ _ _ _) rfl, WT_pl (e := .is_ _ _ _) rfl, WT_pl (e := .call _ _) rfl, WT_pl (e := .bi _ _) rfl, WT_pl (e := .isi _ _) rfl, WT_pl (e := .meth _ _ _) rfl, WT_pl (e := .ix _ _) rfl, WW_pl (e := .var _) rfl, WW_pl (e := .lst _) rfl, WW_pl (e := .tup _) rfl, WW_rng1, List.map_cons, List.map_nil, List.length_cons, List.length_nil, List.cons_append, List.nil_append, List.replicate, List.getElem?_cons_zero, List.getElem?_cons_succ, Fin_rt, Fin_nx, gc_self, asg, asgAll, List.set_cons_zero, List.set_cons_succ, Op_some, Opg_some, wkOf, Wk.items, Wk.ok, truth, isD, tyOf, bd_add, bd_sub, bd_mulr, bd_mull, bd_fdiv, bd_mod, bd_pow, cd_lt, cd_le, cd_gt, cd_ge, bi_abs, bi_max, bi_min, bi_lenS, bi_lenT, bi_lenR, bi_tupT, bi_listT, at20, at21, ixn20, ixn21, gc_set, Int.reduceLT, Int.reduceNeg, Int.reduceLE, Nat.reduceAdd, Nat.reduceLT, Nat.reduceLeDiff, pow_18, pow_9, pow_8, Op_addtup, sl_tup, Int.reduceToNat, Nat.zero_add, Nat.reduceSub, Int.reducePow, Int.reduceSub, Int.reduceMul, Int.reduceAdd, gc_int, gc_bl, gc_str, gc_tup, true_and, and_true])
    refine Op.of (row_of_ok ew11 tp lt2) ?_
    obtain ⟨p3, hp3⟩ := row_pd tp
    rw [t3] at hp3 ⊢
    have ne3 : ∀ S : Sto, cmpD g .ne (.tup (rowW kvs ws).reverse) (.tup (rowW kvs ws).reverse) S = some false := fun S => cd_ne_self hp3 (by omega)
    (try simp only [WCs_cons, WCs_nil, WC_exp, WC_asg, WC_sto, WC_ret, WC_retN, WC_ife, WC_pass, WC_brk, WC_cnt, WE_var, WE_cst, WE_tup, WE_lst, WE_bin, WE_neg, WE_cmp, WE_chain, WE_is, WE_and, WE_or, WE_not, WE_ife, WE_bi, WE_isi, WE_meth, WE_ix, WE_sl, WE_rev, WO_none, WO_some, WT_and, WT_or, WT_not, WT_ife, WEs_nil, WEs_cons, WT_pl (e := .var _) rfl, WT_pl (e := .cst _) rfl, WT_pl (e := .cmp _ _ _) rfl, WT_pl (e := .chain _ _ _ _ _) rfl, WT_pl (e := .is_ _ _ _) rfl, WT_pl (e := .call _ _) rfl, WT_pl (e := .bi _ _) rfl, WT_pl (e := .isi _ _) rfl, WT_pl (e := .meth _ _ _) rfl, WT_pl (e := .ix _ _) rfl, WW_pl (e := .var _) rfl, WW_pl (e := .lst _) rfl, WW_pl (e := .tup _) rfl, WW_rng1, List.map_cons, List.map_nil, List.length_cons, List.length_nil, List.cons_append, List.nil_append, List.replicate, List.getElem?_cons_zero, List.getElem?_cons_succ, Fin_rt, Fin_nx, gc_self, asg, asgAll, List.set_cons_zero, List.set_cons_succ, Op_some, Opg_some, wkOf, Wk.items, Wk.ok, truth, isD, tyOf, bd_add, bd_sub, bd_mulr, bd_mull, bd_fdiv, bd_mod, bd_pow, cd_lt, cd_le, cd_gt, cd_ge, bi_abs, bi_max, bi_min, bi_lenS, bi_lenT, bi_lenR, bi_tupT, bi_listT, at20, at21, ixn20, ixn21, gc_set, Int.reduceLT, Int.reduceNeg, Int.reduceLE, Nat.reduceAdd, Nat.reduceLT, Nat.reduceLeDiff, pow_18, pow_9, pow_8, Op_addtup, sl_tup, Int.reduceToNat, Nat.zero_add, Nat.reduceSub, Int.reducePow, Int.reduceSub, Int.reduceMul, Int.reduceAdd, gc_int, gc_bl, gc_str, gc_tup, true_and, and_true, revD, ne3])
    rw [WE_call]
    (try simp only [WCs_cons, WCs_nil, WC_exp, WC_asg, WC_sto, WC_ret, WC_retN, WC_ife, WC_pass, WC_brk, WC_cnt, WE_var, WE_cst, WE_tup, WE_lst, WE_bin, WE_neg, WE_cmp, WE_chain, WE_is, WE_and, WE_or, WE_not, WE_ife, WE_bi, WE_isi, WE_meth, WE_ix, WE_sl, WE_rev, WO_none, WO_some, WT_and, WT_or, WT_not, WT_ife, WEs_nil, WEs_cons, WT_pl (e := .var _) rfl, WT_pl (e := .cst _) rfl, WT_pl (e := .cmp _ _ _) rfl, WT_pl (e := .chain _ _ _ _ _) rfl, WT_pl (e := .is_ _ _ _) rfl, WT_pl (e := .call _ _) rfl, WT_pl (e := .bi _ _) rfl, WT_pl (e := .isi _ _) rfl, WT_pl (e := .meth _ _ _) rfl, WT_pl (e := .ix _ _) rfl, WW_pl (e := .var _) rfl, WW_pl (e := .lst _) rfl, WW_pl (e := .tup _) rfl, WW_rng1, List.map_cons, List.map_nil, List.length_cons, List.length_nil, List.cons_append, List.nil_append, List.replicate, List.getElem?_cons_zero, List.getElem?_cons_succ, Fin_rt, Fin_nx, gc_self, asg, asgAll, List.set_cons_zero, List.set_cons_succ, Op_some, Opg_some, wkOf, Wk.items, Wk.ok, truth, isD, tyOf, bd_add, bd_sub, bd_mulr, bd_mull, bd_fdiv, bd_mod, bd_pow, cd_lt, cd_le, cd_gt, cd_ge, bi_abs, bi_max, bi_min, bi_lenS, bi_lenT, bi_lenR, bi_tupT, bi_listT, at20, at21, ixn20, ixn21, gc_set, Int.reduceLT, Int.reduceNeg, Int.reduceLE, Nat.reduceAdd, Nat.reduceLT, Nat.reduceLeDiff, pow_18, pow_9, pow_8, Op_addtup, sl_tup, Int.reduceToNat, Nat.zero_add, Nat.reduceSub, Int.reducePow, Int.reduceSub, Int.reduceMul, Int.reduceAdd, gc_int, gc_bl, gc_str, gc_tup, true_and, and_true])
    refine Op.of (turned_ok tp lt2) ?_
    rw [t2]
    obtain ⟨p4, hp4⟩ := word_pd pw
    have ne4 : ∀ S : Sto, cmpD g .ne (.tup ws) (.tup ws) S = some false := fun S => cd_ne_self hp4 (by omega)
    (try simp only [WCs_cons, WCs_nil, WC_exp, WC_asg, WC_sto, WC_ret, WC_retN, WC_ife, WC_pass, WC_brk, WC_cnt, WE_var, WE_cst, WE_tup, WE_lst, WE_bin, WE_neg, WE_cmp, WE_chain, WE_is, WE_and, WE_or, WE_not, WE_ife, WE_bi, WE_isi, WE_meth, WE_ix, WE_sl, WE_rev, WO_none, WO_some, WT_and, WT_or, WT_not, WT_ife, WEs_nil, WEs_cons, WT_pl (e := .var _) rfl, WT_pl (e := .cst _) rfl, WT_pl (e := .cmp _ _ _) rfl, WT_pl (e := .chain _ _ _ _ _) rfl, WT_pl (e := .is_ _ _ _) rfl, WT_pl (e := .call _ _) rfl, WT_pl (e := .bi _ _) rfl, WT_pl (e := .isi _ _) rfl, WT_pl (e := .meth _ _ _) rfl, WT_pl (e := .ix _ _) rfl, WW_pl (e := .var _) rfl, WW_pl (e := .lst _) rfl, WW_pl (e := .tup _) rfl, WW_rng1, List.map_cons, List.map_nil, List.length_cons, List.length_nil, List.cons_append, List.nil_append, List.replicate, List.getElem?_cons_zero, List.getElem?_cons_succ, Fin_rt, Fin_nx, gc_self, asg, asgAll, List.set_cons_zero, List.set_cons_succ, Op_some, Opg_some, wkOf, Wk.items, Wk.ok, truth, isD, tyOf, bd_add, bd_sub, bd_mulr, bd_mull, bd_fdiv, bd_mod, bd_pow, cd_lt, cd_le, cd_gt, cd_ge, bi_abs, bi_max, bi_min, bi_lenS, bi_lenT, bi_lenR, bi_tupT, bi_listT, at20, at21, ixn20, ixn21, gc_set, Int.reduceLT, Int.reduceNeg, Int.reduceLE, Nat.reduceAdd, Nat.reduceLT, Nat.reduceLeDiff, pow_18, pow_9, pow_8, Op_addtup, sl_tup, Int.reduceToNat, Nat.zero_add, Nat.reduceSub, Int.reducePow, Int.reduceSub, Int.reduceMul, Int.reduceAdd, gc_int, gc_bl, gc_str, gc_tup, true_and, and_true, ne4])
    rw [lo12_eq]
    (try simp only [WCs_cons, WCs_nil, WC_exp, WC_asg, WC_sto, WC_ret, WC_retN, WC_ife, WC_pass, WC_brk, WC_cnt, WE_var, WE_cst, WE_tup, WE_lst, WE_bin, WE_neg, WE_cmp, WE_chain, WE_is, WE_and, WE_or, WE_not, WE_ife, WE_bi, WE_isi, WE_meth, WE_ix, WE_sl, WE_rev, WO_none, WO_some, WT_and, WT_or, WT_not, WT_ife, WEs_nil, WEs_cons, WT_pl (e := .var _) rfl, WT_pl (e := .cst _) rfl, WT_pl (e := .cmp _ _ _) rfl, WT_pl (e := .chain _ _ _ _ _) rfl, WT_pl (e := .is_ _ _ _) rfl, WT_pl (e := .call _ _) rfl, WT_pl (e := .bi _ _) rfl, WT_pl (e := .isi _ _) rfl, WT_pl (e := .meth _ _ _) rfl, WT_pl (e := .ix _ _) rfl, WW_pl (e := .var _) rfl, WW_pl (e := .lst _) rfl, WW_pl (e := .tup _) rfl, WW_rng1, List.map_cons, List.map_nil, List.length_cons, List.length_nil, List.cons_append, List.nil_append, List.replicate, List.getElem?_cons_zero, List.getElem?_cons_succ, Fin_rt, Fin_nx, gc_self, asg, asgAll, List.set_cons_zero, List.set_cons_succ, Op_some, Opg_some, wkOf, Wk.items, Wk.ok, truth, isD, tyOf, bd_add, bd_sub, bd_mulr, bd_mull, bd_fdiv, bd_mod, bd_pow, cd_lt, cd_le, cd_gt, cd_ge, bi_abs, bi_max, bi_min, bi_lenS, bi_lenT, bi_lenR, bi_tupT, bi_listT, at20, at21, ixn20, ixn21, gc_set, Int.reduceLT, Int.reduceNeg, Int.reduceLE, Nat.reduceAdd, Nat.reduceLT, Nat.reduceLeDiff, pow_18, pow_9, pow_8, Op_addtup, sl_tup, Int.reduceToNat, Nat.zero_add, Nat.reduceSub, Int.reducePow, Int.reduceSub, Int.reduceMul, Int.reduceAdd, gc_int, gc_bl, gc_str, gc_tup, true_and, and_true])
    exact ⟨_, _, _, _, _, _, _, _, _, _, _, _, rfl⟩
  · rintro env S1 ⟨o1, o2, o3, o4, o5, o6, o7, o8, o9, o10, o11, o12, rfl⟩
    try simp only
    rw [la1_eq]
    have pn : ∀ x ∈ ([] : List D), PcW [] x := fun x hx => by cases hx
    have eqn : ∀ S : Sto, cmpD g .eq (.tup []) (.tup []) S = some true := fun S => rfl
    rw [WCs_cons, WC_ret, WE_and, WE_cmp, WE_call]
    (try simp only [WCs_cons, WCs_nil, WC_exp, WC_asg, WC_sto, WC_ret, WC_retN, WC_ife, WC_pass, WC_brk, WC_cnt, WE_var, WE_cst, WE_tup, WE_lst, WE_bin, WE_neg, WE_cmp, WE_chain, WE_is, WE_and, WE_or, WE_not, WE_ife, WE_bi, WE_isi, WE_meth, WE_ix, WE_sl, WE_rev, WO_none, WO_some, WT_and, WT_or, WT_not, WT_ife, WEs_nil, WEs_cons, WT_pl (e := .var _) rfl, WT_pl (e := .cst _) rfl, WT_pl (e := .cmp _ _ _) rfl, WT_pl (e := .chain _ _ _ _ _) rfl, WT_pl (e := .is_ _ _ _) rfl, WT_pl (e := .call _ _) rfl, WT_pl (e := .bi _ _) rfl, WT_pl (e := .isi _ _) rfl, WT_pl (e := .meth _ _ _) rfl, WT_pl (e := .ix _ _) rfl, WW_pl (e := .var _) rfl, WW_pl (e := .lst _) rfl, WW_pl (e := .tup _) rfl, WW_rng1, List.map_cons, List.map_nil, List.length_cons, List.length_nil, List.cons_append, List.nil_append, List.replicate, List.getElem?_cons_zero, List.getElem?_cons_succ, Fin_rt, Fin_nx, gc_self, asg, asgAll, List.set_cons_zero, List.set_cons_succ, Op_some, Opg_some, wkOf, Wk.items, Wk.ok, truth, isD, tyOf, bd_add, bd_sub, bd_mulr, bd_mull, bd_fdiv, bd_mod, bd_pow, cd_lt, cd_le, cd_gt, cd_ge, bi_abs, bi_max, bi_min, bi_lenS, bi_lenT, bi_lenR, bi_tupT, bi_listT, at20, at21, ixn20, ixn21, gc_set, Int.reduceLT, Int.reduceNeg, Int.reduceLE, Nat.reduceAdd, Nat.reduceLT, Nat.reduceLeDiff, pow_18, pow_9, pow_8, Op_addtup, sl_tup, Int.reduceToNat, Nat.zero_add, Nat.reduceSub, Int.reducePow, Int.reduceSub, Int.reduceMul, Int.reduceAdd, gc_int, gc_bl, gc_str, gc_tup, true_and, and_true, WE_dct])
    refine ⟨Nat.zero_le _, by decide, ?_⟩
    refine Op.of (row_of_ok (kvs := []) (by simp) pn (by simp)) ?_
    have e0 : rowW [] [] = [] := rfl
    rw [e0]
    (try simp only [WCs_cons, WCs_nil, WC_exp, WC_asg, WC_sto, WC_ret, WC_retN, WC_ife, WC_pass, WC_brk, WC_cnt, WE_var, WE_cst, WE_tup, WE_lst, WE_bin, WE_neg, WE_cmp, WE_chain, WE_is, WE_and, WE_or, WE_not, WE_ife, WE_bi, WE_isi, WE_meth, WE_ix, WE_sl, WE_rev, WO_none, WO_some, WT_and, WT_or, WT_not, WT_ife, WEs_nil, WEs_cons, WT_pl (e := .var _) rfl, WT_pl (e := .cst _) rfl, WT_pl (e := .cmp _ _ _) rfl, WT_pl (e := .chain _ _ _ _ _) rfl, WT_pl (e := .is_ _ _ _) rfl, WT_pl (e := .call _ _) rfl, WT_pl (e := .bi _ _) rfl, WT_pl (e := .isi _ _) rfl, WT_pl (e := .meth _ _ _) rfl, WT_pl (e := .ix _ _) rfl, WW_pl (e := .var _) rfl, WW_pl (e := .lst _) rfl, WW_pl (e := .tup _) rfl, WW_rng1, List.map_cons, List.map_nil, List.length_cons, List.length_nil, List.cons_append, List.nil_append, List.replicate, List.getElem?_cons_zero, List.getElem?_cons_succ, Fin_rt, Fin_nx, gc_self, asg, asgAll, List.set_cons_zero, List.set_cons_succ, Op_some, Opg_some, wkOf, Wk.items, Wk.ok, truth, isD, tyOf, bd_add, bd_sub, bd_mulr, bd_mull, bd_fdiv, bd_mod, bd_pow, cd_lt, cd_le, cd_gt, cd_ge, bi_abs, bi_max, bi_min, bi_lenS, bi_lenT, bi_lenR, bi_tupT, bi_listT, at20, at21, ixn20, ixn21, gc_set, Int.reduceLT, Int.reduceNeg, Int.reduceLE, Nat.reduceAdd, Nat.reduceLT, Nat.reduceLeDiff, pow_18, pow_9, pow_8, Op_addtup, sl_tup, Int.reduceToNat, Nat.zero_add, Nat.reduceSub, Int.reducePow, Int.reduceSub, Int.reduceMul, Int.reduceAdd, gc_int, gc_bl, gc_str, gc_tup, true_and, and_true, eqn, gc_app_bl])
    rw [WE_call]
    (try simp only [WCs_cons, WCs_nil, WC_exp, WC_asg, WC_sto, WC_ret, WC_retN, WC_ife, WC_pass, WC_brk, WC_cnt, WE_var, WE_cst, WE_tup, WE_lst, WE_bin, WE_neg, WE_cmp, WE_chain, WE_is, WE_and, WE_or, WE_not, WE_ife, WE_bi, WE_isi, WE_meth, WE_ix, WE_sl, WE_rev, WO_none, WO_some, WT_and, WT_or, WT_not, WT_ife, WEs_nil, WEs_cons, WT_pl (e := .var _) rfl, WT_pl (e := .cst _) rfl, WT_pl (e := .cmp _ _ _) rfl, WT_pl (e := .chain _ _ _ _ _) rfl, WT_pl (e := .is_ _ _ _) rfl, WT_pl (e := .call _ _) rfl, WT_pl (e := .bi _ _) rfl, WT_pl (e := .isi _ _) rfl, WT_pl (e := .meth _ _ _) rfl, WT_pl (e := .ix _ _) rfl, WW_pl (e := .var _) rfl, WW_pl (e := .lst _) rfl, WW_pl (e := .tup _) rfl, WW_rng1, List.map_cons, List.map_nil, List.length_cons, List.length_nil, List.cons_append, List.nil_append, List.replicate, List.getElem?_cons_zero, List.getElem?_cons_succ, Fin_rt, Fin_nx, gc_self, asg, asgAll, List.set_cons_zero, List.set_cons_succ, Op_some, Opg_some, wkOf, Wk.items, Wk.ok, truth, isD, tyOf, bd_add, bd_sub, bd_mulr, bd_mull, bd_fdiv, bd_mod, bd_pow, cd_lt, cd_le, cd_gt, cd_ge, bi_abs, bi_max, bi_min, bi_lenS, bi_lenT, bi_lenR, bi_tupT, bi_listT, at20, at21, ixn20, ixn21, gc_set, Int.reduceLT, Int.reduceNeg, Int.reduceLE, Nat.reduceAdd, Nat.reduceLT, Nat.reduceLeDiff, pow_18, pow_9, pow_8, Op_addtup, sl_tup, Int.reduceToNat, Nat.zero_add, Nat.reduceSub, Int.reducePow, Int.reduceSub, Int.reduceMul, Int.reduceAdd, gc_int, gc_bl, gc_str, gc_tup, true_and, and_true])
    refine ⟨Nat.zero_le _, Nat.zero_le _, ?_⟩
    refine Op.of (turned_ok pn (by simp)) ?_
    have e1 : turnW [] = [] := rfl
    rw [e1]
    (try simp only [WCs_cons, WCs_nil, WC_exp, WC_asg, WC_sto, WC_ret, WC_retN, WC_ife, WC_pass, WC_brk, WC_cnt, WE_var, WE_cst, WE_tup, WE_lst, WE_bin, WE_neg, WE_cmp, WE_chain, WE_is, WE_and, WE_or, WE_not, WE_ife, WE_bi, WE_isi, WE_meth, WE_ix, WE_sl, WE_rev, WO_none, WO_some, WT_and, WT_or, WT_not, WT_ife, WEs_nil, WEs_cons, WT_pl (e := .var _) rfl, WT_pl (e := .cst _) rfl, WT_pl (e := .cmp _ _ _) rfl, WT_pl (e := .chain _ _ _ _ _) rfl, WT_pl (e := .is_ _ _ _) rfl, WT_pl (e := .call _ _) rfl, WT_pl (e := .bi _ _) rfl, WT_pl (e := .isi _ _) rfl, WT_pl (e := .meth _ _ _) rfl, WT_pl (e := .ix _ _) rfl, WW_pl (e := .var _) rfl, WW_pl (e := .lst _) rfl, WW_pl (e := .tup _) rfl, WW_rng1, List.map_cons, List.map_nil, List.length_cons, List.length_nil, List.cons_append, List.nil_append, List.replicate, List.getElem?_cons_zero, List.getElem?_cons_succ, Fin_rt, Fin_nx, gc_self, asg, asgAll, List.set_cons_zero, List.set_cons_succ, Op_some, Opg_some, wkOf, Wk.items, Wk.ok, truth, isD, tyOf, bd_add, bd_sub, bd_mulr, bd_mull, bd_fdiv, bd_mod, bd_pow, cd_lt, cd_le, cd_gt, cd_ge, bi_abs, bi_max, bi_min, bi_lenS, bi_lenT, bi_lenR, bi_tupT, bi_listT, at20, at21, ixn20, ixn21, gc_set, Int.reduceLT, Int.reduceNeg, Int.reduceLE, Nat.reduceAdd, Nat.reduceLT, Nat.reduceLeDiff, pow_18, pow_9, pow_8, Op_addtup, sl_tup, Int.reduceToNat, Nat.zero_add, Nat.reduceSub, Int.reducePow, Int.reduceSub, Int.reduceMul, Int.reduceAdd, gc_int, gc_bl, gc_str, gc_tup, true_and, and_true, eqn])
    exact Nat.zero_le _
end
end CV.k02

set_option maxHeartbeats 0
namespace CV.k02
open PySem CV PySem.Spec PyProof.Rows L2
theorem c_turned : cF tb f_turned.nm f_turned.ps f_turned.N (top 2) = some f_turned := by kernel_rfl
theorem c_number_of : cF tb f_number_of.nm f_number_of.ps f_number_of.N (top 3) = some f_number_of := by kernel_rfl
theorem c_piece_row : cF tb f_piece_row.nm f_piece_row.ps f_piece_row.N (top 4) = some f_piece_row := by kernel_rfl
theorem c_row_of : cF tb f_row_of.nm f_row_of.ps f_row_of.N (top 5) = some f_row_of := by kernel_rfl
theorem c__law_feed : cF tb f__law_feed.nm f__law_feed.ps f__law_feed.N (top 7) = some f__law_feed := by kernel_rfl
theorem c__law_take : cF tb f__law_take.nm f__law_take.ps f__law_take.N (top 8) = some f__law_take := by kernel_rfl
theorem c__law_pick : cF tb f__law_pick.nm f__law_pick.ps f__law_pick.N (top 9) = some f__law_pick := by kernel_rfl
theorem c__law_names : cF tb f__law_names.nm f__law_names.ps f__law_names.N (top 10) = some f__law_names := by kernel_rfl
theorem c__law_number : cF tb f__law_number.nm f__law_number.ps f__law_number.N (top 11) = some f__law_number := by kernel_rfl
theorem c__law_word : cF tb f__law_word.nm f__law_word.ps f__law_word.N (top 12) = some f__law_word := by kernel_rfl
theorem c__law_row : cF tb f__law_row.nm f__law_row.ps f__law_row.N (top 13) = some f__law_row := by kernel_rfl
theorem c__law_worths : cF tb f__law_worths.nm f__law_worths.ps f__law_worths.N (top 14) = some f__law_worths := by kernel_rfl
theorem c_law : cF tb f_law.nm f_law.ps f_law.N (top 15) = some f_law := by kernel_rfl
def d_turned : Dd := ⟨top 2, f_turned⟩
theorem k_turned : d_turned.Ok tb := ⟨c_turned, by kernel_rfl, fun _ _ _ _ _ _ us hl => match us, hl with | [_], _ => rfl⟩
def d_number_of : Dd := ⟨top 3, f_number_of⟩
theorem k_number_of : d_number_of.Ok tb := ⟨c_number_of, by kernel_rfl, fun _ _ _ _ _ _ us hl => match us, hl with | [_, _], _ => rfl⟩
def d_piece_row : Dd := ⟨top 4, f_piece_row⟩
theorem k_piece_row : d_piece_row.Ok tb := ⟨c_piece_row, by kernel_rfl, fun _ _ _ _ _ _ us hl => match us, hl with | [_, _], _ => rfl⟩
def d_row_of : Dd := ⟨top 5, f_row_of⟩
theorem k_row_of : d_row_of.Ok tb := ⟨c_row_of, by kernel_rfl, fun _ _ _ _ _ _ us hl => match us, hl with | [_, _], _ => rfl⟩
def d__law_feed : Dd := ⟨top 7, f__law_feed⟩
theorem k__law_feed : d__law_feed.Ok tb := ⟨c__law_feed, by kernel_rfl, fun _ _ _ _ _ _ us hl => match us, hl with | [_, _], _ => rfl⟩
def d__law_take : Dd := ⟨top 8, f__law_take⟩
theorem k__law_take : d__law_take.Ok tb := ⟨c__law_take, by kernel_rfl, fun _ _ _ _ _ _ us hl => match us, hl with | [_, _], _ => rfl⟩
def d__law_pick : Dd := ⟨top 9, f__law_pick⟩
theorem k__law_pick : d__law_pick.Ok tb := ⟨c__law_pick, by kernel_rfl, fun _ _ _ _ _ _ us hl => match us, hl with | [_, _], _ => rfl⟩
def d__law_names : Dd := ⟨top 10, f__law_names⟩
theorem k__law_names : d__law_names.Ok tb := ⟨c__law_names, by kernel_rfl, fun _ _ _ _ _ _ us hl => match us, hl with | [_, _], _ => rfl⟩
def d__law_number : Dd := ⟨top 11, f__law_number⟩
theorem k__law_number : d__law_number.Ok tb := ⟨c__law_number, by kernel_rfl, fun _ _ _ _ _ _ us hl => match us, hl with | [_], _ => rfl⟩
def d__law_word : Dd := ⟨top 12, f__law_word⟩
theorem k__law_word : d__law_word.Ok tb := ⟨c__law_word, by kernel_rfl, fun _ _ _ _ _ _ us hl => match us, hl with | [_, _, _, _], _ => rfl⟩
def d__law_row : Dd := ⟨top 13, f__law_row⟩
theorem k__law_row : d__law_row.Ok tb := ⟨c__law_row, by kernel_rfl, fun _ _ _ _ _ _ us hl => match us, hl with | [_, _], _ => rfl⟩
def d__law_worths : Dd := ⟨top 14, f__law_worths⟩
theorem k__law_worths : d__law_worths.Ok tb := ⟨c__law_worths, by kernel_rfl, fun _ _ _ _ _ _ us hl => match us, hl with | [_, _, _], _ => rfl⟩
def d_law : Dd := ⟨top 15, f_law⟩
theorem k_law : d_law.Ok tb := ⟨c_law, by kernel_rfl, fun _ _ _ _ _ _ us hl => match us, hl with | [_], _ => rfl⟩
def dds : List Dd := [d_turned, d_number_of, d_piece_row, d_row_of, d__law_feed, d__law_take, d__law_pick, d__law_names, d__law_number, d__law_word, d__law_row, d__law_worths, d_law]
theorem dds_ok : ∀ x ∈ dds, x.Ok tb := by
  intro x hx
  simp only [dds, List.mem_cons, List.not_mem_nil, or_false] at hx
  rcases hx with rfl | rfl | rfl | rfl | rfl | rfl | rfl | rfl | rfl | rfl | rfl | rfl | rfl
  · exact k_turned
  · exact k_number_of
  · exact k_piece_row
  · exact k_row_of
  · exact k__law_feed
  · exact k__law_take
  · exact k__law_pick
  · exact k__law_names
  · exact k__law_number
  · exact k__law_word
  · exact k__law_row
  · exact k__law_worths
  · exact k_law
abbrev R : PySem.W.OpenRow := PySem.W.OpenLaw.row PySem.Challenge.rw_cellvouch_k02_what_words_stand_for
abbrev hk : PySem.W.Hook := He.hookX 4 (fas dds) (dds.map Dd.d) (tabs g) [] (modB tb g)
def ob (s : PySem.W.SharedT) : He.AlX := He.obsX 4 (fas dds) (dds.map Dd.d) (tabs g) [] (modB tb g) (HandSHeadRun.getT s)
theorem ob_eq (s : PySem.W.SharedT) : ob s = hk.obs s.abs := He.obsX_eq (HandSHeadRun.getT_eq s)
theorem run (w : World) : HandSHeadRun.RunEq R (PySem.W.view R.prog [15]) hk ob 20000 ["TURNED", "turned", "number_of", "piece_row", "row_of", "_law_feed", "_law_take", "_law_pick", "_law_names", "_law_number", "_law_word", "_law_row", "_law_worths"] w := by
  refine PySem.W.byRow2 "special-get-raises" (P := fun w => HandSHeadRun.RunEq R (PySem.W.view R.prog [15]) hk ob 20000 ["TURNED", "turned", "number_of", "piece_row", "row_of", "_law_feed", "_law_take", "_law_pick", "_law_names", "_law_number", "_law_word", "_law_row", "_law_worths"] w) (fun w => ?_) (fun w => ?_) w
  · intro os
    kernel_rfl
  · intro os
    kernel_rfl
theorem law_plain : ∀ ns : List Int, ns.length ≤ 63 → ∃ S, callN g (dds.map (·.f)) 100000 60 d_law.f.nm [.scr ns] [] = some (.bl true, S) := fun ns h => by
  obtain ⟨d, S, e, rfl⟩ := Op.ex (law_ok (fuel := 100000) (k := 54) (S := []) h)
  exact ⟨S, e⟩
end CV.k02
open PySem PySem.W PySem.Calls PyProof.Rows in
theorem PySem.Challenge.cw_cellvouch_k02_what_words_stand_for_holds : PySem.Challenge.rw_cellvouch_k02_what_words_stand_for.Holds := by
  w_on; o_law
  refine HandSHeadRun.head_any (r := OpenLaw.row PySem.Challenge.rw_cellvouch_k02_what_words_stand_for) (q := view (OpenLaw.row PySem.Challenge.rw_cellvouch_k02_what_words_stand_for).prog [15]) (H := CV.k02.hk) (ob := CV.k02.ob) (M := 20000) (loose := ["TURNED", "turned", "number_of", "piece_row", "row_of", "_law_feed", "_law_take", "_law_pick", "_law_names", "_law_number", "_law_word", "_law_row", "_law_worths"]) (d := HandSHeadRun.topDef (OpenLaw.row PySem.Challenge.rw_cellvouch_k02_what_words_stand_for).prog 15) (kwd := []) CV.k02.ob_eq
    (by kernel_rfl) (fun s => by kernel_rfl) CV.k02.run (by kernel_rfl) (by kernel_rfl) (by kernel_rfl) (by rfl) (by first | assumption | decide +kernel) (by decide +kernel) ⟨rfl, rfl, rfl, rfl, rfl, by decide +kernel⟩ ?hw ?hc
  case hw => w_witness2
  case hc =>
    exact CV.law_of (l := PySem.Challenge.rw_cellvouch_k02_what_words_stand_for) (dl := CV.k02.d_law) (fuel := 100000) (n := 60) rfl ⟨rfl, by decide, by decide⟩ (by kernel_rfl) (by kernel_rfl) (by kernel_rfl) (by simp [CV.k02.dds]) CV.k02.dds_ok (by decide +kernel) (by kernel_rfl) (by decide +kernel) (by kernel_rfl) CV.k02.law_plain
